import PyProof.Rows.All
import Wide.All
import OpenK.AllK
import Wide.FinOn
import HandS.ForMost
import HandS.Defaults
import PySem.Challenge.RW_truebeat_k80_whole_assembled_programs
import KE.GoesMore
import HandS.Set
import HandS.Strs
import KE.KExcSuper
import HandS.Exc
import HandS.HeadWalk
import HandS.TryOnly
import HandS.TryMany
import HandS.WordsExc
import HandS.IsInst
import HandS.Lambda
import HandS.CallLocal
import HandS.ExcOwn
import HandS.Slots
import HandS.SlotsOwn
import HandS.ExcField
import HandS.HeadHook1
import HandS.Walk
import HandS.DictComp
import HandS.SortInts
import HandS.WideBits
import HandS.CallRecv
import HandS.Wide
import HandS.Codes
import HandS.HeadHook4
import HandS.Conv
import HandS.TupMul
import HandS.DeepEq
import KE.KEqNest
import PyProof.NeKinds
import HandS.NestedK
import HandS.Head0
import HandS.Head1
import HandS.Head2
import KE.KStateDown
import Lean
set_option Elab.async false
set_option linter.all false
set_option maxRecDepth 100000
set_option maxHeartbeats 4000000
/-! The text by places: each def's statement, its slots, its scope. Printed by gen_text.py. -/
namespace K80
open PySem PySem.Spec PyProof.Rows L2
def topS (i : Nat) : Stmt := PySem.Challenge.pw_truebeat_k80_whole_assembled_programs.main.body.getD i (.Pass ⟨0, 0, 0, 0⟩)

abbrev s_TooMany_init : Stmt := inClass (topS 4) 0
abbrev n_TooMany_init : List Str := ["self", "limit", "__class__"]
abbrev s_Refused_init : Stmt := inClass (topS 5) 0
abbrev n_Refused_init : List Str := ["self", "reason", "__class__"]
abbrev s_is_integer : Stmt := topS 7
abbrev n_is_integer : List Str := ["value"]
theorem sc_is_integer : FnScope n_is_integer ["value"] (defScope s_is_integer) := ⟨rfl, rfl, rfl, by decide +kernel, rfl, by decide +kernel, by decide +kernel⟩
abbrev s_is_within : Stmt := topS 8
abbrev n_is_within : List Str := ["value", "least", "most"]
theorem sc_is_within : FnScope n_is_within ["value", "least", "most"] (defScope s_is_within) := ⟨rfl, rfl, rfl, by decide +kernel, rfl, by decide +kernel, by decide +kernel⟩
abbrev s_is_step_word : Stmt := topS 18
abbrev n_is_step_word : List Str := ["value"]
theorem sc_is_step_word : FnScope n_is_step_word ["value"] (defScope s_is_step_word) := ⟨rfl, rfl, rfl, by decide +kernel, rfl, by decide +kernel, by decide +kernel⟩
abbrev s_Shape_init : Stmt := inClass (topS 19) 1
abbrev n_Shape_init : List Str := ["self", "width", "registers"]
theorem sc_Shape_init : FnScope n_Shape_init ["self", "width", "registers"] (defScope s_Shape_init) := ⟨rfl, rfl, rfl, by decide +kernel, rfl, by decide +kernel, by decide +kernel⟩
abbrev s_Shape_width : Stmt := inClass (topS 19) 2
abbrev n_Shape_width : List Str := ["self"]
theorem sc_Shape_width : FnScope n_Shape_width ["self"] (defScope s_Shape_width) := ⟨rfl, rfl, rfl, by decide +kernel, rfl, by decide +kernel, by decide +kernel⟩
abbrev s_Shape_registers : Stmt := inClass (topS 19) 3
abbrev n_Shape_registers : List Str := ["self"]
theorem sc_Shape_registers : FnScope n_Shape_registers ["self"] (defScope s_Shape_registers) := ⟨rfl, rfl, rfl, by decide +kernel, rfl, by decide +kernel, by decide +kernel⟩
abbrev s_Shape_eq : Stmt := inClass (topS 19) 4
abbrev n_Shape_eq : List Str := ["self", "other"]
theorem sc_Shape_eq : FnScope n_Shape_eq ["self", "other"] (defScope s_Shape_eq) := ⟨rfl, rfl, rfl, by decide +kernel, rfl, by decide +kernel, by decide +kernel⟩
abbrev s_Shape_str : Stmt := inClass (topS 19) 5
abbrev n_Shape_str : List Str := ["self"]
theorem sc_Shape_str : FnScope n_Shape_str ["self"] (defScope s_Shape_str) := ⟨rfl, rfl, rfl, by decide +kernel, rfl, by decide +kernel, by decide +kernel⟩
abbrev s_require_shape : Stmt := topS 20
abbrev n_require_shape : List Str := ["shape"]
theorem sc_require_shape : FnScope n_require_shape ["shape"] (defScope s_require_shape) := ⟨rfl, rfl, rfl, by decide +kernel, rfl, by decide +kernel, by decide +kernel⟩
abbrev s_is_name : Stmt := topS 37
abbrev n_is_name : List Str := ["value", "sign"]
theorem sc_is_name : FnScope n_is_name ["value"] (defScope s_is_name) := ⟨rfl, rfl, rfl, by decide +kernel, rfl, by decide +kernel, by decide +kernel⟩
abbrev s_is_line : Stmt := topS 38
abbrev n_is_line : List Str := ["value", "number"]
theorem sc_is_line : FnScope n_is_line ["value"] (defScope s_is_line) := ⟨rfl, rfl, rfl, by decide +kernel, rfl, by decide +kernel, by decide +kernel⟩
abbrev s_is_label : Stmt := topS 39
abbrev n_is_label : List Str := ["line"]
theorem sc_is_label : FnScope n_is_label ["line"] (defScope s_is_label) := ⟨rfl, rfl, rfl, by decide +kernel, rfl, by decide +kernel, by decide +kernel⟩
abbrev s_is_branch : Stmt := topS 40
abbrev n_is_branch : List Str := ["line"]
theorem sc_is_branch : FnScope n_is_branch ["line"] (defScope s_is_branch) := ⟨rfl, rfl, rfl, by decide +kernel, rfl, by decide +kernel, by decide +kernel⟩
abbrev s_require_lines : Stmt := topS 41
abbrev n_require_lines : List Str := ["lines", "labels", "one", "line"]
theorem sc_require_lines : FnScope n_require_lines ["lines"] (defScope s_require_lines) := ⟨rfl, rfl, rfl, by decide +kernel, rfl, by decide +kernel, by decide +kernel⟩
abbrev s_line_places : Stmt := topS 42
abbrev n_line_places : List Str := ["lines", "far", "found", "at", "line", "size"]
theorem sc_line_places : FnScope n_line_places ["lines", "far"] (defScope s_line_places) := ⟨rfl, rfl, rfl, by decide +kernel, rfl, by decide +kernel, by decide +kernel⟩
abbrev s_label_table : Stmt := topS 43
abbrev n_label_table : List Str := ["lines", "places", "at", "line"]
theorem sc_label_table : FnScope n_label_table ["lines", "places"] (defScope s_label_table) := ⟨rfl, rfl, rfl, by decide +kernel, rfl, by decide +kernel, by decide +kernel⟩
abbrev s_not_reaching : Stmt := topS 44
abbrev n_not_reaching : List Str := ["lines", "far", "places", "table", "near", "at", "line"]
theorem sc_not_reaching : FnScope n_not_reaching ["lines", "far"] (defScope s_not_reaching) := ⟨rfl, rfl, rfl, by decide +kernel, rfl, by decide +kernel, by decide +kernel⟩
abbrev s_least_lot : Stmt := topS 45
abbrev n_least_lot : List Str := ["lines", "far", "missing"]
theorem sc_least_lot : FnScope n_least_lot ["lines"] (defScope s_least_lot) := ⟨rfl, rfl, rfl, by decide +kernel, rfl, by decide +kernel, by decide +kernel⟩
abbrev s_words_of_line : Stmt := topS 46
abbrev n_words_of_line : List Str := ["line", "places", "table", "spare", "goal", "ahead"]
theorem sc_words_of_line : FnScope n_words_of_line ["line", "places", "table", "spare"] (defScope s_words_of_line) := ⟨rfl, rfl, rfl, by decide +kernel, rfl, by decide +kernel, by decide +kernel⟩
abbrev s_require_assembly : Stmt := topS 47
abbrev n_require_assembly : List Str := ["shape", "lines"]
theorem sc_require_assembly : FnScope n_require_assembly ["shape", "lines"] (defScope s_require_assembly) := ⟨rfl, rfl, rfl, by decide +kernel, rfl, by decide +kernel, by decide +kernel⟩
abbrev s_far_lot : Stmt := topS 48
abbrev n_far_lot : List Str := ["shape", "lines"]
theorem sc_far_lot : FnScope n_far_lot ["shape", "lines"] (defScope s_far_lot) := ⟨rfl, rfl, rfl, by decide +kernel, rfl, by decide +kernel, by decide +kernel⟩
abbrev s_assemble : Stmt := topS 49
abbrev n_assemble : List Str := ["shape", "lines", "places", "most", "table", "found", "at", "line"]
theorem sc_assemble : FnScope n_assemble ["shape", "lines"] (defScope s_assemble) := ⟨rfl, rfl, rfl, by decide +kernel, rfl, by decide +kernel, by decide +kernel⟩
abbrev s_label_places : Stmt := topS 50
abbrev n_label_places : List Str := ["shape", "lines", "table", "name"]
theorem sc_label_places : FnScope n_label_places ["shape", "lines"] (defScope s_label_places) := ⟨rfl, rfl, rfl, by decide +kernel, rfl, by decide +kernel, by decide +kernel⟩
abbrev s_Ldice : Stmt := topS 52
abbrev n_Ldice : List Str := ["_law_script", "_law_at", "_law_cell", "_law_great", "_law_left", "_law_mixed"]
theorem sc_Ldice : FnScope n_Ldice ["_law_script", "_law_at"] (defScope s_Ldice) := ⟨rfl, rfl, rfl, by decide +kernel, rfl, by decide +kernel, by decide +kernel⟩
abbrev s_Lroll : Stmt := topS 53
abbrev n_Lroll : List Str := ["_law_dice_here", "_law_total", "_law_size", "_law_drawn", "_law_one", "_law_two"]
theorem sc_Lroll : FnScope n_Lroll ["_law_dice_here", "_law_total"] (defScope s_Lroll) := ⟨rfl, rfl, rfl, by decide +kernel, rfl, by decide +kernel, by decide +kernel⟩
abbrev s_Lone_of : Stmt := topS 54
abbrev n_Lone_of : List Str := ["_law_dice_here", "_law_items"]
theorem sc_Lone_of : FnScope n_Lone_of ["_law_dice_here", "_law_items"] (defScope s_Lone_of) := ⟨rfl, rfl, rfl, by decide +kernel, rfl, by decide +kernel, by decide +kernel⟩
abbrev s_Ltwo_to : Stmt := topS 55
abbrev n_Ltwo_to : List Str := ["_law_bits", "_law_found", "_law_turn"]
theorem sc_Ltwo_to : FnScope n_Ltwo_to ["_law_bits"] (defScope s_Ltwo_to) := ⟨rfl, rfl, rfl, by decide +kernel, rfl, by decide +kernel, by decide +kernel⟩
abbrev s_Lstep_word : Stmt := topS 56
abbrev n_Lstep_word : List Str := ["_law_op", "_law_a", "_law_b", "_law_c"]
theorem sc_Lstep_word : FnScope n_Lstep_word ["_law_op", "_law_a", "_law_b", "_law_c"] (defScope s_Lstep_word) := ⟨rfl, rfl, rfl, by decide +kernel, rfl, by decide +kernel, by decide +kernel⟩
abbrev s_Lstep_drawn : Stmt := topS 57
abbrev n_Lstep_drawn : List Str := ["_law_dice_here", "_law_way", "_law_a", "_law_b", "_law_c"]
theorem sc_Lstep_drawn : FnScope n_Lstep_drawn ["_law_dice_here"] (defScope s_Lstep_drawn) := ⟨rfl, rfl, rfl, by decide +kernel, rfl, by decide +kernel, by decide +kernel⟩
abbrev s_Lshuffled : Stmt := topS 58
abbrev n_Lshuffled : List Str := ["_law_dice_here", "_law_items", "_law_left", "_law_found"]
theorem sc_Lshuffled : FnScope n_Lshuffled ["_law_dice_here", "_law_items"] (defScope s_Lshuffled) := ⟨rfl, rfl, rfl, by decide +kernel, rfl, by decide +kernel, by decide +kernel⟩
abbrev s_Llines_drawn : Stmt := topS 59
abbrev n_Llines_drawn : List Str := ["_law_dice_here", "_law_room", "_law_fill", "_law_most", "_law_names", "_law_some", "_law_turn", "_law_a", "_law_b", "_law_left", "_law_found", "_law_event", "_law_many", "_law_name"]
theorem sc_Llines_drawn : FnScope n_Llines_drawn ["_law_dice_here", "_law_room", "_law_fill", "_law_most"] (defScope s_Llines_drawn) := ⟨rfl, rfl, rfl, by decide +kernel, rfl, by decide +kernel, by decide +kernel⟩
abbrev s_Lbranches : Stmt := topS 60
abbrev n_Lbranches : List Str := ["_law_lines", "_law_at", "_law_line"]
theorem sc_Lbranches : FnScope n_Lbranches ["_law_lines"] (defScope s_Lbranches) := ⟨rfl, rfl, rfl, by decide +kernel, rfl, by decide +kernel, by decide +kernel⟩
abbrev s_Lplaces : Stmt := topS 61
abbrev n_Lplaces : List Str := ["_law_lines", "_law_far", "_law_found", "_law_at", "_law_line", "_law_is_label"]
theorem sc_Lplaces : FnScope n_Lplaces ["_law_lines", "_law_far"] (defScope s_Lplaces) := ⟨rfl, rfl, rfl, by decide +kernel, rfl, by decide +kernel, by decide +kernel⟩
abbrev s_Llabel_table : Stmt := topS 62
abbrev n_Llabel_table : List Str := ["_law_lines", "_law_places_here", "_law_found", "_law_at", "_law_line"]
theorem sc_Llabel_table : FnScope n_Llabel_table ["_law_lines", "_law_places_here"] (defScope s_Llabel_table) := ⟨rfl, rfl, rfl, by decide +kernel, rfl, by decide +kernel, by decide +kernel⟩
abbrev s_Lfits : Stmt := topS 63
abbrev n_Lfits : List Str := ["_law_lines", "_law_far", "_law_places_here", "_law_table", "_law_near", "_law_at"]
theorem sc_Lfits : FnScope n_Lfits ["_law_lines", "_law_far"] (defScope s_Lfits) := ⟨rfl, rfl, rfl, by decide +kernel, rfl, by decide +kernel, by decide +kernel⟩
abbrev s_Lleast : Stmt := topS 64
abbrev n_Lleast : List Str := ["_law_lines", "_law_far", "_law_branches_here", "_law_turn", "_law_at", "_law_places_here"]
theorem sc_Lleast : FnScope n_Lleast ["_law_lines"] (defScope s_Lleast) := ⟨rfl, rfl, rfl, by decide +kernel, rfl, by decide +kernel, by decide +kernel⟩
abbrev s_Lprogram : Stmt := topS 65
abbrev n_Lprogram : List Str := ["_law_shape", "_law_lines", "_law_far", "_law_places_here", "_law_found", "_law_table", "_law_spare", "_law_at", "_law_line", "_law_op"]
theorem sc_Lprogram : FnScope n_Lprogram ["_law_shape", "_law_lines", "_law_far"] (defScope s_Lprogram) := ⟨rfl, rfl, rfl, by decide +kernel, rfl, by decide +kernel, by decide +kernel⟩
abbrev s_Lwith_places : Stmt := topS 66
abbrev n_Lwith_places : List Str := ["_law_dice_here", "_law_lines", "_law_line", "_law_some", "_law_found", "_law_turn", "_law_at"]
theorem sc_Lwith_places : FnScope n_Lwith_places ["_law_dice_here", "_law_lines"] (defScope s_Lwith_places) := ⟨rfl, rfl, rfl, by decide +kernel, rfl, by decide +kernel, by decide +kernel⟩
abbrev s_Ltold : Stmt := topS 67
abbrev n_Ltold : List Str := ["_law_call", "error"]
theorem sc_Ltold : FnScope n_Ltold ["_law_call"] (defScope s_Ltold) := ⟨rfl, rfl, rfl, by decide +kernel, rfl, by decide +kernel, by decide +kernel⟩
abbrev s_Lright : Stmt := topS 68
abbrev n_Lright : List Str := ["_law_dice_here", "_law_room", "_law_far", "_law_due", "_law_most", "_law_told_here", "_law_table", "_law_places_here", "_law_lines", "_law_shape", "_law_turn"]
theorem sc_Lright : FnScope n_Lright ["_law_dice_here"] (defScope s_Lright) := ⟨rfl, rfl, rfl, by decide +kernel, rfl, by decide +kernel, by decide +kernel⟩
abbrev s_Lheard : Stmt := topS 69
abbrev n_Lheard : List Str := ["_law_call"]
theorem sc_Lheard : FnScope n_Lheard ["_law_call"] (defScope s_Lheard) := ⟨rfl, rfl, rfl, by decide +kernel, rfl, by decide +kernel, by decide +kernel⟩
abbrev s_Lerrors_right : Stmt := topS 70
abbrev n_Lerrors_right : List Str := ["_law_dice_here", "_law_some", "_law_met", "_law_bad", "_law_call", "_law_none"]
theorem sc_Lerrors_right : FnScope n_Lerrors_right ["_law_dice_here"] (defScope s_Lerrors_right) := ⟨rfl, rfl, rfl, by decide +kernel, rfl, by decide +kernel, by decide +kernel⟩
abbrev s_law : Stmt := topS 71
abbrev n_law : List Str := ["_law_script", "_law_at", "_law_dice_here", "_law_lines", "_law_told_here"]
theorem sc_law : FnScope n_law ["_law_script"] (defScope s_law) := ⟨rfl, rfl, rfl, by decide +kernel, rfl, by decide +kernel, by decide +kernel⟩
end K80
set_option Elab.async false
set_option linter.all false
set_option maxRecDepth 100000
set_option maxHeartbeats 4000000
/-! Lines, places, lots of far branches: plain mathematics. -/
namespace K80
open PySem

/-- a valid line -/
inductive Line where
  | w (n : Int)
  | lab (x : Str)
  | br (u : Bool) (a b : Int) (x : Str)
  | pl (a : Int) (x : Str)
deriving DecidableEq

def Line.isLab : Line → Bool
  | .lab _ => true
  | _ => false
def Line.isBr : Line → Bool
  | .br .. => true
  | _ => false
def Line.isW : Line → Bool
  | .w _ => true
  | _ => false
def Line.labN : Line → Option Str
  | .lab x => some x
  | _ => none
/-- the name that a line bears -/
def Line.name : Line → Option Str
  | .w _ => none
  | .lab x => some x
  | .br _ _ _ x => some x
  | .pl _ x => some x

/-- how many words the line at i takes -/
def sz (ls : List Line) (far : List Nat) (i : Nat) : Nat :=
  if i ∈ far then 4 else match ls[i]? with
    | some (.lab _) => 0
    | _ => 1
/-- the words ahead of line i -/
def pos (ls : List Line) (far : List Nat) : Nat → Nat
  | 0 => 0
  | i + 1 => pos ls far i + sz ls far i

theorem pos_le (ls : List Line) (far : List Nat) {i j : Nat} (h : i ≤ j) : pos ls far i ≤ pos ls far j := by
  induction j with
  | zero => have : i = 0 := by omega
            subst this; exact Nat.le_refl _
  | succ j ih =>
    by_cases e : i = j + 1
    · subst e; exact Nat.le_refl _
    · have := ih (by omega)
      show pos ls far i ≤ pos ls far j + sz ls far j
      omega

theorem sz_mono (ls : List Line) {far far' : List Nat} (h : ∀ i ∈ far, i ∈ far') (i : Nat) : sz ls far i ≤ sz ls far' i := by
  unfold sz
  by_cases h1 : i ∈ far
  · rw [if_pos h1, if_pos (h i h1)]; exact Nat.le_refl _
  · rw [if_neg h1]
    by_cases h2 : i ∈ far'
    · rw [if_pos h2]; split <;> omega
    · rw [if_neg h2]; exact Nat.le_refl _

/-- a stretch grows with the lot -/
theorem pos_diff (ls : List Line) {far far' : List Nat} (h : ∀ i ∈ far, i ∈ far') {i j : Nat} (hij : i ≤ j) :
    pos ls far j - pos ls far i ≤ pos ls far' j - pos ls far' i := by
  induction j with
  | zero => have : i = 0 := by omega
            subst this; simp
  | succ j ih =>
    by_cases e : i = j + 1
    · subst e; simp
    · have h1 := ih (by omega)
      have h2 := pos_le ls far (i := i) (j := j) (by omega)
      have h3 := pos_le ls far' (i := i) (j := j) (by omega)
      have h4 := sz_mono ls h j
      show pos ls far j + sz ls far j - pos ls far i ≤ pos ls far' j + sz ls far' j - pos ls far' i
      omega

/-- the index of the first label of a name -/
def labIx : List Line → Str → Nat
  | [], _ => 0
  | .lab y :: r, x => if y = x then 0 else labIx r x + 1
  | _ :: r, x => labIx r x + 1

theorem labIx_at : ∀ {ls : List Line} {x : Str}, x ∈ ls.filterMap Line.labN → ls[labIx ls x]? = some (.lab x)
  | [], x, h => by simp at h
  | l :: r, x, h => by
    cases l with
    | lab y =>
      unfold labIx
      by_cases e : y = x
      · subst e; rw [if_pos rfl]; rfl
      · rw [if_neg e]
        have : x ∈ r.filterMap Line.labN := by
          rw [List.filterMap_cons] at h
          rcases List.mem_cons.mp (show x ∈ y :: r.filterMap Line.labN from h) with q | q
          · exact absurd q.symm e
          · exact q
        rw [List.getElem?_cons_succ]
        exact labIx_at this
    | _ =>
      unfold labIx
      have : x ∈ r.filterMap Line.labN := by
        rw [List.filterMap_cons] at h
        exact h
      rw [List.getElem?_cons_succ]
      exact labIx_at this
theorem labIx_uniq : ∀ {ls : List Line} {x : Str} {i : Nat}, (ls.filterMap Line.labN).Nodup → ls[i]? = some (.lab x) → labIx ls x = i
  | [], _, _, _, h => by simp at h
  | l :: r, x, 0, hn, h => by
    have e : l = .lab x := by simpa using h
    subst e
    unfold labIx
    rw [if_pos rfl]
  | l :: r, x, i + 1, hn, h => by
    have h' : r[i]? = some (.lab x) := by simpa using h
    have hm : x ∈ r.filterMap Line.labN := List.mem_filterMap.mpr ⟨_, List.mem_of_getElem? h', rfl⟩
    cases l with
    | lab y =>
      rw [List.filterMap_cons] at hn
      have hn' : (y :: r.filterMap Line.labN).Nodup := hn
      obtain ⟨h1, h2⟩ := List.nodup_cons.mp hn'
      unfold labIx
      have e : ¬ y = x := fun e => h1 (e ▸ hm)
      rw [if_neg e, labIx_uniq h2 h']
    | _ =>
      rw [List.filterMap_cons] at hn
      unfold labIx
      rw [labIx_uniq hn h']

/-- a near branch that does not reach -/
def misses (ls : List Line) (far : List Nat) (i : Nat) : Bool := match ls[i]? with
  | some (.br _ _ _ x) => decide (i ∉ far) && !(decide ((-32 : Int) ≤ (pos ls far (labIx ls x) : Int) - (pos ls far i : Int)) && decide ((pos ls far (labIx ls x) : Int) - (pos ls far i : Int) ≤ 31))
  | _ => false
def notReach (ls : List Line) (far : List Nat) : List Nat := (List.range ls.length).filter (misses ls far)
def Fits (ls : List Line) (S : List Nat) : Prop := ∀ i, misses ls S i = false

theorem misses_br {ls : List Line} {far : List Nat} {i : Nat} (h : misses ls far i = true) : ∃ u a b x, ls[i]? = some (.br u a b x) ∧ i ∉ far ∧
    ¬ ((-32 : Int) ≤ (pos ls far (labIx ls x) : Int) - (pos ls far i : Int) ∧ (pos ls far (labIx ls x) : Int) - (pos ls far i : Int) ≤ 31) := by
  unfold misses at h
  cases e : ls[i]? with
  | none => rw [e] at h; cases h
  | some l =>
    rw [e] at h
    cases l with
    | br u a b x =>
      refine ⟨u, a, b, x, rfl, ?_⟩
      simp only [Bool.and_eq_true, decide_eq_true_eq, Bool.not_eq_true', Bool.and_eq_false_iff, decide_eq_false_iff_not] at h
      exact ⟨h.1, fun z => by rcases h.2 with q | q; exact q z.1; exact q z.2⟩
    | _ => cases h
theorem misses_of {ls : List Line} {far : List Nat} {i : Nat} {u : Bool} {a b : Int} {x : Str} (e : ls[i]? = some (.br u a b x)) (h1 : i ∉ far)
    (h2 : ¬ ((-32 : Int) ≤ (pos ls far (labIx ls x) : Int) - (pos ls far i : Int) ∧ (pos ls far (labIx ls x) : Int) - (pos ls far i : Int) ≤ 31)) : misses ls far i = true := by
  unfold misses
  rw [e]
  simp only [Bool.and_eq_true, decide_eq_true_eq, Bool.not_eq_true', Bool.and_eq_false_iff, decide_eq_false_iff_not]
  exact ⟨h1, by by_cases q : (-32 : Int) ≤ (pos ls far (labIx ls x) : Int) - (pos ls far i : Int); exact .inr fun z => h2 ⟨q, z⟩; exact .inl q⟩
/-- what does not reach is in each larger lot that fits -/
theorem misses_in {ls : List Line} {far S : List Nat} (hS : Fits ls S) (hsub : ∀ i ∈ far, i ∈ S) {i : Nat} (h : misses ls far i = true) : i ∈ S := by
  obtain ⟨u, a, b, x, e, h1, h2⟩ := misses_br h
  by_cases hi : i ∈ S
  · exact hi
  · exfalso
    have hm : ¬ ¬ ((-32 : Int) ≤ (pos ls S (labIx ls x) : Int) - (pos ls S i : Int) ∧ (pos ls S (labIx ls x) : Int) - (pos ls S i : Int) ≤ 31) := fun z => by
      have := misses_of e hi z
      rw [hS i] at this
      cases this
    have hm := Decidable.not_not.mp hm
    refine h2 ?_
    rcases Nat.le_total i (labIx ls x) with q | q
    · have d := pos_diff ls hsub q
      have p1 := pos_le ls far q
      have p2 := pos_le ls S q
      omega
    · have d := pos_diff ls hsub q
      have p1 := pos_le ls far q
      have p2 := pos_le ls S q
      omega

/-- grown so far: each fitting lot holds it -/
structure Grown (ls : List Line) (far : List Nat) : Prop where
  nd : far.Nodup
  br : ∀ i ∈ far, ∃ u a b x, ls[i]? = some (.br u a b x)
  sub : ∀ S, Fits ls S → ∀ i ∈ far, i ∈ S
structure Least (ls : List Line) (far : List Nat) : Prop extends Grown ls far where
  fits : Fits ls far

theorem Grown.nil (ls : List Line) : Grown ls [] := ⟨List.nodup_nil, fun _ h => (by cases h), fun _ _ _ h => (by cases h)⟩
theorem nr_mem {ls : List Line} {far : List Nat} {i : Nat} (h : i ∈ notReach ls far) : misses ls far i = true := (List.mem_filter.mp h).2
theorem mem_nr {ls : List Line} {far : List Nat} {i : Nat} (h : misses ls far i = true) : i ∈ notReach ls far := by
  obtain ⟨u, a, b, x, e, _⟩ := misses_br h
  exact List.mem_filter.mpr ⟨List.mem_range.mpr (List.getElem?_eq_some_iff.mp e).1, h⟩
theorem nr_nil {ls : List Line} {far : List Nat} : notReach ls far = [] ↔ Fits ls far :=
  ⟨fun h i => (by
    cases q : misses ls far i with
    | false => rfl
    | true => have := mem_nr q; rw [h] at this; cases this),
   fun h => (by
    cases q : notReach ls far with
    | nil => rfl
    | cons i r =>
      have : i ∈ notReach ls far := by rw [q]; exact List.mem_cons_self
      have := nr_mem this
      rw [h i] at this
      cases this)⟩
theorem nd_range (n : Nat) : (List.range n).Nodup := List.nodup_range
theorem nr_nd (ls : List Line) (far : List Nat) : (notReach ls far).Nodup := (nd_range _).filter _
/-- the program's step -/
theorem Grown.ext {ls : List Line} {far : List Nat} (g : Grown ls far) : Grown ls (far ++ notReach ls far) where
  nd := by
    refine List.nodup_append.mpr ⟨g.nd, nr_nd ls far, fun a ha b hb e => ?_⟩
    subst e
    obtain ⟨_, _, _, _, _, h, _⟩ := misses_br (nr_mem hb)
    exact h ha
  br := fun i hi => by
    rcases List.mem_append.mp hi with q | q
    · exact g.br i q
    · obtain ⟨u, a, b, x, e, _⟩ := misses_br (nr_mem q)
      exact ⟨u, a, b, x, e⟩
  sub := fun S hS i hi => by
    rcases List.mem_append.mp hi with q | q
    · exact g.sub S hS i q
    · exact misses_in hS (g.sub S hS) (nr_mem q)
/-- the law's step -/
theorem Grown.one {ls : List Line} {far : List Nat} (g : Grown ls far) {i : Nat} (h : misses ls far i = true) : Grown ls (far ++ [i]) where
  nd := by
    refine List.nodup_append.mpr ⟨g.nd, by simp, fun a ha b hb e => ?_⟩
    have : b = i := by simpa using hb
    subst this; subst e
    obtain ⟨_, _, _, _, _, h, _⟩ := misses_br h
    exact h ha
  br := fun j hj => by
    rcases List.mem_append.mp hj with q | q
    · exact g.br j q
    · have : j = i := by simpa using q
      subst this
      obtain ⟨u, a, b, x, e, _⟩ := misses_br h
      exact ⟨u, a, b, x, e⟩
  sub := fun S hS j hj => by
    rcases List.mem_append.mp hj with q | q
    · exact g.sub S hS j q
    · have : j = i := by simpa using q
      subst this
      exact misses_in hS (g.sub S hS) h
def brs (ls : List Line) : List Nat := (List.range ls.length).filter fun i => match ls[i]? with
  | some l => l.isBr
  | none => false
theorem brs_mem {ls : List Line} {i : Nat} : i ∈ brs ls ↔ ∃ u a b x, ls[i]? = some (.br u a b x) := by
  unfold brs
  rw [List.mem_filter]
  constructor
  · rintro ⟨_, h⟩
    cases e : ls[i]? with
    | none => rw [e] at h; cases h
    | some l =>
      rw [e] at h
      cases l with
      | br u a b x => exact ⟨u, a, b, x, rfl⟩
      | _ => cases h
  · rintro ⟨u, a, b, x, e⟩
    exact ⟨List.mem_range.mpr (List.getElem?_eq_some_iff.mp e).1, by rw [e]; rfl⟩
theorem Grown.len {ls : List Line} {far : List Nat} (g : Grown ls far) : far.length ≤ (brs ls).length :=
  g.nd.length_le_of_subset fun i hi => brs_mem.mpr (g.br i hi)
theorem brs_len (ls : List Line) : (brs ls).length ≤ ls.length := by
  unfold brs
  have := List.length_filter_le (fun i => match ls[i]? with | some l => l.isBr | none => false) (List.range ls.length)
  rw [List.length_range] at this
  exact this
/-- two least lots have the same members -/
theorem Least.same {ls : List Line} {f g : List Nat} (a : Least ls f) (b : Least ls g) (i : Nat) : i ∈ f ↔ i ∈ g := ⟨a.sub g b.fits i, b.sub f a.fits i⟩
theorem srt_ext : ∀ {f g : List Nat}, f.Pairwise (· < ·) → g.Pairwise (· < ·) → (∀ i, i ∈ f ↔ i ∈ g) → f = g
  | [], [], _, _, _ => rfl
  | [], b :: g, _, _, h => by have := (h b).mpr List.mem_cons_self; cases this
  | a :: f, [], _, _, h => by have := (h a).mp List.mem_cons_self; cases this
  | a :: f, b :: g, hf, hg, h => by
    obtain ⟨f1, f2⟩ := List.pairwise_cons.mp hf
    obtain ⟨g1, g2⟩ := List.pairwise_cons.mp hg
    have e : a = b := by
      rcases List.mem_cons.mp ((h a).mp List.mem_cons_self) with q | q
      · exact q
      · rcases List.mem_cons.mp ((h b).mpr List.mem_cons_self) with z | z
        · exact z.symm
        · have := g1 a q; have := f1 b z; omega
    subst e
    refine congrArg (a :: ·) (srt_ext f2 g2 fun i => ?_)
    constructor
    · intro hi
      rcases List.mem_cons.mp ((h i).mp (List.mem_cons_of_mem _ hi)) with q | q
      · subst q; have := f1 i hi; omega
      · exact q
    · intro hi
      rcases List.mem_cons.mp ((h i).mpr (List.mem_cons_of_mem _ hi)) with q | q
      · subst q; have := g1 i hi; omega
      · exact q
theorem Least.uniq {ls : List Line} {f g : List Nat} (a : Least ls f) (b : Least ls g) (sf : f.Pairwise (· < ·)) (sg : g.Pairwise (· < ·)) : f = g := srt_ext sf sg (a.same b)
/-- membership alone counts -/
theorem sz_congr {ls : List Line} {f g : List Nat} (h : ∀ i, i ∈ f ↔ i ∈ g) (i : Nat) : sz ls f i = sz ls g i := by
  unfold sz
  by_cases q : i ∈ f
  · rw [if_pos q, if_pos ((h i).mp q)]
  · rw [if_neg q, if_neg fun z => q ((h i).mpr z)]
theorem pos_congr {ls : List Line} {f g : List Nat} (h : ∀ i, i ∈ f ↔ i ∈ g) : ∀ i, pos ls f i = pos ls g i
  | 0 => rfl
  | i + 1 => by
    show pos ls f i + sz ls f i = pos ls g i + sz ls g i
    rw [pos_congr h i, sz_congr h i]
theorem misses_congr {ls : List Line} {f g : List Nat} (h : ∀ i, i ∈ f ↔ i ∈ g) (i : Nat) : misses ls f i = misses ls g i := by
  have e : ∀ j, pos ls f j = pos ls g j := pos_congr h
  unfold misses
  cases ls[i]? with
  | none => rfl
  | some l =>
    cases l with
    | br u a b x =>
      have : decide (i ∉ f) = decide (i ∉ g) := by
        by_cases q : i ∈ f
        · rw [decide_eq_false (fun z => z q), decide_eq_false (fun z => z ((h i).mp q))]
        · rw [decide_eq_true q, decide_eq_true (show i ∉ g from fun z => q ((h i).mpr z))]
      simp only [e, this]
    | _ => rfl
theorem Least.perm {ls : List Line} {f g : List Nat} (a : Least ls f) (h : g.Perm f) : Least ls g where
  nd := h.nodup_iff.mpr a.nd
  br := fun i hi => a.br i (h.mem_iff.mp hi)
  sub := fun S hS i hi => a.sub S hS i (h.mem_iff.mp hi)
  fits := fun i => by rw [misses_congr (g := f) fun j => h.mem_iff]; exact a.fits i

/-! ### words -/
def stepW (op a b c : Int) : Int := 4096 * op + 512 * a + 64 * b + c
/-- the words of the line at i -/
def wordsAt (r : Int) (ls : List Line) (far : List Nat) (i : Nat) : List Int := match ls[i]? with
  | some (.w n) => [n]
  | some (.pl a x) => [36864 + 512 * a + (pos ls far (labIx ls x) : Int)]
  | some (.br u a b x) =>
    if i ∈ far then [4096 * (if u then 13 else 12) + 512 * a + 64 * b + 2, 49155, 36864 + 512 * (r - 1) + (pos ls far (labIx ls x) : Int), 57344 + 64 * (r - 1)]
    else [4096 * (if u then 13 else 12) + 512 * a + 64 * b + ((pos ls far (labIx ls x) : Int) - (pos ls far i : Int)) % 64]
  | _ => []
def progTo (r : Int) (ls : List Line) (far : List Nat) : Nat → List Int
  | 0 => []
  | i + 1 => progTo r ls far i ++ wordsAt r ls far i
def prog (r : Int) (ls : List Line) (far : List Nat) : List Int := progTo r ls far ls.length
theorem wordsAt_len {r : Int} {ls : List Line} {far : List Nat} (hb : ∀ i ∈ far, ∃ u a b x, ls[i]? = some (.br u a b x)) {i : Nat} (hi : i < ls.length) : (wordsAt r ls far i).length = sz ls far i := by
  unfold wordsAt sz
  cases e : ls[i]? with
  | none => rw [List.getElem?_eq_none_iff] at e; omega
  | some l =>
    cases l with
    | br u a b x =>
      by_cases q : i ∈ far
      · simp only [if_pos q]; rfl
      · simp only [if_neg q]; rfl
    | _ =>
      have q : i ∉ far := fun q => by obtain ⟨_, _, _, _, z⟩ := hb i q; rw [e] at z; cases z
      simp only [if_neg q]; rfl
theorem progTo_len {r : Int} {ls : List Line} {far : List Nat} (hb : ∀ i ∈ far, ∃ u a b x, ls[i]? = some (.br u a b x)) : ∀ n, n ≤ ls.length → (progTo r ls far n).length = pos ls far n
  | 0, _ => rfl
  | n + 1, h => by
    show (progTo r ls far n ++ wordsAt r ls far n).length = pos ls far n + sz ls far n
    rw [List.length_append, progTo_len hb n (by omega), wordsAt_len hb (by omega)]
theorem prog_len {r : Int} {ls : List Line} {far : List Nat} (hb : ∀ i ∈ far, ∃ u a b x, ls[i]? = some (.br u a b x)) : (prog r ls far).length = pos ls far ls.length := progTo_len hb _ (Nat.le_refl _)
theorem wordsAt_congr {r : Int} {ls : List Line} {f g : List Nat} (h : ∀ i, i ∈ f ↔ i ∈ g) (i : Nat) : wordsAt r ls f i = wordsAt r ls g i := by
  have e : ∀ j, pos ls f j = pos ls g j := pos_congr h
  unfold wordsAt
  cases ls[i]? with
  | none => rfl
  | some l =>
    cases l with
    | br u a b x =>
      by_cases q : i ∈ f
      · simp only [if_pos q, if_pos ((h i).mp q), e]
      · simp only [if_neg q, if_neg fun z => q ((h i).mpr z), e]
    | _ => simp only [e]
theorem progTo_congr {r : Int} {ls : List Line} {f g : List Nat} (h : ∀ i, i ∈ f ↔ i ∈ g) : ∀ n, progTo r ls f n = progTo r ls g n
  | 0 => rfl
  | n + 1 => by
    show progTo r ls f n ++ wordsAt r ls f n = progTo r ls g n ++ wordsAt r ls g n
    rw [progTo_congr h n, wordsAt_congr h n]

/-! ### the table of labels -/
/-- the names of the labels ahead of line n, with their places -/
def labsTo (ls : List Line) (far : List Nat) (n : Nat) : List (Str × Nat) := (List.range n).filterMap fun i => match ls[i]? with
  | some (Line.lab x) => some (x, pos ls far i)
  | _ => none
theorem labsTo_succ (ls : List Line) (far : List Nat) (n : Nat) : labsTo ls far (n + 1) = labsTo ls far n ++ (match ls[n]? with | some (.lab x) => [(x, pos ls far n)] | _ => []) := by
  unfold labsTo
  rw [List.range_succ, List.filterMap_append]
  congr 1
  rw [List.filterMap_cons, List.filterMap_nil]
  cases ls[n]? with
  | none => rfl
  | some l => cases l <;> rfl
theorem take_labs (ls : List Line) (far : List Nat) : ∀ n, n ≤ ls.length → (labsTo ls far n).map (·.1) = (ls.take n).filterMap Line.labN
  | 0, _ => rfl
  | n + 1, h => by
    have hn : n < ls.length := by omega
    rw [labsTo_succ, List.map_append, take_labs ls far n (by omega), List.take_add_one, List.filterMap_append, List.getElem?_eq_getElem hn]
    congr 1
    cases ls[n] <;> rfl
theorem labs_mem {ls : List Line} {far : List Nat} {n : Nat} {x : Str} {p : Nat} (h : (x, p) ∈ labsTo ls far n) : ∃ i, i < n ∧ ls[i]? = some (.lab x) ∧ p = pos ls far i := by
  unfold labsTo at h
  obtain ⟨i, hi, e⟩ := List.mem_filterMap.mp h
  refine ⟨i, List.mem_range.mp hi, ?_⟩
  cases q : ls[i]? with
  | none => rw [q] at e; cases e
  | some l =>
    rw [q] at e
    cases l with
    | lab y => have e' : (y, pos ls far i) = (x, p) := Option.some.inj e
               obtain ⟨rfl, rfl⟩ := Prod.mk.inj e'
               exact ⟨rfl, rfl⟩
    | _ => cases e
theorem mem_labs {ls : List Line} {far : List Nat} {n i : Nat} {x : Str} (hi : i < n) (e : ls[i]? = some (.lab x)) : (x, pos ls far i) ∈ labsTo ls far n :=
  List.mem_filterMap.mpr ⟨i, List.mem_range.mpr hi, by rw [e]⟩
end K80
set_option Elab.async false
set_option linter.all false
set_option maxRecDepth 100000
set_option maxHeartbeats 4000000
/-! for a, b in enumerate(t), t a tuple: the rule beside pi_enum. -/
namespace K80
open PySem PySem.Spec PyProof.Rows L2
abbrev tupIt (t : Addr) : Obj := { cls := .type "tuple_iterator", data := .fields #[.ref t, .int 0 0] }
theorem meets_enumTup (t : Addr) (items : Array Value) (o : Obj) :
    Meets (Builtin.«enumerate.__new__» ⟨[.type "enumerate", .ref t], []⟩) (fun _ R s => (s.heap.get? t = some o ∧ s.heap.IsTuple t items) ∧
      R (.ok (.ret (.ref (s.heap.push (tupIt t)).objs.size)))
        { s with heap := (s.heap.push (tupIt t)).push { cls := .type "enumerate", data := .fields #[.none, .bool false, .ref s.heap.objs.size, rawInt 0, .none, .none] } }) :=
  .of_wp fun prog w A R s h => by
    obtain ⟨hp, g, d, tk, os⟩ := s
    obtain ⟨⟨ho, ht⟩, h⟩ := h
    have hsub := sub_enumerate
    have hT : Heap.IsTuple (Shared.heap ⟨hp, g, d, tk, os⟩) t items := ht
    wp_walk using AutoSeq1.wpAny_loadPart' ho
    refine wpAny_stack_any fun st => wpAny_pure ?_
    split
    · rename_i c _ _ _ _ _
      cases (c == Value.type "enumerate")
      · wp_walk using AutoSeq1.wpAny_loadPart' ho, wpAny_pyIter_tuple hT
        exact ⟨_, rfl, h⟩
      · wp_walk using AutoSeq1.wpAny_loadPart' ho, wpAny_pyIter_tuple hT
        exact ⟨_, rfl, h⟩
    · wp_walk using AutoSeq1.wpAny_loadPart' ho, wpAny_pyIter_tuple hT
      exact ⟨_, rfl, h⟩
section
variable {prog : Program} {w : World} {A : Around} {E : Value → Shared → Prop} {s : Shared}
theorem call_enumTup {t : Addr} {items : Array Value} {Q : Value → Shared → Prop} (hL : s.heap.IsTuple t items)
    (h : ∀ h', IsEnum h' (s.heap.objs.size + 1) s.heap.objs.size 0 .none → h'.IsTupleIter s.heap.objs.size t 0 →
      (∀ b o, s.heap.get? b = some o → h'.get? b = some o) → Q (.ref (s.heap.objs.size + 1)) { s with heap := h' }) :
    wpAny (model prog w) A (call (.type "enumerate") [.ref t]) Q E s := by
  have hL' := hL
  obtain ⟨o, ho, _⟩ := hL'
  refine callType_new F.called_enumerate (by decide) (F.typeCall_enumerate_1 _) (F.newCall_enumerate_1 _) (fun obj => F.args_object_init_2 obj _) F.entry_enumerate_new
    (meets_enumTup t items o) ⟨⟨ho, hL⟩, ?_⟩
  have hz : (s.heap.push (tupIt t)).objs.size = s.heap.objs.size + 1 := Heap.size_push ..
  show _ ∧ _
  rw [hz]
  have he : IsEnum ((s.heap.push (tupIt t)).push { cls := .type "enumerate", data := .fields #[.none, .bool false, .ref s.heap.objs.size, rawInt 0, .none, .none] }) (s.heap.objs.size + 1) s.heap.objs.size 0 .none := by
    have q := Heap.get?_push_size (s.heap.push (tupIt t)) (o := { cls := .type "enumerate", data := .fields #[.none, .bool false, .ref s.heap.objs.size, rawInt 0, .none, .none] }) rfl
    rw [hz] at q
    exact q
  exact ⟨⟨_, he, rfl⟩, h _ he ⟨_, Heap.get?_push_of_some _ (Heap.get?_push_size _ rfl), rfl, rfl⟩ fun b o x => Heap.get?_push_of_some _ (Heap.get?_push_of_some _ x)⟩
end
/-- the tuple at a, its items counted, in new pairs -/
def IteT (K : PySem.W.Frag) (a : Addr) : It :=
  ⟨fun i H => ∃ (xs : List V) (x : V), SqT K H a xs ∧ xs[i]? = some x, fun i H v H' => ∃ T x, v = .ref T ∧ H T = none ∧ H' = upd H T (.tup [.int (i : Nat), x]) ∧ ∀ xs, SqT K H a xs → xs[i]? = some x, fun i H => ∃ xs : List V, SqT K H a xs ∧ xs.length ≤ i⟩
theorem turn_enumT {P : Program} {w : World} {K : PySem.W.Frag} {elts : List Expr} {kk : Nat} {tpos : Pos} (a e it : Addr) :
    Turn P w K (.Tuple elts kk tpos) (IteT K a) [e, it] e (fun i h => (∃ old, IsEnum h e it ((i : Nat) : Int) old) ∧ h.IsTupleIter it a i ∧ e ≠ it ∧ e ≠ a ∧ it ≠ a) where
  mem := by simp
  obj := fun i h st b hb => by
    obtain ⟨⟨old, he⟩, ⟨o, ho, hc, hd⟩, _⟩ := st
    have e' : b = e ∨ b = it := by simpa using hb
    rcases e' with z | z
    · rw [z]; exact ⟨_, he, fun v q => nomatch q⟩
    · rw [z]; exact ⟨o, ho, fun v q => by rw [hd] at q; cases q⟩
  keep := fun i h h' st k => let ⟨⟨old, he⟩, hi, hne⟩ := st; ⟨⟨old, k e (by simp) _ he⟩, hi.at fun o q => k it (by simp) o q, hne⟩
  item := by
    intro X hP hw hK hc i pins s σ H E I hf st hg
    subst hP hw hK
    obtain ⟨⟨old, he⟩, hit, hne, hea, hia⟩ := st
    obtain ⟨xs, x, hq, hx⟩ := hg
    obtain ⟨its, rv, p, hz⟩ := I.tuple hq
    obtain ⟨u, hu, ru⟩ := rv.get hx
    have hel : e < s.heap.objs.size := Heap.lt_size he
    have hil : it < s.heap.objs.size := by obtain ⟨_, q, _⟩ := hit; exact Heap.lt_size q
    have hli : i < its.toArray.size := by
      have hlt := (List.getElem?_eq_some_iff.mp hu).1
      simpa using hlt
    have D := Draws.tuple (prog := X.prog) (w := X.w) (A := X.A.in1) (by simpa using I.ok.hd hc) it a (Ne.symm hia) its.toArray
    refine wpAny_pyNext_enum_itemD D he ⟨hit, (show s.heap.IsTuple a its.toArray from p)⟩ hli hne (by simp [hne, hea]) fun y h' tk hy ho hit' hT hsz hk => ?_
    have ey : y = u := by
      have hy' : its.toArray[i]? = some y := hy
      have hu' : its.toArray[i]? = some u := by simpa using hu
      exact Option.some.inj (hy'.symm.trans hu')
    subst ey
    refine ⟨_, rfl, wpAny_letOwnedTupleGo_enum (s := { s with heap := h', toks := tk + 1 }) ho fun h'' he' sb => ?_⟩
    have hT2 : h''.get? s.heap.objs.size = some { cls := .type "tuple", data := .seq #[.int i tk, y] } := (sb.2 _ (Nat.ne_of_gt hel)).trans hT
    have new : ObjOk X.prog X.w (upd H s.heap.objs.size (.tup [.int (i : Nat), x])) h'' s.heap.objs.size (.tup [.int (i : Nat), x]) :=
      ⟨by show 2 ≤ sizeLine; decide, [.int i tk, y], .cons ⟨_, rfl⟩ (.cons ru .nil), ⟨_, hT2, rfl, _, rfl⟩⟩
    have I1 : Inv X pins σ (upd H s.heap.objs.size (.tup [.int (i : Nat), x])) { s with heap := h'', toks := tk + 1 } :=
      I.turnedNew (ch := [e, it]) (fun b ob hb q => (sb.2 b (fun z => hb (by simp [z]))).trans (hk b ob (fun z => hb (by simp [z])) (fun z => hb (by simp [z])) q)) hf (Nat.le_refl _) new
    refine ⟨.ref s.heap.objs.size, _, I1, rfl, ⟨_, x, rfl, I.hok.fresh (Nat.le_refl _), rfl, fun ys hy => by rw [I.tuple_inj hy hq]; exact hx⟩, ⟨⟨y, ?_⟩, hit'.1.at fun o q => (sb.2 it (Ne.symm hne)).trans q, hne, hea, hia⟩, fun b hb => ?_⟩
    · have e1 : ((i + 1 : Nat) : Int) = (i : Int) + 1 := by omega
      rw [e1]; exact he'
    · have hb' : b < s.heap.objs.size := by
        have e' : b = e ∨ b = it := by simpa using hb
        rcases e' with z | z
        · rw [z]; exact hel
        · rw [z]; exact hil
      rw [upd_ne (Nat.ne_of_lt hb')]
      exact (hf b hb).1
  done := by
    intro X hP hw hK hc i pins s σ H E I hf st hg
    subst hP hw hK
    obtain ⟨⟨old, he⟩, hit, hne, hea, hia⟩ := st
    obtain ⟨xs, hq, hx⟩ := hg
    obtain ⟨its, rv, p, hz⟩ := I.tuple hq
    obtain ⟨f0, f1, f2, f3, f4, f5⟩ := hf it (by simp)
    have hl := rv.length
    have hT : s.heap.IsTuple a its.toArray := p
    have hT' : s.TypeIs (.ref e) "enumerate" := ⟨_, he, rfl⟩
    unfold pyNext
    refine wpAny_bind (wpAny_attempt (wpAny_callSpecial?_slot (name := Str.ofString "__next__") hT' F.slot_enumerate_next
      (wpAny_call_entry F.slot_enumerate_next hT' F.entry_enumerate_next ?_ (F.args_enumerate_next_1 _))))
    show wpAny _ _ (field (.ref e) 2 >>= _) _ _ _
    refine wpAny_bind (wpAny_field he rfl (x := .ref it) rfl ?_)
    refine wpAny_bind (wpAny_nextOf_tuple_end (by simpa using I.ok.hd hc) hit hT (by simp; omega) fun h' y eb hy => ?_)
    obtain ⟨o, ho, hcl⟩ := hy
    refine wpAny_bind (wpAny_isInstance (T := "StopIteration") (b := true) ⟨o, ho, hcl⟩ isSubtype_stop ?_)
    exact wpAny_pure ⟨rfl, I.turned (t' := s.toks) (fun b o hb q => eb b o hb q) f0 f1 f3 f4 f5⟩
  self := fun A i s Q E st h => let ⟨⟨_, he⟩, _⟩ := st; wpAny_pyIter_enum he h
def iEnumT (K : PySem.W.Frag) (ta : TA) : TI := fun σ H R => ta σ H fun vs H1 => ∃ a xs, vs = [.ref a] ∧ SqT K H1 a xs ∧ R (IteT K a) H1
theorem pi_enumT {X : Cx} {e : Expr} {ta : TA} {p pos tpos : Pos} {elts : List Expr} {kk : Nat} (hg : Gl X "enumerate") (hm : X.mg "enumerate" = none) (ha : PA X [e] ta) (hs : starEach [e] X.env = [(false, eval e X.env)] := by rfl) :
    PI X (.Tuple elts kk tpos) (.Call (.Name "enumerate" p) [e] [] pos) (iEnumT X.K ta) := by
  refine ⟨fun pins s σ H R I h => ?_⟩
  refine Call_ (ld_blt I hg hm boot_enumerate (PyProof.Rows.callWith_type1 (thn (ha.run pos pins s σ H _ I h) fun us s1 ⟨vs, H1, I1, r1, q1⟩ => ?_) hs rfl))
  obtain ⟨a, xs, ex, hq, q⟩ := q1
  subst ex
  cases r1 with
  | cons r rr =>
    cases rr
    cases r
    obtain ⟨its, rv, p', hz⟩ := I1.tuple hq
    have hT : s1.heap.IsTuple a its.toArray := p'
    have hal : a < s1.heap.objs.size := by obtain ⟨o, ho, _⟩ := hT; exact Heap.lt_size ho
    refine call_enumTup hT fun h' he hit hk => wpAny_pyIter_enum he ?_
    have I2 : Inv X pins σ H1 { s1 with heap := h' } := I1.kept (t' := s1.toks) hk
    refine ⟨s1.heap.objs.size + 1, [s1.heap.objs.size + 1, s1.heap.objs.size], _, _, H1, rfl, I2, turn_enumT a (s1.heap.objs.size + 1) s1.heap.objs.size, ⟨⟨.none, he⟩, hit, Nat.succ_ne_self _, Nat.ne_of_gt (Nat.lt_succ_of_lt hal), Nat.ne_of_gt hal⟩, fun b hb => ?_, q⟩
    have e' : b = s1.heap.objs.size + 1 ∨ b = s1.heap.objs.size := by simpa using hb
    have hle : s1.heap.objs.size ≤ b := by
      rcases e' with z | z
      · rw [z]; exact Nat.le_add_right _ _
      · rw [z]; exact Nat.le_refl _
    exact I1.fpOk hle (I1.hok.fresh hle)
/-- the loop by an invariant over the turn -/
theorem for_enumT {K : PySem.W.Frag} {a : Addr} {xs : List V} {g : TG} {tb : TS} {D : Ends} {σ : L2.St} {H : Hp} (Pv : Nat → L2.St → Hp → Prop) (h0 : Pv 0 σ H) (hl : ∀ i σ H, i ≤ xs.length → Pv i σ H → SqT K H a xs)
    (hs : ∀ i x T σ H, xs[i]? = some x → Pv i σ H → H T = none → g (.ref T) σ (upd H T (.tup [.int (i : Nat), x])) fun σ2 H2 => tb { D with nx := Pv (i + 1), ct := Pv (i + 1), bk := D.nx } σ2 H2)
    (hd : ∀ σ H, Pv xs.length σ H → D.nx σ H) :
    ∃ W : Nat → Nat → L2.St → Hp → Prop, (∃ m, W 0 m σ H) ∧ ∀ i m σ H, W i m σ H → ((IteT K a).stop i H ∧ D.nx σ H) ∨ ((IteT K a).go i H ∧ ∃ N : L2.St → Hp → Prop, (∀ σ' H', N σ' H' → ∃ m', m' < m ∧ W (i + 1) m' σ' H') ∧
      ∀ x H', (IteT K a).yld i H x H' → g x σ H' fun σ2 H2 => tb { D with nx := N, ct := N, bk := D.nx } σ2 H2) := by
  refine ⟨fun i m σ H => m = xs.length - i ∧ i ≤ xs.length ∧ Pv i σ H, ⟨xs.length, by simp, Nat.zero_le _, h0⟩, ?_⟩
  rintro i m σ H ⟨rfl, hi, p⟩
  have q := hl i σ H hi p
  by_cases hlt : i < xs.length
  · refine .inr ⟨⟨xs, xs[i], q, by simp [hlt]⟩, Pv (i + 1), fun σ' H' p' => ⟨xs.length - (i + 1), by omega, rfl, hlt, p'⟩, fun x H' y => ?_⟩
    obtain ⟨T, z, rfl, hT, rfl, f⟩ := y
    exact hs i z T σ H (f xs q) p hT
  · have e : i = xs.length := by omega
    subst e
    exact .inl ⟨⟨xs, q, Nat.le_refl _⟩, hd σ H p⟩
/-- the same within a comprehension -/
theorem lc_enumT {K : PySem.W.Frag} {a : Addr} {xs : List V} {g : TG} {tt : TT} {te : TE} {vs : List Nat} {σ : L2.St} {H1 : Hp} {D : Addr} {Qd : Hp → Prop} (Pv : Nat → Hp → Prop) (h0 : Pv 0 (upd H1 D (.lst []))) (hl : ∀ i H, i ≤ xs.length → Pv i H → SqT K H a xs)
    (hs : ∀ i x T H, xs[i]? = some x → Pv i H → H T = none → g (.ref T) (wipe σ vs) (upd H T (.tup [.int (i : Nat), x])) fun σ2 H2 => wipe σ2 vs = wipe σ vs ∧ tt σ2 H2 fun b H3 =>
      if b = true then te σ2 H3 fun y H4 => ∃ acc, H4 D = some (.lst acc) ∧ acc.length < sizeLine ∧ Pv (i + 1) (upd H4 D (.lst (acc ++ [y]))) else Pv (i + 1) H3) (hd : ∀ H, Pv xs.length H → Qd H) :
    ∃ W : Nat → Nat → Hp → Prop, (∃ m, W 0 m (upd H1 D (.lst []))) ∧ ∀ i m H, W i m H →
      ((IteT K a).stop i H ∧ Qd H) ∨ ((IteT K a).go i H ∧ ∃ Nx : Hp → Prop, (∀ H', Nx H' → ∃ m', m' < m ∧ W (i + 1) m' H') ∧ ∀ x H', (IteT K a).yld i H x H' → g x (wipe σ vs) H' fun σ2 H2 => wipe σ2 vs = wipe σ vs ∧ tt σ2 H2 fun b H3 =>
        if b = true then te σ2 H3 fun y H4 => ∃ acc, H4 D = some (.lst acc) ∧ acc.length < sizeLine ∧ Nx (upd H4 D (.lst (acc ++ [y]))) else Nx H3) := by
  refine ⟨fun i m H => m = xs.length - i ∧ i ≤ xs.length ∧ Pv i H, ⟨xs.length, by simp, Nat.zero_le _, h0⟩, ?_⟩
  rintro i m H ⟨rfl, hi, p⟩
  have q := hl i H hi p
  by_cases hlt : i < xs.length
  · refine .inr ⟨⟨xs, xs[i], q, by simp [hlt]⟩, Pv (i + 1), fun H' p' => ⟨xs.length - (i + 1), by omega, rfl, hlt, p'⟩, fun x H' y => ?_⟩
    obtain ⟨T, z, rfl, hT, rfl, f⟩ := y
    exact hs i z T H (f xs q) p hT
  · have e : i = xs.length := by omega
    subst e
    exact .inl ⟨⟨xs, q, Nat.le_refl _⟩, hd H p⟩
end K80
set_option Elab.async false
set_option linter.all false
set_option maxRecDepth 100000
set_option maxHeartbeats 4000000
/-! len(set(texts)): the rule beside pe_lenSet, any number up to 1000; equal texts count once. -/
namespace K80
open PySem PySem.Spec PyProof.Rows SS
/-- how many unlike texts are among the first i -/
def cnt (xs : List Str) : Nat → Nat
  | 0 => 0
  | i + 1 => if (xs.take i).any (· == xs.getD i Str.empty) then cnt xs i else cnt xs i + 1
theorem cnt_le (xs : List Str) : ∀ i, cnt xs i ≤ i
  | 0 => Nat.le_refl _
  | i + 1 => by
    have h := cnt_le xs i
    unfold cnt
    split <;> omega
theorem cnt_nd {xs : List Str} : ∀ {i : Nat}, i ≤ xs.length → (cnt xs i = i ↔ (xs.take i).Nodup)
  | 0, _ => ⟨fun _ => List.nodup_nil, fun _ => rfl⟩
  | i + 1, h => by
    have hi : i < xs.length := by omega
    have ih := cnt_nd (xs := xs) (i := i) (by omega)
    have hg : xs.getD i Str.empty = xs[i] := by simp [hi]
    have ht : xs.take (i + 1) = xs.take i ++ [xs[i]] := by rw [List.take_add_one, List.getElem?_eq_getElem hi]; rfl
    have le := cnt_le xs i
    rw [ht, List.nodup_append]
    unfold cnt
    rw [hg]
    by_cases q : (xs.take i).any (· == xs[i]) = true
    · rw [if_pos q]
      constructor
      · intro e; omega
      · rintro ⟨_, _, z⟩
        obtain ⟨y, hy, e⟩ := List.any_eq_true.mp q
        exact absurd (beq_iff_eq.mp e) (z y hy _ (List.mem_singleton.mpr rfl))
    · rw [if_neg q]
      constructor
      · intro e
        refine ⟨ih.mp (by omega), by simp, fun a ha b hb e2 => ?_⟩
        have : b = xs[i] := List.mem_singleton.mp hb
        subst this
        exact q (List.any_eq_true.mpr ⟨a, ha, beq_iff_eq.mpr e2⟩)
      · rintro ⟨z, _, _⟩
        rw [ih.mpr z]
theorem cnt_all {xs : List Str} : cnt xs xs.length = xs.length ↔ xs.Nodup := by
  have h := cnt_nd (xs := xs) (Nat.le_refl _)
  rw [List.take_length] at h
  exact h
section
variable {prog : Program} {w : World} {A : Around} {R : Result → Shared → Prop} {I : Addr} {fp wr : List Addr} {G : Array GenState → Array GenState → Prop} {n : Nat} {P : Nat → Value → Prop} {St : Nat → Shared → Prop}
theorem setLoop (W : WalksS prog w A.in1 I fp wr G n P St) (S : Addr) (hSf : S ∉ fp) (xs : List Str) (hsz : xs.length = n) (hn1 : n ≤ 1000)
    (hval : ∀ i v, P i v → ∃ t, v = .str (xs.getD i Str.empty) t) :
    ∀ (k i : Nat) (s : Shared), n - i = k → i ≤ n → St i s →
      s.heap.SetOf (PySem.strKind prog w) S (fun k' => (xs.take i).any (· == k')) (cnt xs i) →
      (∀ s', Moved (S :: wr) G s s' → s'.heap.SetOf (PySem.strKind prog w) S (fun k' => (xs.take n).any (· == k')) (cnt xs n) → R (.ok (.ret .none)) s') →
      codeAny (model prog w) A (.builtin "set.update.loop" ⟨[.ref S, .ref I], []⟩) R s := by
  have hSw : S ∉ wr := fun h => hSf (W.sub _ h)
  have hsub : ∀ b ∈ wr, b ∈ S :: wr := fun b hb => List.mem_cons_of_mem _ hb
  intro k
  induction k with
  | zero =>
    intro i s hk hi hst hS hR
    have hin : i = n := by omega
    subst hin
    refine codeAny_builtin PyProof.Rows.F.entry_set_update_loop ?_
    rw [Around.under_plainId PyProof.Rows.F.plain_set_update_loop _]
    show wpAny _ A.in1 (pyNext (.ref I) >>= _) _ _ s
    refine wpAny_bind (W.done s _ _ hst fun s' hm => ?_)
    show wpAny _ A.in1 (ret Value.none) _ _ s'
    exact wpAny_pure (hR s' (hm.mono hsub) (by
      obtain ⟨o, es, ep, t, ho, rest⟩ := hS
      exact ⟨o, es, ep, t, hm.heap S _ hSw ho, rest⟩))
  | succ k ih =>
    intro i s hk hi hst hS hR
    have hlt : i < n := by omega
    have hix : i < xs.length := by omega
    have hcnt := cnt_le xs i
    refine codeAny_builtin PyProof.Rows.F.entry_set_update_loop ?_
    rw [Around.under_plainId PyProof.Rows.F.plain_set_update_loop _]
    show wpAny _ A.in1 (pyNext (.ref I) >>= _) _ _ s
    refine wpAny_bind (W.item i s _ _ hlt hst fun v s' hP hst' hm => ?_)
    obtain ⟨t, rfl⟩ := hval i v hP
    have hS' : s'.heap.SetOf (PySem.strKind prog w) S (fun k' => (xs.take i).any (· == k')) (cnt xs i) := by
      obtain ⟨o, es, ep, tb, ho, rest⟩ := hS
      exact ⟨o, es, ep, tb, hm.heap S _ hSw ho, rest⟩
    show wpAny _ A.in1 (holding [Value.str (xs.getD i Str.empty) t] (setAdd S (.str (xs.getD i Str.empty) t)) >>= _) _ _ s'
    refine wpAny_bind (wpAny_holding ?_)
    unfold setAdd
    refine wpAny_holding ?_
    refine wpAny_bind ((PySem.strKind prog w).pyHash (k := xs.getD i Str.empty) (strKind_is _ _ _ _) ?_)
    refine wpAny_setAddHashed_of (knd := PySem.strKind prog w) (s := { s' with toks := s'.toks + 1 }) (strKind_is _ _ _ _) rfl hS' (by unfold scanBound; omega) fun h' hsb hS2 => ?_
    have hSi : h'.SetOf (PySem.strKind prog w) S (fun k' => (xs.take (i + 1)).any (· == k')) (cnt xs (i + 1)) := by
      refine SetOf_congr hS2 (fun k' => ?_) rfl
      have hg : xs.getD i Str.empty = xs[i] := by simp [hix]
      rw [List.take_add_one, List.getElem?_eq_getElem hix, List.any_append, hg]
      show ((xs.take i).any (· == k') || decide (k' = xs[i])) = ((xs.take i).any (· == k') || [xs[i]].any (· == k'))
      congr 1
      by_cases e : k' = xs[i]
      · simp [e]
      · have hb : (xs[i] == k') = false := beq_eq_false_iff_ne.mpr fun z => e z.symm
        simp [hb, e]
    refine wpAny_pure ⟨plainId_quiet PyProof.Rows.F.plain_set_update_loop _, ih (i + 1) _ (by omega) hlt (W.frame _ s' _ _ hst' (Nat.le_succ _) fun b hb o e => ?_) hSi fun s'' hm'' hS'' => ?_⟩
    · rw [hsb.2 b (fun h : b = S => hSf (by rw [← h]; exact hb))]; exact e
    · refine hR s'' (Moved.trans W.gtrans ((hm.mono hsub).then_heap (Nat.le_succ _) fun b o hb e => ?_) hm'') hS''
      rw [hsb.2 b (fun h : b = S => hb (by rw [h]; exact List.mem_cons_self))]; exact e
end
section
variable {prog : Program} {w : World} {A : Around} {E : Value → Shared → Prop} {s : Shared}
set_option maxHeartbeats 3200000 in
theorem call_setStrs {l : Addr} {items : Array Value} {xs : List Str} {Q : Value → Shared → Prop}
    (hh : A.handled = none) (hl : s.heap.IsList l items) (hi : PyProof.Rows.StrsAre items.toList xs) (hn1 : xs.length ≤ 1000)
    (h : ∀ (h' : Heap) (tk : Nat), h'.SetOf (PySem.strKind prog w) s.heap.objs.size (fun k' => (xs.take items.size).any (· == k')) (cnt xs items.size) →
      (∀ b o, b < s.heap.objs.size → s.heap.get? b = some o → h'.get? b = some o) → Q (.ref s.heap.objs.size) { s with heap := h', toks := tk }) :
    wpAny (model prog w) A (call (.type "set") [.ref l]) Q E s := by
  obtain ⟨c, tl, hmro⟩ := PySem.F.called_set.mro
  have hmade := PySem.F.called_set.made
  have hsub := PySem.F.called_set.sub
  refine wpAny_call (codeAny_of_tree ?_)
  show wpAny _ _ (callAny (.type "set") _) _ _ _
  refine wpAny_pure ⟨Code.quiet_builtin _ (by decide +kernel), codeAny_builtin PySem.F.entry_type_call ?_⟩
  rw [Around.under_plain (weight_type_call_type "set" [.ref l] []) rfl]
  have h1 := PySem.F.called_set.notType
  have h2 := PySem.F.called_set.canCreate
  have hct := PySem.F.typeCall_set_1 (.ref l)
  repeat (any_goals (first | assumption | wp_step))

  refine codeAny_mono (code_set_new_1 (.ref l) (E := E) (Q₁ := fun obj s₁ => ∃ led : Bool, obj = .ref s.heap.objs.size ∧ s₁ = { s with heap := s.heap.push { cls := .type "set", dict := none, data := .set #[] 0 (.fresh 0 0 led) } }) fun led => ⟨led, rfl, rfl⟩) fun r s₁ hr => ?_
  cases r with
  | error e => exact hr
  | ok fl =>
    cases fl with
    | ret obj =>
      obtain ⟨led, rfl, rfl⟩ := hr
      have hS : (s.heap.push { cls := .type "set", dict := none, data := .set #[] 0 (.fresh 0 0 led) }).get? s.heap.objs.size = some { cls := .type "set", dict := none, data := .set #[] 0 (.fresh 0 0 led) } := Heap.get?_push_size _ rfl
      have hT : Shared.TypeIs { s with heap := s.heap.push { cls := .type "set", dict := none, data := .set #[] 0 (.fresh 0 0 led) } } (.ref s.heap.objs.size) "set" := ⟨_, hS, rfl⟩
      have hli := PySem.F.called_set.init.lookup
      have hbi := PySem.F.called_set.init.bind (.ref s.heap.objs.size)
      repeat (any_goals (first | assumption | wp_step))

      refine codeAny_mono (codeAny_call_builtin (R := wants (fun r s₂ => r = .none ∧ ∃ h' tk, s₂ = { s with heap := h', toks := tk } ∧
          h'.SetOf (PySem.strKind prog w) s.heap.objs.size (fun k' => (xs.take items.size).any (· == k')) (cnt xs items.size) ∧
          (∀ b o, b < s.heap.objs.size → s.heap.get? b = some o → h'.get? b = some o)) E) PySem.F.called_set.init.plain PySem.F.entry_set_init (check_set_init_1 hT ?_)) fun r₂ s₂ hr₂ => ?_
      · obtain ⟨ol, hol, hcl, nl, hdl⟩ := hl
        obtain ⟨ocls, odict, odata, oslots⟩ := ol
        simp only at hcl hdl
        subst hcl; subst hdl
        have hol' : (s.heap.push { cls := .type "set", dict := none, data := .set #[] 0 (.fresh 0 0 led) }).get? l = some { cls := .type "list", dict := odict, data := .seq items nl, slots := oslots } := Heap.get?_push_of_some _ hol
        have hsls := PySem.F.sub_list_set
        have hslf := PySem.F.sub_list_frozenset
        have hne : (Value.type "list" == Value.type "dict") = false := by decide
        have hl1 : (s.heap.push { cls := .type "set", dict := none, data := .set #[] 0 (.fresh 0 0 led) }).IsList l items := ⟨_, hol', rfl, nl, rfl⟩
        unfold Builtin.«set.__init__» noKeywords Builtin.Frozenset.updateFrom
        generalize hPI : pyIter = PI
        wp_walk
        subst hPI

        refine wpAny_pyIter_list hl1 ?_
        refine wpAny_bind (wpAny_runValue ?_)
        have hlS : l < s.heap.objs.size := Heap.lt_size hol
        have hh3 : A.in1.in1.in1.handled = none := by simp [hh]
        have hneI : l ≠ (s.heap.push { cls := .type "set", dict := none, data := .set #[] 0 (.fresh 0 0 led) }).objs.size := by
          rw [Heap.size_push]; exact Nat.ne_of_lt (Nat.lt_succ_of_lt hlS)
        have hSf : s.heap.objs.size ∉ [(s.heap.push { cls := .type "set", dict := none, data := .set #[] 0 (.fresh 0 0 led) }).objs.size, l] := by
          rw [Heap.size_push]; simp only [List.mem_cons, List.mem_singleton, List.not_mem_nil, or_false, not_or]
          exact ⟨Nat.ne_of_lt (Nat.lt_succ_self _), Nat.ne_of_gt hlS⟩
        have hsz : xs.length = items.size := by rw [← StrsAre.len_eq hi, Array.length_toList]
        have hval : ∀ (i : Nat) (v : Value), items[i]? = some v → ∃ t, v = .str (xs.getD i Str.empty) t := fun i v hv => strs_at hi i v (by rw [Array.getElem?_toList]; exact hv)
        refine setLoop ((Walks.list hh3 _ l hneI items).toS) s.heap.objs.size
          hSf xs hsz (by rw [← hsz]; exact hn1) hval (items.size - 0) 0 _ (by omega) (Nat.zero_le _)
          ⟨⟨_, Heap.get?_push_size _ rfl, rfl, rfl⟩, (hl1.push _)⟩ ?hS0 ?hR
        case hS0 =>
          have hget : ((s.heap.push { cls := .type "set", dict := none, data := .set #[] 0 (.fresh 0 0 led) }).push { cls := .type "list_iterator", data := .fields #[.ref l, .int 0 0] }).get? s.heap.objs.size
              = some { cls := .type "set", dict := none, data := .set #[] 0 (.fresh 0 0 led) } := Heap.get?_push_of_some _ hS
          exact PyProof.Rows.SetOf_congr ((PyProof.Rows.setObjOf_fresh (knd := PySem.strKind prog w) led).setOf hget (by unfold scanBound; omega)) (fun _ => rfl) rfl
        case hR =>
          intro s' hm hS'
          obtain ⟨h', g', d', tk', os'⟩ := s'
          have eg : g' = s.gens := hm.gens
          have ed : d' = s.drawn := hm.drawn
          have eo : os' = s.os := hm.os
          subst eg; subst ed; subst eo
          show wpAny _ _ _ _ _ _
          refine wpAny_pure ?_
          show wpAny _ _ (ret Value.none) _ _ _
          refine wpAny_pure ⟨rfl, h', tk', rfl, hS', fun b o hb e => ?_⟩
          have hb1 : b ≠ s.heap.objs.size := Nat.ne_of_lt hb
          have hb2 : b ≠ (s.heap.push { cls := .type "set", dict := none, data := .set #[] 0 (.fresh 0 0 led) }).objs.size := by
            rw [Heap.size_push]; exact Nat.ne_of_lt (Nat.lt_succ_of_lt hb)
          exact hm.heap b o (by simp only [List.mem_cons, List.mem_singleton, List.not_mem_nil, or_false, not_or]; exact ⟨hb1, hb2⟩) (Heap.get?_push_of_some _ (Heap.get?_push_of_some _ e))

      · cases r₂ with
        | error e => exact hr₂
        | ok fl₂ =>
          cases fl₂ with
          | ret r =>
            obtain ⟨rfl, h', tk, rfl, hS', hk'⟩ := hr₂
            repeat (any_goals (first | assumption | wp_step))
            exact h _ _ hS' hk'
          | _ => exact hr₂.elim
    | _ => exact hr.elim

end
end K80
namespace K80
open PySem PySem.Spec PyProof.Rows L2
def tLenSetS (K : PySem.W.Frag) (ta : TE) : TE := fun σ H Q => ta σ H fun x H1 => ∃ l, ∃ xs : List Str, x = .ref l ∧ SqL K H1 l (xs.map V.str) ∧ xs.length ≤ 1000 ∧ Q (.int (cnt xs xs.length : Nat)) H1
section
variable {X : Cx}
/-- len(set(a)), a a list of texts -/
theorem pe_lenSetS {a : Expr} {ta : TE} {p p2 q pos : Pos} (hc : X.calm = true) (hg : Gl X "len") (hm : X.mg "len" = none) (hg2 : Gl X "set") (hm2 : X.mg "set" = none) (ha : PE X a ta)
    (na : starEach [a] X.env = (false, eval a X.env) :: starEach [] X.env := by rfl) : PE X (.Call (.Name "len" p) [.Call (.Name "set" p2) [a] [] q] [] pos) (tLenSetS X.K ta) := by
  refine ⟨fun pins s σ H Q I h => ?_⟩
  refine Call_ (ld_blt I hg hm boot_len ?_)
  refine PyProof.Rows.callWith_builtin1 (PyProof.Rows.args_cons ?_ rfl) rfl rfl
  refine Call_ (ld_blt I hg2 hm2 boot_set ?_)
  refine PyProof.Rows.callWith_type1 (PyProof.Rows.args_cons (thn (ha.run pins s σ H _ I h) fun v s1 ⟨x, H1, I1, r1, q1⟩ => PyProof.Rows.args_nil ?_) na) na rfl
  obtain ⟨l, xs, rfl, hq, h1, q1⟩ := q1
  cases r1
  obtain ⟨its, r, pl, hz⟩ := I1.list hq
  refine call_setStrs (I1.ok.hd hc) pl.isList (by simpa using strsAre_of r) h1 fun h' tk hS hk => ?_
  refine PyProof.Rows.args_nil ?_
  have hl : its.toArray.size = xs.length := by rw [List.size_toArray, ← r.length, List.length_map]
  rw [hl] at hS
  have hle := cnt_le xs xs.length
  obtain ⟨o, es, ep, t, ho, hex, hd, _, _, _, hf, hn⟩ := hS
  have I2 : Inv X pins σ H1 { s1 with heap := h', toks := tk } := I1.kept fun b o e => hk b o (Heap.lt_size e) e
  exact call_len_set ho hex hd hf (by rw [hn] <;> omega) ⟨.int (cnt xs xs.length : Nat), H1, I2.tok _, ⟨_, by rw [hn]⟩, q1⟩
end
end K80
set_option Elab.async false
set_option linter.all false
set_option maxRecDepth 100000
set_option maxHeartbeats 4000000
/-! An own exception over a built-in class whose __init__ says super().__init__(x); self.f = x. -/
namespace K80
open PySem PySem.W PySem.Calls PyProof.Rows PySem.HandSPX
def xA (fld : Str) (ps : Nat → Pos) : Arguments := { posonlyargs := [], args := [{ arg := "self", annotation := none, pos := ps 0 }, { arg := fld, annotation := none, pos := ps 1 }], vararg := none, kwonlyargs := [], kw_defaults := [], kwarg := none, defaults := [] }
def xCall (fld : Str) (ps : Nat → Pos) : Expr := .Call (.Attribute (.Call (.Name "super" (ps 2)) [] [] (ps 3)) "__init__" (ps 4)) [.Name fld (ps 5)] [] (ps 6)
def xB (fld : Str) (ps : Nat → Pos) : List Stmt :=
  [.Expr (xCall fld ps) (ps 7), .Assign [.Attribute (.Name "self" (ps 8)) fld (ps 9)] (.Name fld (ps 10)) (ps 11)]
def xS (fld : Str) : Scope := { kind := .function, names := [(PySem.Str.ofString "self", .local), (fld, .local), (PySem.Str.ofString "__class__", .free), (PySem.Str.ofString "super", .globalImplicit)], isGenerator := false, isCoroutine := false, more := [] }
/-- what the written part says of such a class, at C, and of its __init__, at fI -/
structure ExcT (prog : Program) (K : Frag) (mg : Str → Option Value) (nm fld qual : Str) (ps : Nat → Pos) (B newId initId : String) (bmB : List Value) (C fI : Addr) : Prop where
  gC : mg nm = some (.ref C)
  kC : keepIn K (.ref C) = true
  mkc : excInitIn K C bmB newId = true
  ov : excOver K C bmB = true
  sa : findIn K (.ref C) "__setattr__" = some (some (.builtin "object.__setattr__"))
  tk : takerIn K C fld = some none
  hd : hasDictIn K C = true
  ini : findIn K (.ref C) "__init__" = some (some (.ref fI))
  isf : isFn K (.ref fI) = true
  exC : subIn K (.ref C) (.type "BaseException") = some true
  tyC : typeIn K (.ref C) = some (.type "type")
  sB : subIn K (.ref C) (.type B) = some true
  mroC : mroIn K C (.ref C) = some true
  al : ks_superIn K C C "__init__" = some (some (.builtin initId))
  sup : nsIn K mainGlobals "super" = some none
  opq : nsIn K cStatics "thirdparty.any" = some none
  top : (prog.main.scope.names.lookup ("super" : Str)).isSome = false
  fn : ∃ (oc ccl cl : Value) (od an cdd cld : Option Addr) (doc pm ct : Value) (cda cc : Addr) (osl ccs csl : Array (Option Value)) (vs : Array Value) (file : Str) (tf : Tok),
    K.lookup fI = some ⟨oc, od, .func (ksFn "__init__" qual (xA fld ps) (xB fld ps) (xS fld) .none .none doc pm an (.ref cda) ct cc), osl⟩ ∧ codeIn K (.ref cda) qual = true ∧
    K.lookup cda = some ⟨ccl, cdd, .fields vs, ccs⟩ ∧ vs[2]? = some (.str file tf) ∧ ((prog.main.file : Str) == file) = true ∧ K.lookup cc = some ⟨cl, cld, .cell (some (.ref C)), csl⟩
/-- what the def's own text says of its names and rows (each by rfl or decide) -/
structure ExcN (fld qual : Str) (ps : Nat → Pos) : Prop where
  l1 : (xS fld).names.lookup fld = some .local
  l2 : (xS fld).names.lookup ("super" : Str) = some .globalImplicit
  l3 : (xS fld).names.lookup ("__class__" : Str) = some .free
  ld : (fld == ("__debug__" : Str)) = false
  hne : ("self" : Str) ≠ fld
  hbd : ∀ (bd : List Stmt) (doc pm : Value) (an : Option Addr) (cdv ct : Value) (cc : Addr) (a b : Value), bindArgs (ksFn (PySem.Str.ofString "__init__") qual (xA fld ps) bd (xS fld) .none .none doc pm an cdv ct cc) ⟨[a, b], []⟩ = pure ([("self", a), (fld, b)] : List (Str × Value))
  hev : ∀ env : Env, eval (xCall fld ps) env = (do
      let ov ← attributeBase (.Call (.Name "super" (ps 2)) [] [] (ps 3)) "__init__" env (eval (.Call (.Name "super" (ps 2)) [] [] (ps 3)) env)
      standAt (ps 4).atName
      let (f, first) ← holding [ov] (getMethod ov "__init__" (L2.plainOf (.Call (.Name "super" (ps 2)) [] [] (ps 3)) env))
      callWith (ps 6) f first (backTo (ps 6) (starEach [.Name fld (ps 5)] env)) [])
  hsw : ∀ env : Env, env.scope = xS fld → swapsWith (xCall fld ps) none (ps 7).line env = pure false
/-- the closing of a made exception -/
structure InitEnd (h h' : Heap) (x C dx t1 : Addr) (fld : Str) (v : Value) : Prop where
  keep : ∀ b o, b ≠ x → h.get? b = some o → h'.get? b = some o
  obj : h'.get? x = some { cls := .ref C, dict := some dx, data := .fields #[.ref t1, .none, .none, .none, .bool false, .none] }
  dbig : h.objs.size ≤ dx
  dne : dx ≠ x
  ns : h'.Ns1 dx (fun y => if y = fld then some v else none)
theorem one_size (v : Value) : [v].length ≤ sizeLine := by
  rw [sizeLine_eq]
  exact (by decide : 1 ≤ 16777216)
section
variable {prog : Program} {w : World} {A : Around} {E : Value → Shared → Prop} {R : Result → Shared → Prop} {h : Heap} {g : Array GenState} {d : Drawn} {t : Nat} {os : OsState} {B newId initId : String} {bmB : List Value} {K : Frag} {C : Addr}
/-- the bound built-in __init__ called -/
theorem call_mw {u e t0 : Addr} {rest : List Value} {Q : Value → Shared → Prop} (FB : ExcBaseFacts B newId initId bmB) (X : K.In h) (q : excInitIn K C bmB newId = true)
    (he : h.get? e = some (excO C t0)) (hu : h.get? u = some (kxs_mw initId e)) (hrest : rest.length ≤ sizeLine)
    (hq : ∀ h' t1, (∀ b o, b ≠ e → h.get? b = some o → h'.get? b = some o) → h'.get? e = some (excO C t1) → Q .none ⟨h', g, d, t, os⟩) :
    wpAny (model prog w) A (call (.ref u) rest) Q E ⟨h, g, d, t, os⟩ := by
  obtain ⟨nm, N', qn, bs, bm, hdct, sn, sub, ab, col, dd, k0, k1, k2, k3, k5, hC, hT⟩ := excInit_of X q
  refine wpAny_call (codeAny_of_tree ?_)
  show wpAny _ A.in1 (callAny (.ref u) ⟨rest, []⟩) _ _ _
  simp only [callAny]
  refine wpAny_bind (wpAny_load hu ?_)
  simp only [kxs_mw, show (Value.type "method-wrapper" == Value.type "method" || Value.type "method-wrapper" == Value.type "builtin_function_or_method" || Value.type "method-wrapper" == Value.type "method-wrapper") = true by decide, if_true]
  refine KFB.if_so (by decide) ?_
  refine wpAny_bind (check_bound_init FB.toExcCallFacts hC he rfl ?_)
  refine wpAny_bind (wpAny_pure (wpAny_pure ?_))
  refine ⟨plainId_quiet FB.init.plain _, codeAny_builtin FB.initEntry ?_⟩
  exact exc_init_tree (cls := .ref C) (t0 := t0) (dv := none) (c2 := .none) (c3 := .none) (b4 := .bool false) he hrest fun h' k ho _ => hq h' h.objs.size k ho
/-- self.f = v on an exception without a dict -/
theorem osa_newB {fld : Str} {tk : Tok} {v : Value} {x : Addr} {t0 : Addr} (SF : StoreFacts B bmB "object.__setattr__" "object") (X : K.In h) (hx : h.get? x = some (excO C t0)) (ov : excOver K C bmB = true) (tkr : takerIn K C fld = some none) (hd : hasDictIn K C = true)
    (hq : ∀ h' tk' dx, (∀ b o, b ≠ x → h.get? b = some o → h'.get? b = some o) → h.objs.size ≤ dx → dx ≠ x → h'.get? x = some { cls := .ref C, dict := some dx, data := .fields #[.ref t0, .none, .none, .none, .bool false, .none] } →
      h'.Ns1 dx (fun y => if y = fld then some v else none) → R (.ok (.ret .none)) ⟨h', g, d, tk', os⟩) :
    codeAny (model prog w) A (.call (.builtin "object.__setattr__") ⟨[.ref x, .str fld tk, v], []⟩) R ⟨h, g, d, t, os⟩ := by
  have I : InstAt h x (excO C t0) C none := ⟨hx, rfl, rfl, trivial⟩
  have hxs : x ≠ h.objs.size := Nat.ne_of_lt (Heap.lt_size hx)
  refine osa_openX (s := ⟨h, g, d, t, os⟩) SF X I ov tkr fun b => ?_
  obtain ⟨cd, hcd, hh⟩ := any_some hd
  have hcls : Looks (model prog w) h (classData C) cd := looks_clsIn X hcd
  obtain ⟨nm, bs, mro, ns, qn, hdd, sn, sb, ab, col, del⟩ := cd
  dsimp only at hh
  subst hh
  show wpAny _ _ (Builtin.ObjectAttr.storeInOwnDict _ _ _ _ _ b) _ _ _
  unfold Builtin.ObjectAttr.storeInOwnDict Builtin.ObjectAttr.ownDictForStores
  repeat (first | with_reducible refine HandSPX.store_in_new ?_ ?_ | with_reducible refine wpAny_loadPart_at hx ?_ | with_reducible refine hcls.at ?_ | wp_step)
  · exact ⟨_, #[], _, (Heap.get?_update_ne _ _ _ _ hxs.symm).trans (Heap.get?_push_at rfl rfl), rfl, fun e he => absurd he (by simp), fun _ => rfl⟩
  · intro h' tk' hn' hs
    have hx₁ : (h.push { cls := .type "dict", data := .dict #[] }).get? x = some (excO C t0) := Heap.get?_push_of_some _ hx
    refine hq h' tk' h.objs.size (fun b o hb ho => ?_) (Nat.le_refl _) hxs.symm ?_ hn'
    · exact (hs.2 b (Nat.ne_of_lt (Heap.lt_size ho))).trans ((Heap.get?_update_ne _ _ _ _ hb).trans (Heap.get?_push_of_some _ ho))
    · exact (hs.2 x hxs).trans (Heap.get?_update_self _ hx₁ rfl)
end
section
variable {prog : Program} {w : World} {A : Around} {R : Result → Shared → Prop} {s : Shared} {K : Frag} {mg : Str → Option Value} {nm fld qual : Str} {ps : Nat → Pos} {B newId initId : String} {bmB : List Value} {C fI : Addr}
theorem exc_init (T : ExcT prog K mg nm fld qual ps B newId initId bmB C fI) (FB : ExcBaseFacts B newId initId bmB) (KF : KxsFacts B initId) (SF : StoreFacts B bmB "object.__setattr__" "object")
    {x t0 : Addr} {v : Value} (X : K.In s.heap) (hg : s.heap.Ns mainGlobals mg) (hb : ∃ mb, s.heap.Ns builtinsNs mb ∧ mb "super" = some (.type "super")) (hlim : s.heap.NoLimit) (hx : s.heap.get? x = some (excO C t0)) (hnx : K.lookup x = none) (hroom : A.depth < recursionLimit)
    (N : ExcN fld qual ps)
    (hq : ∀ h' tk dx t1, InitEnd s.heap h' x C dx t1 fld v → R (.ok (.ret .none)) { s with heap := h', toks := tk }) :
    codeAny (model prog w) A (.call (.ref fI) ⟨[.ref x, v], []⟩) R s := by
  obtain ⟨oc, ccl, cl, od, an, cdd, cld, doc, pm, ct, cda, cc, osl, ccs, csl, vs, file, tf, ho, hcd, hcode, hvs, hfile, hcell⟩ := T.fn
  obtain ⟨l1, l2, l3, ld, hne, hbd, hev, hsw⟩ := N
  have l0 : (xS fld).names.lookup ("self" : Str) = some .local := rfl
  refine ks_codeAny_call_defAt (fd := ksFn "__init__" qual (xA fld ps) (xB fld ps) (xS fld) .none .none doc pm an (.ref cda) ct cc) (body := xB fld ps) (binds := [("self", .ref x), (fld, v)])
    hroom (X _ _ ho) rfl hlim (codeRec_of X hcd) rfl (BindsTo.of_eq (hbd _ _ _ _ _ _ _ _ _)) ?hcell ?hloc (fun h₁ hns kp => ?_) rfl rfl rfl
  case hcell =>
    intro y hy
    have hy' : y ∈ [(PySem.Str.ofString "self", NameKind.local), (fld, NameKind.local), (PySem.Str.ofString "__class__", NameKind.free), (PySem.Str.ofString "super", NameKind.globalImplicit)] := hy
    simp only [List.mem_cons, List.not_mem_nil, or_false] at hy'
    rcases hy' with rfl | rfl | rfl | rfl <;> (intro z; cases z)
  case hloc =>
    intro y hy
    simp only [List.mem_cons, List.not_mem_nil, or_false] at hy
    rcases hy with rfl | rfl
    · exact l0
    · exact l1
  obtain ⟨hp, g, d, tk, os⟩ := s
  dsimp only at hns kp ⊢
  have nself : (([("self", Value.ref x), (fld, v)] : List (Str × Value)).reverse.lookup ("self" : Str)) = some (.ref x) := by
    show (match ("self" : Str) == fld with | true => some v | false => _) = _
    rw [beq_eq_false_iff_ne.mpr hne] <;> rfl
  have nfld : (([("self", Value.ref x), (fld, v)] : List (Str × Value)).reverse.lookup fld) = some v := by
    show (match fld == fld with | true => some v | false => _) = _
    rw [beq_self_eq_true]
  have X₁ : K.In h₁ := X.keeps kp
  have hx₁ := kp _ _ hx
  obtain ⟨mb, hb1, hb2⟩ := hb
  obtain ⟨cdC, hcC, hmC⟩ : ∃ cd, clsIn K C = some cd ∧ alongIn K "__init__" ((cd.mro.dropWhile (· != .ref C)).drop 1) = some (some (.builtin initId)) := by
    have al := T.al
    unfold ks_superIn at al
    cases q : clsIn K C with
    | none => rw [q] at al; cases al
    | some cd => rw [q] at al; exact ⟨cd, rfl, al⟩
  obtain ⟨oD, hD1, hD2⟩ : ∃ oD, h₁.get? C = some oD ∧ oD.data = .cls cdC := by
    have hcC' := hcC
    unfold clsIn at hcC'
    split at hcC'
    · rename_i c d cd' sl ho
      cases hcC'
      exact ⟨_, X₁ _ _ ho, rfl⟩
    · cases hcC'
  have I₁ : InstAt h₁ x (excO C t0) C none := ⟨hx₁, rfl, rfl, trivial⟩
  have xC : x ≠ C := ks_ne X₁ I₁ hcC
  show _root_.PySem.wpAt (model prog w) (A.deeper (ksEnv qual (xS fld) hp.objs.size fI (.ref cda) cc)) (.func (xB fld ps) (ksEnv qual (xS fld) hp.objs.size fI (.ref cda) cc)) (execs (xB fld ps) (ksEnv qual (xS fld) hp.objs.size fI (.ref cda) cc)) _ _ _
  refine ks_wpAt_execs_cons (ks_wpAt_Expr_any (ks_wpAt_MethodCall ?_ (hev _)) rfl (hsw _ rfl))
  · -- super()
    refine ks_wpAt_super_base (env := ksEnv qual (xS fld) hp.objs.size fI (.ref cda) cc) l2 l3 rfl rfl (X₁ _ _ ho) rfl rfl rfl (X₁ _ _ hcode) rfl hvs hfile T.top ?_
    refine ks_loadName_global rfl l2 (loadGlobal_builtin (env := ksEnv qual (xS fld) hp.objs.size fI (.ref cda) cc) (hg.keeps kp) (mg_none_of X hg T.sup) (hb1.keeps kp) hb2 ⟨rfl, ?_⟩)
    refine wpAny_loadName_free rfl l3 rfl ⟨_, X₁ _ _ hcell, rfl⟩ ?_
    refine wpAny_loadName_local rfl l0 hns nself ?_
    refine ks_wpAny_isType_cls hD1 hD2 ⟨rfl, ?_⟩
    refine ks_wpAny_call_super hD1 hD2 I₁.at_ I₁.cls (fun c e => by cases e) (looks_mroIn X₁ T.mroC) (fun h₂ e₂ k₂ => ?_)
    have X₂ : K.In h₂ := X₁.keeps k₂
    have I₂ : InstAt h₂ x (excO C t0) C none := ⟨k₂ _ _ hx₁, rfl, rfl, trivial⟩
    refine kxs_getMethod KF e₂ (looks_opaque X₂ T.opq) (l₀ := cdC.mro) (fun A Q E s k q => wpAny_bind ((looks_clsIn X₂ hcC) A _ E s k (wpAny_pure q))) rfl X₂ hmC (I₂.type.andThen (looks_subIn X₂ T.sB)) xC rfl ?_
    -- __init__(x)
    generalize hE3 : h₂.push (kxs_mw initId x) = h₃
    have k₃ : ∀ b o, h₂.get? b = some o → h₃.get? b = some o := fun b o e => by rw [← hE3]; exact Heap.get?_push_of_some _ e
    have hu : h₃.get? h₂.objs.size = some (kxs_mw initId x) := by rw [← hE3]; exact Heap.get?_push_size _ rfl
    have kk : ∀ b o, h₁.get? b = some o → h₃.get? b = some o := fun b o e => k₃ b o (k₂ b o e)
    have hns₃ := hns.keeps kk
    show wpAny _ _ (callWith (ps 6) (.ref h₂.objs.size) [] (backTo (ps 6) (starEach [.Name fld (ps 5)] (ksEnv qual (xS fld) hp.objs.size fI (.ref cda) cc))) []) _ _ _
    refine kxs_callWith (i := initId) (x := x) rfl (evalArgs_plain ?_)
    refine Calls.spliced_cons (wpAny_Name (wpAny_loadName_local rfl l1 hns₃ nfld ?_) ld)
    refine Calls.spliced_nil ⟨hu, ?_⟩
    have X₃ : K.In h₃ := X₁.keeps kk
    refine call_mw FB X₃ T.mkc (kk _ _ hx₁) hu (one_size v) fun h₄ t1 k₄ hx₄ => ?_
    have X₄ : K.In h₄ := fun a o e => k₄ a o (fun z => by rw [z, hnx] at e; cases e) (X₃ a o e)
    have hxL : hp.objs.size ≠ x := Nat.ne_of_gt (Heap.lt_size hx)
    have hns₄ : h₄.Ns hp.objs.size (fun y => ([("self", Value.ref x), (fld, v)] : List (Str × Value)).reverse.lookup y) := by
      obtain ⟨o, es, ep, e, r⟩ := hns₃
      exact ⟨o, es, ep, k₄ _ _ hxL e, r⟩
    -- self.f = x
    refine wpAt_of_wpAny (wpAny_execs_cons (plainObj_wpAny_Assign_Attribute ?_))
    refine wpAny_Name (wpAny_loadName_local rfl l1 hns₄ nfld ?_) ld
    refine wpAny_Name (wpAny_loadName_local rfl l0 hns₄ nself ?_)
    refine set_plain X₄ (ox := excO C t1) (od := none) ⟨hx₄, rfl, rfl, trivial⟩ T.sa ?_
    refine osa_newB SF X₄ hx₄ T.ov T.tk T.hd fun h₅ tk₅ dx k₅ dn dne hx₅ hn₅ => ?_
    have z : hp.objs.size < h₄.objs.size := hns₄.lt
    exact wpAny_execs_nil (hq h₅ tk₅ dx t1 ⟨fun b o hb e => k₅ b o hb (k₄ b o hb (kk b o (kp b o e))), hx₅, Nat.le_of_lt (Nat.lt_of_lt_of_le z dn), dne, hn₅⟩)
/-- a made exception -/
structure OwnMade (h h' : Heap) (e C d : Addr) (fld : Str) (v : Value) : Prop where
  keep : ∀ b o, h.get? b = some o → h'.get? b = some o
  new : h.objs.size ≤ e
  obj : ∃ oe vs, h'.get? e = some oe ∧ oe.cls = .ref C ∧ oe.dict = some d ∧ oe.data = .fields vs ∧ vs[1]? = some .none
  dbig : h.objs.size ≤ d
  dne : d ≠ e
  ns : h'.Ns1 d (fun y => if y = fld then some v else none)
theorem exc_made (T : ExcT prog K mg nm fld qual ps B newId initId bmB C fI) (FB : ExcBaseFacts B newId initId bmB) (KF : KxsFacts B initId) (SF : StoreFacts B bmB "object.__setattr__" "object") (N : ExcN fld qual ps)
    {v : Value} (X : K.In s.heap) (hg : s.heap.Ns mainGlobals mg) (hb : ∃ mb, s.heap.Ns builtinsNs mb ∧ mb "super" = some (.type "super")) (hlim : s.heap.NoLimit) (hroom : A.depth + 1 < recursionLimit)
    (hq : ∀ h' tk e d, OwnMade s.heap h' e C d fld v → R (.ok (.ret (.ref e))) { s with heap := h', toks := tk }) :
    codeAny (model prog w) A (.call (.ref C) ⟨[v], []⟩) R s := by
  obtain ⟨nm2, N', qn, bs, bm, hdct, sn, sub, ab, col, dd, k0, k1, k2, k3, k5, hC, hT⟩ := excInit_of X T.mkc
  obtain ⟨hp, g, dr, tk, os⟩ := s
  have k : ∀ b o, hp.get? b = some o → ((hp.push (kdv_tup [v])).push (excO C hp.objs.size)).get? b = some o := fun b o e => Heap.get?_push_of_some _ (Heap.get?_push_of_some _ e)
  have hget : ((hp.push (kdv_tup [v])).push (excO C hp.objs.size)).get? (hp.objs.size + 1) = some (excO C hp.objs.size) := by heap_get
  have hnx : K.lookup (hp.objs.size + 1) = none := by
    cases e : K.lookup (hp.objs.size + 1) with
    | none => rfl
    | some o =>
      have z : hp.get? (hp.objs.size + 1) = some o := X _ _ e
      exact absurd (Nat.lt_of_succ_lt (Heap.lt_size z)) (Nat.lt_irrefl _)
  obtain ⟨oI, hoI, hcI⟩ : ∃ oI, hp.get? fI = some oI ∧ oI.cls = .type "function" := by
    obtain ⟨o, ho, hc⟩ := Option.map_eq_some_iff.mp (show (K.lookup fI).map (·.cls) = some (.type "function") from beq_iff_eq.mp T.isf)
    exact ⟨o, X _ _ ho, hc⟩
  obtain ⟨mb, hb1, hb2⟩ := hb
  refine HandSPX.call_own FB hT hC (looks_findIn X T.ini) (fun self => exc_bind hoI hcI self) (one_size v) ?_
  refine exc_init (s := ⟨(hp.push (kdv_tup [v])).push (excO C hp.objs.size), g, dr, tk, os⟩) T FB KF SF (X.keeps k) (hg.keeps k) ⟨mb, hb1.keeps k, hb2⟩ (hlim.keeps k) hget hnx ?_ N fun h' tk' dx t1 ⟨k', hx, dn, dne, hns⟩ => ?_
  · show A.depth + 1 < recursionLimit
    exact hroom
  · have old : ∀ b o, hp.get? b = some o → h'.get? b = some o := fun b o e => k' b o (Nat.ne_of_lt (Nat.lt_succ_of_lt (Heap.lt_size e))) (k b o e)
    have z : hp.objs.size + 1 + 1 ≤ dx := by
      have q := dn
      rw [Heap.size_push, Heap.size_push] at q
      exact q
    exact ⟨rfl, hq h' tk' (hp.objs.size + 1) dx ⟨old, Nat.le_succ _, ⟨_, _, hx, rfl, rfl, rfl, rfl⟩, Nat.le_trans (Nat.le_trans (Nat.le_succ _) (Nat.le_succ _)) z, dne, hns⟩⟩
end
end K80
namespace K80
open PySem PySem.Spec PyProof.Rows L2
theorem relO_fld {v : V} {v' : Value} {fld : Str} (r : RelV v v') (f : Str) : RelO (List.lookup f [(fld, v)]) (if f = fld then some v' else none) := by
  by_cases hw : f = fld
  · subst hw
    rw [if_pos rfl]
    have q : List.lookup f [(f, v)] = some v := by simp [List.lookup]
    rw [q]
    exact r
  · rw [if_neg hw]
    have qw : (f == fld) = false := by simpa using hw
    have q2 : List.lookup f [(fld, v)] = none := by simp [List.lookup, qw]
    rw [q2]
    trivial
section
variable {X : Cx} {C fI : Addr} {nm fld qual : Str} {ps : Nat → Pos} {B newId initId : String} {bmB : List Value}
def tMkX (C : Addr) (fld : Str) (ta : TA) : L2.St → Hp → XK → Prop := fun σ H Q => ta σ H fun vs H1 => ∃ v, vs = [v] ∧ ∀ d, H1 d = none → Q (.ref C) (some d) (upd H1 d (.xd [(fld, v)]))
/-- the exception made -/
theorem pmk_sup {a : Expr} {ta : TA} {p pos : Pos} {k : Nat} (T : ExcT X.prog X.K X.mg nm fld qual ps B newId initId bmB C fI) (FB : ExcBaseFacts B newId initId bmB) (KF : PySem.W.KxsFacts B initId) (SF : StoreFacts B bmB "object.__setattr__" "object") (N : ExcN fld qual ps) (hr : Room k X.A) (hk : 1 ≤ k) (ha : PA X [a] ta) (hg : Gl X nm)
    (hdb : (nm == ("__debug__" : Str)) = false := by decide)
    (he : starEach (a :: []) X.env = (false, eval a X.env) :: starEach [] X.env := by rfl) (hpl : (backTo pos (starEach [] X.env)).any (·.1) = false := by rfl) :
    PMk X (.Call (.Name nm p) [a] [] pos) (tMkX C fld ta) := by
  intro pins s σ H Q I h
  refine wpAny_Call_Name_kw (ld_glob I hg T.gC ?_ hdb)
  refine PySem.W.callWith_K (h₀ := X.base) I.ok.mod.kin T.kC (thn (ha.run pos pins s σ H _ I h) fun us s1 hh => ?_) he hpl
  obtain ⟨vs, H1, I1, r1, v, ev, q1⟩ := hh
  subst ev
  refine ⟨I1.kIn, ?_⟩
  cases r1 with
  | cons rv rn =>
    rename_i v' us'
    cases rn
    show wpAny _ _ (call (.ref C) [v']) _ _ _
    have hlim := I1.nolimit
    have hgl := I1.mod.glob.keeps I1.bk
    obtain ⟨mb, hb1, hb2⟩ := I1.mod.blt
    have hbl : ∃ mb, s1.heap.Ns builtinsNs mb ∧ mb "super" = some (.type "super") := ⟨mb, hb1.keeps I1.bk, (hb2 _ (by decide +kernel)).trans (by decide +kernel)⟩
    obtain ⟨hp, g, dr, tk, os⟩ := s1
    refine wpAny_call (exc_made T FB KF SF N I1.kIn hgl hbl hlim (by have := hr.dp; omega) fun h' tk' e d M => ?_)
    show MkP X pins σ Q (.ref e) ⟨h', g, dr, tk', os⟩
    obtain ⟨oe, fv, hoe, hc, hd, hdat, h1⟩ := M.obj
    have hns := M.ns
    obtain ⟨G', g1, g2⟩ := restrict h' fun b => decide (b ≠ e)
    have gk : ∀ b, b ≠ e → G'.get? b = h'.get? b := fun b hb => g1 b (decide_eq_true hb)
    have ge : G'.get? e = none := g2 e (by simp)
    have old : ∀ b o, hp.get? b = some o → G'.get? b = some o := fun b o q => (gk b (Nat.ne_of_lt (Nat.lt_of_lt_of_le (Heap.lt_size q) M.new))).trans (M.keep b o q)
    have ob : ObjOk X.prog X.w (upd H1 d (.xd [(fld, v)])) G' d (.xd [(fld, v)]) :=
      ⟨_, hns.at (fun o q => (gk d M.dne).trans q), fun f => relO_fld rv f⟩
    have J : Inv X pins σ (upd H1 d (.xd [(fld, v)])) ⟨G', g, dr, tk', os⟩ := I1.laid (t' := tk') old M.dbig ob
    refine ⟨e, oe, fv, ⟨G', g, dr, tk', os⟩, _, .ref C, some d, rfl, J, fun b o q => ?_, ge, hoe, ⟨hc, hd⟩, hdat, h1, ?_, rfl, I1.bare, raises_own T.exC T.tyC, q1 d (I1.hok.fresh M.dbig)⟩
    · by_cases hb : b = e
      · have q' : G'.get? b = some o := q
        rw [hb, ge] at q'; cases q'
      · exact (gk b hb).symm.trans q
    · rw [upd_ne (Ne.symm M.dne)]
      exact I1.hok.fresh M.new
end
end K80
set_option Elab.async false
set_option linter.all false
set_option maxRecDepth 100000
set_option maxHeartbeats 4000000
/-! several except clauses, each with a name. -/
namespace K80
open PySem PySem.Spec PyProof.Rows L2
/-- what the named clauses wish of an exception of the body -/
def wManyAs (K : PySem.W.Frag) (i : Nat) (Wout : WX) (D : Ends) : List (Value × (Addr → Value → Option Addr → TS)) → WX
  | [] => Wout
  | (c, ts) :: r => fun cls d σ H => ∃ b, PySem.W.exmOne K cls c = some b ∧
      (b = true → ∀ a, H a = none → ts a cls d { nx := fun σ' H' => D.nx (σ'.set i none) H', rt := D.rt, bk := fun σ' H' => D.bk (σ'.set i none) H', ct := fun σ' H' => D.ct (σ'.set i none) H' } (σ.set i (some (.ref a))) H) ∧
      (b = false → wManyAs K i Wout D r cls d σ H)
inductive HdsAs (X : Cx) (n : Str) : List ExceptHandler → List (Value × (Addr → Value → Option Addr → TS)) → Prop
  | nil : HdsAs X n [] []
  | cons {x : Str} {c : Value} {ts : Addr → Value → Option Addr → TS} {b₀ : Stmt} {suite : List Stmt} {np pos' : Pos} {hds : List ExceptHandler} {l : List (Value × (Addr → Value → Option Addr → TS))} (hc : Names X x c)
      (hsu : ∀ (a : Addr) (oe : Obj) (cls : Value) (d : Option Addr) (pn : List (Addr × Obj)), Zc cls d oe → (∃ vs, oe.data = .fields vs) → PSs (X.suite a ((a, oe) :: pn)) (b₀ :: suite) (ts a cls d)) (r : HdsAs X n hds l) :
      HdsAs X n (.ExceptHandler (some (.Name x np)) (some n) (b₀ :: suite) pos' :: hds) ((c, ts) :: l)
section
variable {X : Cx} {n : Str} {i : Nat} {body : List Stmt} {h₀ : ExceptHandler} {hds : List ExceptHandler} {l : List (Value × (Addr → Value → Option Addr → TS))} {pos : Pos} {tb : WX → TS} {Wout : WX}
theorem ps_try_manyAs (hs : X.stack = X.env :: X.outer) (hf : X.env.frame = some X.env.locals) (hN : X.N.Nodup) (hi : X.N[i]? = some n) (hln : X.env.kindOf n = some .local) (tk : Takes X Wout)
    (hb : ∀ (W : WX) (pn : List (Addr × Obj)) (xe : Value → Shared → Prop), Takes (X.tr pn xe) W → PassesOwn (model X.prog X.w) X.A X.env xe → PSs (X.tr pn xe) body (tb W))
    (hh : HdsAs X n (h₀ :: hds) l) : PS X (.Try body (h₀ :: hds) [] [] pos) (fun D σ H => tb (wManyAs X.K i Wout D l) D σ H) := by
  refine ⟨fun pins s σ H D I h => ?_⟩
  have ok := I.ok
  have hfr : X.A.frames = some (X.env :: X.outer) := by rw [ok.frames, hs]
  have hloc : Loc X.env.scope n := .inl hln
  refine wpAny_Try_except ?_
  refine wpAny_mono ((hb (wManyAs X.K i Wout D l) (X.pn ++ pins) (fun e s₁ => wpAny (model X.prog X.w) X.A (noteFrame e X.env) (fun _ s₂ => wpAny (model X.prog X.w) X.A (setFlight e none) (fun _ s₃ =>
    wpAny (model X.prog X.w) X.A (handleBy e X.env (h₀ :: hds)) (SP X pins D) X.xe s₃) X.xe s₂) X.xe s₁) (fun u s' xx => ?_) PassesOwn.looking).run [] s σ H D (I.toTry _) h) (fun f s1 hsp => ?_) (fun e s1 he => he)
  · obtain ⟨a, B, sI, pins', σ', H', cls, d, rfl, J', nb, up, sky, na, os, ag, w⟩ := xx
    have J : Inv X pins σ' H' sI := J'.ofTry ok
    have sky' : Sky B (X.env :: X.outer) a (Zc cls d) X.env.locals s'.heap := by rw [← hs]; exact sky
    show wpAny (model X.prog X.w) X.A (noteFrame (.ref a) X.env) _ _ _
    refine Sky.land Zc.steady hfr hf sky' fun h3 fl3 up3 => ?_
    have J3 : Inv X pins σ' H' { s' with heap := h3 } := J.landed nb fl3.1 (up.trans up3) os ag
    obtain ⟨oe3, vs3, he3, hz3, hd3⟩ := fl3.there
    have notFr : ∀ {h : Heap} {o : Obj} {vs : Array Value}, h.FunFrames B (X.env :: X.outer) → h.get? a = some o → o.data = .fields vs → a ∉ frs (X.env :: X.outer) := fun {h o vs} ff e dd hm => by
      obtain ⟨_, o', e', hnf⟩ := ff.mem hm
      rw [e] at e'; cases e'
      exact hnf _ dd
    have nfr := notFr fl3.2.2.1 he3 hd3
    have nL : a ≠ X.env.locals := fun z => nfr (List.mem_filterMap.mpr ⟨X.env, List.mem_cons_self, by rw [hf, z]⟩)
    have nF : a ∉ X.fs := fun hm => by
      obtain ⟨e, he, q⟩ := List.mem_filterMap.mp hm
      exact nfr (List.mem_filterMap.mpr ⟨e, List.mem_cons_of_mem _ he, q⟩)
    have S3 := J3.suite he3 hd3 na nL nF
    have go : ∀ {hds' : List ExceptHandler} {l' : List (Value × (Addr → Value → Option Addr → TS))}, HdsAs X n hds' l' → wManyAs X.K i Wout D l' cls d σ' H' →
        wpAny (model X.prog X.w) X.A (handleBy (.ref a) X.env hds') (SP X pins D) X.xe { s' with heap := h3 } := by
      intro hds' l' hk
      induction hk with
      | nil =>
        intro w
        refine wpAny_handleBy_nil ?_
        obtain ⟨k1, k2, k3, oe, vs, T, oT, ts', he, hz, hd, h1, hr⟩ := id fl3
        unfold PySem.passOn
        refine wpAny_bind (wpAny_field he hd h1 ?_)
        rw [if_neg (show ¬ ((Value.ref T == Value.none) = true) from by simp)]
        have fin : wpAny (model X.prog X.w) X.A (setFlight (.ref a) X.env.frame) (fun _ s4 => wpAny (model X.prog X.w) X.A (throw (.ref a) : Sem Flow) (SP X pins D) X.xe s4) X.xe { s' with heap := h3 } := by
          rw [hf]
          refine HandSPX.setFlight_upZ fl3 fun h4 hh4 up4 => wpAny_throw (tk _ _ ?_)
          exact ⟨a, B, sI, pins, σ', H', cls, d, rfl, J, nb, (up.trans up3).trans up4, .inr (.inr (by rw [hs]; exact hh4)), na, os, ag, w⟩
        first
          | exact wpAny_bind (wpAny_pure (wpAny_bind fin))
          | exact wpAny_bind fin
      | @cons x c ts b₀ suite np pos' hds2 l2 hc hsu r ih =>
        intro w
        obtain ⟨b, hb1, hyes, hno⟩ := w
        refine wpAny_handleBy_cons (codeAny_handlers_test ?_) (by intro q; cases q)
        have LT : PySem.W.Looks (model X.prog X.w) h3 (typeOf (.ref a)) cls := fun A Q E s k q => wpAny_typeOf_ref (k _ _ he3) (by rw [hz3.1]; exact q)
        have LM := PySem.W.exm_one (M := model X.prog X.w) (J3.kIn) LT hb1
        have test : ∀ {Q : Value → Shared → Prop} {E : Value → Shared → Prop}, Q c { s' with heap := h3 } → wpAny (model X.prog X.w) (X.A.mark (some (.ref a))) (eval (.Name x np) X.env) Q E { s' with heap := h3 } := fun {Q E} q => by
          obtain ⟨hg, hdbg, hm | ⟨hm, hv, hnn⟩⟩ := hc
          · exact ld_glob (X := X.suite a ((a, oe3) :: (X.pn ++ pins))) S3 hg hm q hdbg
          · exact ld_blt (X := X.suite a ((a, oe3) :: (X.pn ++ pins))) S3 hg hm hv q hnn hdbg
        refine test (LM.here ?_)
        cases b with
        | true =>
          refine codeAny_handlers_suite_as ?_
          refine HandSPX.lands_againZ fl3 fun h4 fl4 up4 => ?_
          have J4 : Inv X pins σ' H' { s' with heap := h4 } := J.landed nb fl4.1 ((up.trans up3).trans up4) os ag
          obtain ⟨oe4, vs4, he4, hz4, hd4⟩ := fl4.there
          have S4 := J4.suite he4 hd4 na nL nF
          refine store_ok (X := X.suite a ((a, oe4) :: (X.pn ++ pins))) (v := .ref a) S4 hN hi hloc rfl (fun s5 S5 => ?_) (.inr hln)
          refine wpAny_mono ((hsu a oe4 cls d (X.pn ++ pins) hz4 ⟨_, hd4⟩).run [] s5 _ H' _ S5 (hyes rfl a na)) (fun f s6 hsp => ?_) (fun _ _ z => False.elim z)
          have end_ : ∀ {σ6 : L2.St} {H6 : Hp} {Q : Shared → Prop}, Inv (X.suite a ((a, oe4) :: (X.pn ++ pins))) [] σ6 H6 s6 → (∀ s7, Inv X pins (σ6.set i none) H6 s7 → Q s7) →
              wpAny (model X.prog X.w) X.A (do bindName X.env n .none; unbindBehindTheSuite X.env n pos') (fun _ s7 => Q s7) X.xe s6 := fun {σ6 H6 Q} S6 hq => gone_ok (S6.unsuite ok) hN hi hln hq
          cases f with
          | next =>
            obtain ⟨σ6, H6, S6, q6⟩ := hsp
            exact end_ S6 fun s7 J7 => ⟨_, _, J7, q6⟩
          | brk =>
            obtain ⟨σ6, H6, S6, q6⟩ := hsp
            exact end_ S6 fun s7 J7 => ⟨_, _, J7, q6⟩
          | cont =>
            obtain ⟨σ6, H6, S6, q6⟩ := hsp
            exact end_ S6 fun s7 J7 => ⟨_, _, J7, q6⟩
          | ret u =>
            obtain ⟨v6, σ6, H6, S6, r6, q6⟩ := hsp
            exact end_ S6 fun s7 J7 => ⟨_, _, _, J7, r6, q6⟩
        | false =>
          show wpAny _ X.A (handleBy (.ref a) X.env hds2) _ _ _
          exact ih (hno rfl)
    exact go hh w
  · cases f with
    | next =>
      obtain ⟨σ', H', J', q⟩ := hsp
      exact wpAny_execs_nil ⟨σ', H', J'.ofTry ok, q⟩
    | brk =>
      obtain ⟨σ', H', J', q⟩ := hsp
      exact ⟨σ', H', J'.ofTry ok, q⟩
    | cont =>
      obtain ⟨σ', H', J', q⟩ := hsp
      exact ⟨σ', H', J'.ofTry ok, q⟩
    | ret u =>
      obtain ⟨v, σ', H', J', r, q⟩ := hsp
      exact ⟨v, σ', H', J'.ofTry ok, r, q⟩
end
end K80
set_option Elab.async false
set_option linter.all false
set_option maxRecDepth 100000
set_option maxHeartbeats 4000000
/-! Defs of the text as callables; heaps; lines as values. -/
namespace K80
open PySem PySem.Spec PyProof.Rows L2

/-! ### defs -/
abbrev FnP (K : PySem.W.Frag) (x : Str) (st : Stmt) (f : Addr) (fd : FuncData) : Prop := FunD K x x (defArgs st) (defBody st) (defScope st) [] [] f fd
/-- the def st stands under the module's name x -/
def DefAt (K : PySem.W.Frag) (mg : Str → Option Value) (x : Str) (st : Stmt) : Prop := ∃ (f : Addr) (fd : FuncData), FnP K x st f fd ∧ mg x = some (.ref f)
/-- x may be called: it keeps the promise sp -/
structure Cal (P : Program) (w : World) (K : PySem.W.Frag) (mg : Str → Option Value) (base : Heap) (CX : CXT) (k : Nat) (x : Str) (ps : List Str) (sp : Sp) : Prop where
  ex : ∃ (f : Addr) (fd : FuncData), FnOk P w K mg base CX k f fd ps sp ∧ mg x = some (.ref f) ∧ PySem.W.keepIn K (.ref f) = true ∧ Binds K fd ps []
section
variable {P : Program} {w : World} {K : PySem.W.Frag} {mg : Str → Option Value} {base : Heap}
abbrev BindsAs (x : Str) (st : Stmt) (ps : List Str) : Prop :=
  ∀ (kV doc pm : Value) (an : Option Addr) (cdv ct : Value) (us : List Value), us.length = ps.length → bindArgs (PySem.W.fnOf x x (defArgs st) (defBody st) (defScope st) .none kV doc pm an cdv ct) ⟨us, []⟩ = pure (ps.zip us)
/-- a def that lets nothing out -/
theorem DefAt.cal0 {x : Str} {st : Stmt} {N ps : List Str} {k : Nat} {sp : Sp} (D : DefAt K mg x st) (S : FnScope N ps (defScope st)) (len : ∀ vs H Q E, sp vs H Q E → vs.length = ps.length) (b : BindsAs x st ps)
    (hbody : ∀ (f : Addr) (cdv : Value) (A : Around) (outer : List Env) (s : Shared) (H : Hp) (vs : List V) (Q : VK) (E : XK), Room k (A.deeper (envOfC x (defScope st) s.heap.objs.size f cdv)) → sp vs H Q E →
      ∃ t, PSs (cxOf CX0 P w K mg base N x (defScope st) f cdv A outer s H E).nox (defBody st) t ∧ t { nx := fun _ H' => Q .non H', rt := Q } (start N vs) H) : Cal P w K mg base CX0 (k + 1) x ps sp := by
  obtain ⟨f, fd, F, g⟩ := D
  refine ⟨f, fd, F.ok S len fun cdv A outer s H vs Q E hr h => ?_, g, F.kp, F.bindsN b⟩
  obtain ⟨t, h1, h2⟩ := hbody f cdv A outer s H vs Q E hr h
  exact ⟨t, h1.nox, h2⟩
/-- a def that may raise -/
theorem DefAt.calX {x : Str} {st : Stmt} {N ps : List Str} {k : Nat} {sp : Sp} (D : DefAt K mg x st) (S : FnScope N ps (defScope st)) (len : ∀ vs H Q E, sp vs H Q E → vs.length = ps.length) (b : BindsAs x st ps)
    (hbody : ∀ (f : Addr) (cdv : Value) (A : Around) (outer : List Env) (s : Shared) (H : Hp) (vs : List V) (Q : VK) (E : XK), Room k (A.deeper (envOfC x (defScope st) s.heap.objs.size f cdv)) → sp vs H Q E →
      ∃ t, PSs (cxOf (L2.CX P w) P w K mg base N x (defScope st) f cdv A outer s H E) (defBody st) t ∧ t { nx := fun _ H' => Q .non H', rt := Q } (start N vs) H) : Cal P w K mg base (L2.CX P w) (k + 1) x ps sp := by
  obtain ⟨f, fd, F, g⟩ := D
  exact ⟨f, fd, F.ok S len fun cdv A outer s H vs Q E hr h => hbody f cdv A outer s H vs Q E hr h, g, F.kp, F.bindsN b⟩
end
def tCal (sp : Sp) (E : XK) (t : TA) : TE := fun σ H Q => t σ H fun vs H1 => sp vs H1 Q E
theorem tCal_eq {sp : Sp} {E : XK} {t : TA} : tCall sp [] E t = tCal sp E t := by
  funext σ H Q
  unfold tCall tCal
  congr 1
  funext vs H1
  rw [List.append_nil]
section
variable {X : Cx} {k : Nat} {x : Str} {ps : List Str} {sp : Sp} {E : XK} {p pos : Pos} {e : Expr} {es : List Expr} {t : TA}
theorem pe_cal {CX : CXT} (C : Cal X.prog X.w X.K X.mg X.base CX k x ps sp) (hr : Room k X.A) (hg : Gl X x) (hx : Passes CX X E) (ha : PA X (e :: es) t)
    (hdb : (x == ("__debug__" : Str)) = false := by decide) (he : starEach (e :: es) X.env = (false, eval e X.env) :: starEach es X.env := by rfl) (hpl : (backTo pos (starEach es X.env)).any (·.1) = false := by rfl) :
    PE X (.Call (.Name x p) (e :: es) [] pos) (tCal sp E t) := by
  obtain ⟨f, fd, F, hm, hk, hb⟩ := C.ex
  rw [← tCal_eq]
  exact pe_call F hr hg hm hk hb .nil hx ha hdb he hpl
end

/-! ### operators -/
theorem op_powW {X : Cx} : OpR X (binaryOp .Pow) (rI (fun i j => 0 ≤ j ∧ (Builtin.Int.intBits i : Int) * j ≤ 2 ^ 27) fun i j => .int (i ^ j.toNat)) := opI fun _ _ _ _ _ _ _ hc q => pow_int hc.1 hc.2 q

/-! ### heaps -/
theorem same_upd {H : Hp} {p : Addr} {o : HO} (h : H p = none) : Same H (upd H p o) := fun b x e => by
  rw [upd_ne (ne_of_none e h)]
  exact e
/-- all but D stays -/
def But (D : Addr) (H H' : Hp) : Prop := ∀ b o, H b = some o → b ≠ D → H' b = some o
theorem But.refl (D : Addr) (H : Hp) : But D H H := fun _ _ h _ => h
theorem But.trans {D : Addr} {H H1 H2 : Hp} (a : But D H H1) (b : But D H1 H2) : But D H H2 := fun c o h n => b c o (a c o h n) n
theorem But.of {D : Addr} {H H' : Hp} (e : Same H H') : But D H H' := fun b o h _ => e b o h
theorem but_upd (D : Addr) (H : Hp) (o : HO) : But D H (upd H D o) := fun b u e n => by
  rw [upd_ne n]
  exact e
/-- what a tuple is stays -/
def KeepT (K : PySem.W.Frag) (H H' : Hp) : Prop := ∀ a xs, SqT K H a xs → SqT K H' a xs
theorem KeepT.trans {K : PySem.W.Frag} {H H1 H2 : Hp} (a : KeepT K H H1) (b : KeepT K H1 H2) : KeepT K H H2 := fun c xs h => b c xs (a c xs h)
theorem KeepT.refl {K : PySem.W.Frag} {H : Hp} : KeepT K H H := fun _ _ h => h
theorem keepT_same {K : PySem.W.Frag} {H H' : Hp} (e : Same H H') : KeepT K H H' := fun a xs h => by
  rcases h with (h | ⟨o, h⟩) | h
  · exact .inl (.inl (e _ _ h))
  · exact .inl (.inr ⟨o, e _ _ h⟩)
  · exact .inr h
theorem keepT_but {K : PySem.W.Frag} {D : Addr} {H H' : Hp} {ys : List V} (hD : H D = some (.lst ys)) (e : But D H H') : KeepT K H H' := fun a xs h => by
  rcases h with (h | ⟨o, h⟩) | h
  · exact .inl (.inl (e _ _ h (ne_of h hD (by intro z; cases z))))
  · exact .inl (.inr ⟨o, e _ _ h (ne_of h hD (by intro z; cases z))⟩)
  · exact .inr h
theorem _root_.L2.Same.sqT {K : PySem.W.Frag} {H H' : Hp} (e : Same H H') {a : Addr} {xs : List V} (h : SqT K H a xs) : SqT K H' a xs := keepT_same e a xs h
theorem ty_sqT {K : PySem.W.Frag} {H : Hp} {a : Addr} {xs : List V} (h : SqT K H a xs) : TyX K H (.ref a) (.type "tuple") := by
  rcases h with (h | ⟨o, h⟩) | ⟨o, its, n, h, c, _⟩
  · exact .base (.tup h)
  · exact .fTuple h
  · exact .kTuple h c
theorem sqT_at {K : PySem.W.Frag} {H : Hp} {a : Addr} {xs : List V} (h : H a = some (.tup xs)) : SqT K H a xs := .inl (.inl h)
theorem sqL_at {K : PySem.W.Frag} {H : Hp} {a : Addr} {xs : List V} (h : H a = some (.lst xs)) : SqL K H a xs := .inl (.inl h)

/-! ### lines as values -/
def Line.items : Line → List V
  | .w n => [.int n]
  | .lab x => [.str "label", .str x]
  | .br u a b x => [.str (if u then "under" else "same"), .int a, .int b, .str x]
  | .pl a x => [.str "place", .int a, .str x]
def LineV (K : PySem.W.Frag) (H : Hp) (v : V) : Line → Prop
  | .w n => v = .int n
  | l => ∃ p, v = .ref p ∧ SqT K H p l.items
theorem LineV.keep {K : PySem.W.Frag} {H H' : Hp} {v : V} {l : Line} (k : KeepT K H H') (h : LineV K H v l) : LineV K H' v l := by
  cases l with
  | w n => exact h
  | lab x => obtain ⟨p, e, q⟩ := h; exact ⟨p, e, k _ _ q⟩
  | br u a b x => obtain ⟨p, e, q⟩ := h; exact ⟨p, e, k _ _ q⟩
  | pl a x => obtain ⟨p, e, q⟩ := h; exact ⟨p, e, k _ _ q⟩
def LinesV (K : PySem.W.Frag) (H : Hp) (vs : List V) (ls : List Line) : Prop := vs.length = ls.length ∧ ∀ (i : Nat) (v : V) (l : Line), vs[i]? = some v → ls[i]? = some l → LineV K H v l
theorem LinesV.keep {K : PySem.W.Frag} {H H' : Hp} {vs : List V} {ls : List Line} (k : KeepT K H H') (h : LinesV K H vs ls) : LinesV K H' vs ls := ⟨h.1, fun i v l a b => (h.2 i v l a b).keep k⟩
theorem LinesV.at_ {K : PySem.W.Frag} {H : Hp} {vs : List V} {ls : List Line} (h : LinesV K H vs ls) {i : Nat} {v : V} (e : vs[i]? = some v) : ∃ l, ls[i]? = some l ∧ LineV K H v l := by
  have hi := (List.getElem?_eq_some_iff.mp e).1
  have hi2 : i < ls.length := by rw [← h.1]; exact hi
  exact ⟨ls[i], List.getElem?_eq_getElem hi2, h.2 i v _ e (List.getElem?_eq_getElem hi2)⟩
theorem LinesV.on {K : PySem.W.Frag} {H : Hp} {vs : List V} {ls : List Line} (h : LinesV K H vs ls) {i : Nat} {l : Line} (e : ls[i]? = some l) : ∃ v, vs[i]? = some v ∧ LineV K H v l := by
  have hi := (List.getElem?_eq_some_iff.mp e).1
  have hi2 : i < vs.length := by rw [h.1]; exact hi
  exact ⟨vs[i], List.getElem?_eq_getElem hi2, h.2 i _ l (List.getElem?_eq_getElem hi2) e⟩
theorem LinesV.nil {K : PySem.W.Frag} {H : Hp} : LinesV K H [] [] := ⟨rfl, fun i v l h => by simp at h⟩
theorem LinesV.append {K : PySem.W.Frag} {H : Hp} {vs ws : List V} {ls ms : List Line} (a : LinesV K H vs ls) (b : LinesV K H ws ms) : LinesV K H (vs ++ ws) (ls ++ ms) := by
  refine ⟨by rw [List.length_append, List.length_append, a.1, b.1], fun i v l h1 h2 => ?_⟩
  by_cases hi : i < vs.length
  · rw [List.getElem?_append_left hi] at h1
    rw [List.getElem?_append_left (by rw [← a.1]; exact hi)] at h2
    exact a.2 i v l h1 h2
  · rw [List.getElem?_append_right (by omega)] at h1
    rw [List.getElem?_append_right (by rw [← a.1]; omega), ← a.1] at h2
    exact b.2 _ v l h1 h2
theorem LinesV.one {K : PySem.W.Frag} {H : Hp} {v : V} {l : Line} (h : LineV K H v l) : LinesV K H [v] [l] := by
  refine ⟨rfl, fun i v' l' h1 h2 => ?_⟩
  cases i with
  | zero =>
    have e1 : v = v' := by simpa using h1
    have e2 : l = l' := by simpa using h2
    rw [← e1, ← e2]; exact h
  | succ i => simp at h1
/-- a tuple of lines -/
def LinesT (K : PySem.W.Frag) (H : Hp) (t : Addr) (ls : List Line) : Prop := ∃ vs, SqT K H t vs ∧ LinesV K H vs ls
theorem LinesT.keep {K : PySem.W.Frag} {H H' : Hp} {t : Addr} {ls : List Line} (k : KeepT K H H') (h : LinesT K H t ls) : LinesT K H' t ls := by
  obtain ⟨vs, a, b⟩ := h
  exact ⟨vs, k _ _ a, b.keep k⟩
theorem LinesT.same {K : PySem.W.Frag} {H H' : Hp} {t : Addr} {ls : List Line} (e : Same H H') (h : LinesT K H t ls) : LinesT K H' t ls := h.keep (keepT_same e)
/-- isinstance(line, tuple) -/
theorem line_ty {K : PySem.W.Frag} {H : Hp} {v : V} {l : Line} (h : LineV K H v l) : ∃ t : String, TyX K H v (.type t) ∧ PySem.W.kitOne K (.type t) (.type "tuple") = some (!l.isW) := by
  cases l with
  | w n => exact ⟨"int", by rw [show v = .int n from h]; exact .base (.int n), kit_ty (r := false) (by decide +kernel)⟩
  | lab x => obtain ⟨p, rfl, q⟩ := h; exact ⟨"tuple", ty_sqT q, kit_ty (r := true) (by decide +kernel)⟩
  | br u a b x => obtain ⟨p, rfl, q⟩ := h; exact ⟨"tuple", ty_sqT q, kit_ty (r := true) (by decide +kernel)⟩
  | pl a x => obtain ⟨p, rfl, q⟩ := h; exact ⟨"tuple", ty_sqT q, kit_ty (r := true) (by decide +kernel)⟩
theorem line_sq {K : PySem.W.Frag} {H : Hp} {v : V} {l : Line} (h : LineV K H v l) (n : l.isW = false) : ∃ p, v = .ref p ∧ SqT K H p l.items := by
  cases l with
  | w n => cases n
  | lab x => exact h
  | br u a b x => exact h
  | pl a x => exact h
def Line.head : Line → Str
  | .w _ => ""
  | .lab _ => "label"
  | .br u _ _ _ => if u then "under" else "same"
  | .pl _ _ => "place"
def Line.nm : Line → Str
  | .w _ => ""
  | .lab x => x
  | .br _ _ _ x => x
  | .pl _ x => x
theorem items_head (l : Line) (n : l.isW = false) : atI l.items 0 = some (.str l.head) := by
  cases l with
  | w n => cases n
  | lab x => exact atI_nat (j := 0) rfl
  | br u a b x => exact atI_nat (j := 0) rfl
  | pl a x => exact atI_nat (j := 0) rfl
theorem items_last (l : Line) (n : l.isW = false) : atI l.items (-1) = some (.str l.nm) := by
  cases l with
  | w n => cases n
  | lab x => exact atI_last [_] _
  | br u a b x => exact atI_last [_, _, _] _
  | pl a x => exact atI_last [_, _] _
end K80
set_option Elab.async false
set_option linter.all false
set_option maxRecDepth 100000
set_option maxHeartbeats 4000000
/-! What the end hands to the walks. -/
namespace K80
open PySem PySem.Spec PyProof.Rows L2
/-- a name of the module stands for v -/
def GlV (mg : Str → Option Value) (x : Str) (v : V) : Prop := ∃ u, mg x = some u ∧ RelV v u
/-- a name of the module stands for a tuple -/
def GlT (K : PySem.W.Frag) (mg : Str → Option Value) (x : Str) (xs : List V) : Prop := ∃ a, mg x = some (.ref a) ∧ ∀ H, SqT K H a xs
theorem pe_gl {X : Cx} {x : Str} {v : V} {pos : Pos} (g : GlV X.mg x v) (hg : Gl X x) (hdb : (x == ("__debug__" : Str)) = false := by decide) : PE X (.Name x pos) (tC v) := by
  obtain ⟨u, hm, r⟩ := g
  exact pe_glob hg hm r hdb
/-- an own exception class made with a text -/
structure ExcOk (K : PySem.W.Frag) (mg : Str → Option Value) (x : Str) (C : Addr) : Prop where
  g : mg x = some (.ref C)
  xc : PySem.W.excIn K C He.veBase "ValueError.__new__" = true
  kp : PySem.W.keepIn K (.ref C) = true
  sb : PySem.W.subIn K (.ref C) (.type "BaseException") = some true
  ty : PySem.W.typeIn K (.ref C) = some (.type "type")
theorem ps_raiseOwn {X : Cx} {x m : Str} {j : Nat} {p p2 pos pos' : Pos} {C : Addr} {W : WX} (T : ExcOk X.K X.mg x C) (hc : X.calm = true) (tk : Takes X W) (hg : Gl X x) (hdb : (x == ("__debug__" : Str)) = false := by decide) :
    PS X (.Raise (some (.Call (.Name x p) [.Constant (.str m) j p2] [] pos)) none pos') (fun _ σ H => W (.ref C) none σ H) :=
  ps_raise hc tk (pmk_own PySem.F.excBase_ValueError T.xc T.g T.kp (raises_own T.sb T.ty) hg hdb)
structure BltN (mg : Str → Option Value) : Prop where
  isinstance : mg "isinstance" = none
  int : mg "int" = none
  bool : mg "bool" = none
  str : mg "str" = none
  tuple : mg "tuple" = none
  list : mg "list" = none
  set : mg "set" = none
  len : mg "len" = none
  all : mg "all" = none
  enumerate : mg "enumerate" = none
  sorted : mg "sorted" = none
  min : mg "min" = none
  max : mg "max" = none
  abs : mg "abs" = none
  range : mg "range" = none
/-- the class Shape: its instances have two slots -/
structure ShapeT (K : PySem.W.Frag) (mg : Str → Option Value) (C : Addr) : Prop where
  g : mg "Shape" = some (.ref C)
  cls : SlX.SCls K C
  isi : SlX.SIsi K C
  own : PySem.W.kitOne K (.ref C) (.ref C) = some true
  non : PySem.W.kitOne K (.type "NoneType") (.ref C) = some false
  int : PySem.W.kitOne K (.type "int") (.ref C) = some false
  str : PySem.W.kitOne K (.type "str") (.ref C) = some false
  tup : PySem.W.kitOne K (.type "tuple") (.ref C) = some false
  reg : ∃ p, SlX.Slot1 K C "own_registers" p 0
  wid : ∃ p, SlX.Slot1 K C "own_width" p 1
  ini : ∃ (f : Addr) (fd : FuncData), FunD K "__init__" "Shape.__init__" (defArgs s_Shape_init) (defBody s_Shape_init) (defScope s_Shape_init) [] [] f fd ∧ Mk K C f
structure Txt (K : PySem.W.Frag) (mg : Str → Option Value) (CS CI CL : Addr) : Prop where
  b : BltN mg
  shape : ShapeT K mg CS
  invS : ExcOk K mg "InvalidShape" CI
  invL : ExcOk K mg "InvalidLines" CL
  c_NO_WORD : GlV mg "NO_WORD" (.int 65535)
  c_LEAST_WIDTH : GlV mg "LEAST_WIDTH" (.int 4)
  c_MOST_WIDTH : GlV mg "MOST_WIDTH" (.int 16)
  c_REGS : GlT K mg "REGISTER_NUMBERS" [.int 2, .int 4, .int 8]
  c_OP_SET : GlV mg "OP_SET" (.int 9)
  c_OP_SAME : GlV mg "OP_SAME" (.int 12)
  c_OP_JUMP : GlV mg "OP_JUMP" (.int 14)
  c_MOST_LINES : GlV mg "MOST_LINES" (.int 256)
  c_NEAR_LEAST : GlV mg "NEAR_LEAST" (.int (-32))
  c_NEAR_MOST : GlV mg "NEAR_MOST" (.int 31)
  c_FAR_SIZE : GlV mg "FAR_SIZE" (.int 4)
  c_MOST_PLACE : GlV mg "MOST_PLACE" (.int 255)
  c_MOST_SIGNS : GlV mg "MOST_SIGNS" (.int 8)
  c_LETTERS : GlV mg "LETTERS" (.str "abcdefghijklmnopqrstuvwxyz")
  c_LABEL : GlV mg "LABEL" (.str "label")
  c_PLACE : GlV mg "PLACE" (.str "place")
  c_BRANCHES : GlT K mg "BRANCHES" [.str "same", .str "under"]
  c_BRANCHES_o : ∀ a, mg "BRANCHES" = some (.ref a) → ∃ o, K.lookup a = some o ∧ o.cls = .type "tuple" ∧ o.dict = none
  c_BRANCH_OPS : GlT K mg "BRANCH_OPS" [.int 12, .int 13]
  c_MOST_REGISTER : GlV mg "MOST_REGISTER" (.int 7)
  c_LABEL_SIZE : GlV mg "LABEL_SIZE" (.int 2)
  c_PLACE_SIZE : GlV mg "PLACE_SIZE" (.int 3)
  c_BRANCH_SIZE : GlV mg "BRANCH_SIZE" (.int 4)
  d_is_integer : DefAt K mg "is_integer" s_is_integer
  d_is_within : DefAt K mg "is_within" s_is_within
  d_is_step_word : DefAt K mg "is_step_word" s_is_step_word
  d_require_shape : DefAt K mg "require_shape" s_require_shape
  d_is_name : DefAt K mg "is_name" s_is_name
  d_is_line : DefAt K mg "is_line" s_is_line
  d_is_label : DefAt K mg "is_label" s_is_label
  d_is_branch : DefAt K mg "is_branch" s_is_branch
  d_require_lines : DefAt K mg "require_lines" s_require_lines
  d_line_places : DefAt K mg "line_places" s_line_places
  d_label_table : DefAt K mg "label_table" s_label_table
  d_not_reaching : DefAt K mg "not_reaching" s_not_reaching
  d_least_lot : DefAt K mg "least_lot" s_least_lot
  d_words_of_line : DefAt K mg "words_of_line" s_words_of_line
  d_require_assembly : DefAt K mg "require_assembly" s_require_assembly
  d_far_lot : DefAt K mg "far_lot" s_far_lot
  d_assemble : DefAt K mg "assemble" s_assemble
  d_label_places : DefAt K mg "label_places" s_label_places
  d_Ldice : DefAt K mg "_law_dice" s_Ldice
  d_Lroll : DefAt K mg "_law_roll" s_Lroll
  d_Lone_of : DefAt K mg "_law_one_of" s_Lone_of
  d_Ltwo_to : DefAt K mg "_law_two_to" s_Ltwo_to
  d_Lstep_word : DefAt K mg "_law_step_word" s_Lstep_word
  d_Lstep_drawn : DefAt K mg "_law_step_drawn" s_Lstep_drawn
  d_Lshuffled : DefAt K mg "_law_shuffled" s_Lshuffled
  d_Llines_drawn : DefAt K mg "_law_lines_drawn" s_Llines_drawn
  d_Lbranches : DefAt K mg "_law_branches" s_Lbranches
  d_Lplaces : DefAt K mg "_law_places" s_Lplaces
  d_Llabel_table : DefAt K mg "_law_label_table" s_Llabel_table
  d_Lleast : DefAt K mg "_law_least" s_Lleast
  d_Lprogram : DefAt K mg "_law_program" s_Lprogram
  d_Lwith_places : DefAt K mg "_law_with_places" s_Lwith_places

/-! ### is_integer, is_within, is_step_word -/
section
variable {P : Program} {w : World} {K : PySem.W.Frag} {mg : Str → Option Value} {base : Heap} {CS CI CL : Addr}
def spIsInteger (K : PySem.W.Frag) : Sp := fun vs H Q _ => ∃ (v : V) (t : String) (b1 b2 : Bool), vs = [v] ∧ TyX K H v (.type t) ∧ kitB t "int" = some b1 ∧ kitB t "bool" = some b2 ∧ Q (.bl (b1 && !b2)) H
theorem cal_is_integer (T : Txt K mg CS CI CL) : Cal P w K mg base CX0 1 "is_integer" ["value"] (spIsInteger K) := by
  refine T.d_is_integer.cal0 sc_is_integer (fun vs H Q E h => ?_) (fun _ _ _ _ _ _ us hl => match us, hl with | [_], _ => rfl) (fun f cdv A outer s H vs Q E hr h => ?_)
  · obtain ⟨v, _, _, _, rfl, _⟩ := h
    rfl
  · obtain ⟨v, t, b1, b2, rfl, ht, k1, k2, q⟩ := h
    refine ⟨_, pss_one (ps_ret (pe_and (pe_callB call_isi (by rfl) T.b.isinstance (by decide +kernel) (pa_cons (pv 0) (pa_cons (pe_bltn (v := .ty "int") (by rfl) T.b.int (by decide +kernel) rfl) pa_nil)))
      (pe_one (pe_not (pe_callB call_isi (by rfl) T.b.isinstance (by decide +kernel) (pa_cons (pv 0) (pa_cons (pe_bltn (v := .ty "bool") (by rfl) T.b.bool (by decide +kernel) rfl) pa_nil))))))), ?_⟩
    refine ⟨_, rfl, v, .ty "int", _, _, b1, rfl, .ty _, ht, kit_ty k1, b1, rfl, ?_⟩
    cases b1 with
    | false => exact q
    | true => exact ⟨_, rfl, v, .ty "bool", _, _, b2, rfl, .ty _, ht, kit_ty k2, b2, rfl, q⟩
/-- what is no whole number -/
def NonInt (K : PySem.W.Frag) (H : Hp) (v : V) : Prop := ∃ (t : String) (b1 b2 : Bool), TyX K H v (.type t) ∧ kitB t "int" = some b1 ∧ kitB t "bool" = some b2 ∧ (b1 && !b2) = false
def spIsWithin (K : PySem.W.Frag) : Sp := fun vs H Q _ => ∃ (v : V) (lo hi : Int), vs = [v, .int lo, .int hi] ∧ ((∃ i : Int, v = .int i ∧ Q (.bl (decide (lo ≤ i) && decide (i ≤ hi))) H) ∨ (NonInt K H v ∧ Q (.bl false) H))
theorem cal_is_within (T : Txt K mg CS CI CL) : Cal P w K mg base CX0 2 "is_within" ["value", "least", "most"] (spIsWithin K) := by
  refine T.d_is_within.cal0 sc_is_within (fun vs H Q E h => ?_) (fun _ _ _ _ _ _ us hl => match us, hl with | [_, _, _], _ => rfl) (fun f cdv A outer s H vs Q E hr h => ?_)
  · obtain ⟨v, _, _, rfl, _⟩ := h
    rfl
  · obtain ⟨v, lo, hi, rfl, h⟩ := h
    refine ⟨_, pss_one (ps_ret (pe_and (pe_cal (cal_is_integer T) hr (by rfl) pass0 (pa_cons (pv 0) pa_nil)) (pe_one (pe_chain op_le op_le (pv 1) (pv 0) (pv 2))))), ?_⟩
    rcases h with ⟨i, rfl, q⟩ | ⟨⟨t, b1, b2, ht, k1, k2, e⟩, q⟩
    · refine ⟨_, rfl, .int i, "int", true, false, rfl, .base (.int i), by decide +kernel, by decide +kernel, true, rfl, ?_⟩
      refine ⟨_, rfl, _, rfl, lo, i, rfl, rfl, decide (lo ≤ i), rfl, ?_⟩
      by_cases c : lo ≤ i
      · rw [decide_eq_true c] at q ⊢
        exact ⟨_, rfl, i, hi, rfl, rfl, q⟩
      · rw [decide_eq_false c] at q ⊢
        exact q
    · refine ⟨_, rfl, v, t, b1, b2, rfl, ht, k1, k2, _, rfl, ?_⟩
      rw [e]
      exact q
def spIsStepWord (K : PySem.W.Frag) : Sp := fun vs H Q _ => ∃ v : V, vs = [v] ∧ ((∃ i : Int, v = .int i ∧ Q (.bl (decide (0 ≤ i) && decide (i ≤ 65535))) H) ∨ (NonInt K H v ∧ Q (.bl false) H))
theorem cal_is_step_word (T : Txt K mg CS CI CL) : Cal P w K mg base CX0 3 "is_step_word" ["value"] (spIsStepWord K) := by
  refine T.d_is_step_word.cal0 sc_is_step_word (fun vs H Q E h => ?_) (fun _ _ _ _ _ _ us hl => match us, hl with | [_], _ => rfl) (fun f cdv A outer s H vs Q E hr h => ?_)
  · obtain ⟨v, rfl, _⟩ := h
    rfl
  · obtain ⟨v, rfl, h⟩ := h
    exact ⟨_, pss_one (ps_ret (pe_cal (cal_is_within T) hr (by rfl) pass0 (pa_cons (pv 0) (pa_cons pe_int (pa_cons (pe_gl T.c_NO_WORD (by rfl)) pa_nil))))), _, rfl, v, 0, 65535, rfl, h⟩
end
end K80
set_option Elab.async false
set_option linter.all false
set_option maxRecDepth 100000
set_option maxHeartbeats 4000000
/-! is_name, is_line, is_label, is_branch. -/
namespace K80
open PySem PySem.Spec PyProof.Rows L2
/-- a new list at D holds ys, all else of H1 is as it was -/
structure Acc (H1 : Hp) (D : Addr) (ys : List V) (H : Hp) : Prop where
  n : H1 D = none
  s : Same H1 H
  d : H D = some (.lst ys)
theorem Acc.start {H1 : Hp} {D : Addr} (n : H1 D = none) : Acc H1 D [] (upd H1 D (.lst [])) := ⟨n, same_upd n, upd_same⟩
theorem Acc.start' {H1 : Hp} {D : Addr} {ys : List V} (n : H1 D = none) : Acc H1 D ys (upd H1 D (.lst ys)) := ⟨n, same_upd n, upd_same⟩
theorem Acc.same {H1 H H' : Hp} {D : Addr} {ys : List V} (a : Acc H1 D ys H) (e : Same H H') : Acc H1 D ys H' := ⟨a.n, a.s.trans e, e _ _ a.d⟩
theorem Acc.to {H1 H : Hp} {D : Addr} {ys zs : List V} (a : Acc H1 D ys H) : Acc H1 D zs (upd H D (.lst zs)) := ⟨a.n, fun b o h => by
  have q := a.s b o h
  rw [upd_ne (ne_of_none h a.n)]
  exact q, upd_same⟩
theorem Acc.back {H0 H1 H : Hp} {D : Addr} {ys : List V} (a : Acc H1 D ys H) (e : Same H0 H1) : Acc H0 D ys H := ⟨e.free a.n, e.trans a.s, a.d⟩

def letters : Str := "abcdefghijklmnopqrstuvwxyz"
def nameOk (z : Str) : Bool := decide (1 ≤ z.length) && (decide (z.length ≤ 8) && z.cps.toList.all fun c => decide (c ∈ letters.cps.toList))
section
variable {P : Program} {w : World} {K : PySem.W.Frag} {mg : Str → Option Value} {base : Heap} {CS CI CL : Addr}
def spIsName : Sp := fun vs H Q _ => ∃ z : Str, vs = [.str z] ∧ z.length ≤ 1000 ∧ ∀ H', Same H H' → Q (.bl (nameOk z)) H'
theorem cal_is_name (T : Txt K mg CS CI CL) : Cal P w K mg base CX0 1 "is_name" ["value"] spIsName := by
  refine T.d_is_name.cal0 sc_is_name (fun vs H Q E h => ?_) (fun _ _ _ _ _ _ us hl => match us, hl with | [_], _ => rfl) (fun f cdv A outer s H vs Q E hr h => ?_)
  · obtain ⟨v, rfl, _⟩ := h
    rfl
  · obtain ⟨z, rfl, hz, q⟩ := h
    refine ⟨_, pss_one (ps_ret (pe_and (pe_callB call_isi (by rfl) T.b.isinstance (by decide +kernel) (pa_cons (pv 0) (pa_cons (pe_bltn (v := .ty "str") (by rfl) T.b.str (by decide +kernel) rfl) pa_nil)))
      (pe_and (pe_chain op_le op_le pe_int (pe_callB call_len_str (by rfl) T.b.len PySem.boot_len (pa_cons (pv 0) pa_nil)) (pe_gl T.c_MOST_SIGNS (by rfl)))
      (pe_one (pe_callB (cr_all rfl) (by rfl) T.b.all (by decide +kernel) (pa_cons (pe_lc (own := [("sign", 1)]) (g := gName 1) (tt := tYes) rfl sc_is_name.nd (pi_str (pv 0)) (blkOk_by (own := [("sign", 1)]) (N := n_is_name) (sc := defScope s_is_name) (by decide +kernel))
        (fun _ _ _ _ _ => pg_name (i := 1) sc_is_name.nd rfl (Or.inl rfl)) (fun _ _ _ _ _ => pts_nil) (fun _ _ _ _ _ => pe_cmpR op_in_sign (pv 1) (pe_gl T.c_LETTERS (by rfl)) rfl)) pa_nil)))))), ?_⟩
    refine ⟨_, rfl, .str z, .ty "str", _, _, true, rfl, .ty _, .base (.str z), kit_ty (by decide +kernel), true, rfl, ?_⟩
    refine ⟨_, rfl, z, rfl, Nat.le_of_lt (small1000 hz), 1, (z.length : Nat), rfl, rfl, decide ((1 : Int) ≤ (z.length : Nat)), rfl, ?_⟩
    by_cases c1 : 1 ≤ z.length
    · rw [decide_eq_true (show (1 : Int) ≤ (z.length : Nat) by omega)]
      refine ⟨(z.length : Nat), 8, rfl, rfl, decide ((z.length : Nat) ≤ (8 : Int)), rfl, ?_⟩
      by_cases c2 : z.length ≤ 8
      · rw [decide_eq_true (show ((z.length : Nat) : Int) ≤ 8 by omega)]
        refine ⟨_, rfl, z, rfl, fun D hD => lc_it walk_str (fun i H' => Acc H D ((z.cps.toList.take i).map fun c => .bl (decide (c ∈ letters.cps.toList))) H') (Acc.start hD) (fun _ _ _ _ => True.intro) (fun i x H1 H2 hi a y => ?_) (fun H1 a => ?_)⟩
        · obtain ⟨rfl, c, hc, rfl⟩ := y
          refine ⟨rfl, .str ⟨#[c]⟩, rfl, c, letters, rfl, rfl, _, a.d, ?_, ?_⟩
          · rw [List.length_map, List.length_take]
            exact Nat.lt_of_le_of_lt (Nat.min_le_left _ _) (small1000 (by have : i < z.length := hi; omega))
          · have e : (z.cps.toList.take (i + 1)).map (fun c => V.bl (decide (c ∈ letters.cps.toList))) = (z.cps.toList.take i).map (fun c => V.bl (decide (c ∈ letters.cps.toList))) ++ [.bl (decide (c ∈ letters.cps.toList))] := by
              rw [List.take_add_one, List.map_append]
              have : z.cps.toList[i]? = some c := by rw [← hc]; simp
              rw [this]; rfl
            show Acc H D _ _
            rw [e]
            exact a.to
        · refine ⟨D, z.cps.toList.map fun c => decide (c ∈ letters.cps.toList), rfl, sqL_at ?_, ?_⟩
          · have e : z.cps.toList.take z.cps.size = z.cps.toList := List.take_of_length_le (by simp)
            have ad := a.d
            rw [e] at ad
            rw [List.map_map]
            exact ad
          · have e : nameOk z = (z.cps.toList.map fun c => decide (c ∈ letters.cps.toList)).all id := by
              unfold nameOk
              rw [decide_eq_true c1, decide_eq_true c2, List.all_map]
              rfl
            rw [← e]
            exact q H1 a.s
      · rw [decide_eq_false (show ¬ ((z.length : Nat) : Int) ≤ 8 by omega)]
        have e : nameOk z = false := by
          unfold nameOk
          rw [decide_eq_false c2, Bool.false_and, Bool.and_false]
        have q := q H (Same.refl H)
        rw [e] at q
        exact q
    · rw [decide_eq_false (show ¬ (1 : Int) ≤ (z.length : Nat) by omega)]
      have e : nameOk z = false := by
        unfold nameOk
        rw [decide_eq_false c1, Bool.false_and]
      have q := q H (Same.refl H)
      rw [e] at q
      exact ⟨_, rfl, q⟩
end
end K80
set_option Elab.async false
set_option linter.all false
set_option maxRecDepth 100000
set_option maxHeartbeats 4000000
/-! is_line, is_label, is_branch. -/
namespace K80
open PySem PySem.Spec PyProof.Rows L2
/-! ### flat data -/
def Plain (v : V) : Prop := (∃ i, v = .int i) ∨ (∃ b, v = .bl b) ∨ ∃ z, v = .str z ∧ PyData.canLay0 (.str z) = true
theorem plain_dp {K : PySem.W.Frag} {H : Hp} : ∀ {xs : List V}, (∀ v ∈ xs, Plain v) → ∃ ds, DpAll K H xs ds ∧ PyData.canLayAll0 ds = true ∧ PyData.depthAll ds = 0 ∧ ds.length = xs.length
  | [], _ => ⟨[], .nil, rfl, rfl, rfl⟩
  | v :: xs, h => by
    obtain ⟨ds, h1, h2, h3, h4⟩ := plain_dp (K := K) (H := H) fun u hu => h u (List.mem_cons_of_mem _ hu)
    rcases h v List.mem_cons_self with ⟨i, rfl⟩ | ⟨b, rfl⟩ | ⟨z, rfl, hz⟩
    · exact ⟨.int i :: ds, .cons (.int i) h1, by unfold PyData.canLayAll0; rw [h2]; rfl, by unfold PyData.depthAll; rw [h3]; rfl, congrArg Nat.succ h4⟩
    · exact ⟨.bool b :: ds, .cons (.bl b) h1, by unfold PyData.canLayAll0; rw [h2]; rfl, by unfold PyData.depthAll; rw [h3]; rfl, congrArg Nat.succ h4⟩
    · exact ⟨.str z :: ds, .cons (.str z) h1, by unfold PyData.canLayAll0; rw [h2, hz]; rfl, by unfold PyData.depthAll; rw [h3]; rfl, congrArg Nat.succ h4⟩
theorem shaped_flat {ds : List PyData} (h2 : PyData.canLayAll0 ds = true) (h3 : PyData.depthAll ds = 0) : SeqAt.shaped (.tuple ds) = true := by
  unfold SeqAt.shaped
  have e1 : PyData.canLay0 (.tuple ds) = true := by unfold PyData.canLay0; exact h2
  have e2 : PyData.depth (.tuple ds) = 1 := by unfold PyData.depth; rw [h3]
  rw [e1, e2]
  decide
theorem eqv_nil {ds : List PyData} : PyData.eqv (.tuple ds) (.tuple []) = decide (ds = []) := by
  cases ds with
  | nil => simp [PyData.eqv, PyData.eqvAll]
  | cons d ds => simp [PyData.eqv, PyData.eqvAll]
/-! ### lines as they come -/
inductive Raw where
  | num (i : Int)
  | bl (b : Bool)
  | lst
  | nil
  | tup (h : Str) (mid : List V) (z : Str)
def midOk : V → Bool
  | .int i => decide ((0 : Int) ≤ i) && decide (i ≤ 7)
  | _ => false
def rawOk : Raw → Bool
  | .num i => decide (0 ≤ i) && decide (i ≤ 65535)
  | .tup h mid z => nameOk z && (mid.all midOk && (if h = "label" then decide (mid.length = 0) else if h = "place" then decide (mid.length = 1) else (decide (h = "same") || decide (h = "under")) && decide (mid.length = 2)))
  | _ => false
def RawV (K : PySem.W.Frag) (H : Hp) (v : V) : Raw → Prop
  | .num i => v = .int i
  | .bl b => v = .bl b
  | .lst => ∃ p xs, v = .ref p ∧ H p = some (.lst xs)
  | .nil => ∃ p, v = .ref p ∧ SqT K H p []
  | .tup h mid z => ∃ p, v = .ref p ∧ SqT K H p (.str h :: (mid ++ [.str z])) ∧ (∀ m ∈ mid, (∃ i, m = .int i) ∨ ∃ b, m = .bl b) ∧ mid.length ≤ 5 ∧ z.length ≤ 1000 ∧ PyData.canLay0 (.str h) = true ∧ PyData.canLay0 (.str z) = true
theorem RawV.same {K : PySem.W.Frag} {H H' : Hp} {v : V} {r : Raw} (e : Same H H') (h : RawV K H v r) : RawV K H' v r := by
  cases r with
  | num i => exact h
  | bl b => exact h
  | lst => obtain ⟨p, xs, a, b⟩ := h; exact ⟨p, xs, a, e _ _ b⟩
  | nil => obtain ⟨p, a, b⟩ := h; exact ⟨p, a, e.sqT b⟩
  | tup h' mid z => obtain ⟨p, a, b, c⟩ := h; exact ⟨p, a, e.sqT b, c⟩
theorem nonInt_of {K : PySem.W.Frag} {H : Hp} {v : V} (t : String) (h : TyX K H v (.type t)) (b1 b2 : Bool) (k1 : kitB t "int" = some b1) (k2 : kitB t "bool" = some b2) (e : (b1 && !b2) = false) : NonInt K H v := ⟨t, b1, b2, h, k1, k2, e⟩
theorem nonInt_tup {K : PySem.W.Frag} {H : Hp} {p : Addr} {xs : List V} (h : SqT K H p xs) : NonInt K H (.ref p) := nonInt_of "tuple" (ty_sqT h) false false (by decide +kernel) (by decide +kernel) rfl
theorem cut_mid (h : V) (mid : List V) (z : V) : cutV (h :: (mid ++ [z])) (some 1) (some (-1)) = mid := by
  have e1 : HT.sIx (h :: (mid ++ [z])).length 0 (some 1) = 1 := by
    show HT.sIx (h :: (mid ++ [z])).length 0 (some ((1 : Nat) : Int)) = 1
    rw [HT.sIx_nat, List.length_cons]; omega
  have e2 : HT.sIx (h :: (mid ++ [z])).length (h :: (mid ++ [z])).length (some (-1)) = mid.length + 1 := by
    show ((-1 : Int) + ((h :: (mid ++ [z])).length : Int)).toNat = _
    rw [List.length_cons, List.length_append, List.length_singleton]
    omega
  unfold cutV
  rw [e1, e2]
  show ((mid ++ [z]).take (mid.length + 1 - 1)) = mid
  rw [Nat.add_sub_cancel, List.take_left]
theorem cut_mid_not (h : V) (mid : List V) (z : V) : ¬ (HT.sIx (h :: (mid ++ [z])).length 0 (some 1) = 0 ∧ HT.sIx (h :: (mid ++ [z])).length (h :: (mid ++ [z])).length (some (-1)) = (h :: (mid ++ [z])).length) := fun e => by
  have e1 : HT.sIx (h :: (mid ++ [z])).length 0 (some 1) = 1 := by
    show HT.sIx (h :: (mid ++ [z])).length 0 (some ((1 : Nat) : Int)) = 1
    rw [HT.sIx_nat, List.length_cons]; omega
  rw [e1] at e
  exact absurd e.1 (by decide)
section
variable {P : Program} {w : World} {K : PySem.W.Frag} {mg : Str → Option Value} {base : Heap} {CS CI CL : Addr}
def spIsLine (K : PySem.W.Frag) : Sp := fun vs H Q _ => ∃ (v : V) (r : Raw), vs = [v] ∧ RawV K H v r ∧ ∀ H', Same H H' → Q (.bl (rawOk r)) H'
theorem cal_is_line (T : Txt K mg CS CI CL) : Cal P w K mg base CX0 4 "is_line" ["value"] (spIsLine K) := by
  refine T.d_is_line.cal0 sc_is_line (fun vs H Q E h => ?_) (fun _ _ _ _ _ _ us hl => match us, hl with | [_], _ => rfl) (fun f cdv A outer s H vs Q E hr h => ?_)
  · obtain ⟨v, _, rfl, _⟩ := h
    rfl
  · obtain ⟨v, r, rfl, hv, q⟩ := h
    obtain ⟨aB, gB, sB⟩ := T.c_BRANCHES
    refine ⟨_, pss_cons (ps_if (pt_val (pe_cal (cal_is_step_word T) hr (by rfl) pass0 (pa_cons (pv 0) pa_nil))) (pss_one (ps_ret pe_bl)) pss_nil)
      (pss_cons (ps_if (pw_or (pt_not (pt_val (pe_callB call_isi (by rfl) T.b.isinstance (by decide +kernel) (pa_cons (pv 0) (pa_cons (pe_bltn (v := .ty "tuple") (by rfl) T.b.tuple (by decide +kernel) rfl) pa_nil)))))
          (pw_or (pt_cmpR (op_eqD hr.units) (pv 0) (pe_tup pa_nil) (nomark _))
          (pw_or1 (pt_not (pt_val (pe_cal (cal_is_name T) (hr.mono (by decide)) (by rfl) pass0 (pa_cons (pe_ix ix_tup (pv 0) (pe_un un_neg pe_int) (fun _ _ => rfl)) pa_nil))))))).pt (pss_one (ps_ret pe_bl)) pss_nil)
      (pss_cons (ps_if (pt_not (pt_val (pe_callB (cr_all rfl) (by rfl) T.b.all (by decide +kernel) (pa_cons (pe_lc (own := [("number", 1)]) (g := gName 1) (tt := tYes) rfl sc_is_line.nd (pi_tup (pe_slice sl_tup (pv 0) (po_some pe_int) (po_some (pe_un un_neg pe_int)))) (blkOk_by (own := [("number", 1)]) (N := n_is_line) (sc := defScope s_is_line) (by decide +kernel))
          (fun _ _ _ _ _ => pg_name (i := 1) sc_is_line.nd rfl (Or.inl rfl)) (fun _ _ _ _ _ => pts_nil) (fun _ _ _ _ _ => pe_cal (cal_is_within T) (hr.mono (by decide)) (by rfl) pass0 (pa_cons (pv 1) (pa_cons pe_int (pa_cons (pe_gl T.c_MOST_REGISTER (by rfl)) pa_nil))))) pa_nil)))) (pss_one (ps_ret pe_bl)) pss_nil)
      (pss_cons (ps_if (pt_cmpR op_eq (pe_ix ix_tup (pv 0) pe_int (fun _ _ => rfl)) (pe_gl T.c_LABEL (by rfl)) (nomark _)) (pss_one (ps_ret (pe_cmpR op_eq (pe_callB call_len_seq (by rfl) T.b.len PySem.boot_len (pa_cons (pv 0) pa_nil)) (pe_gl T.c_LABEL_SIZE (by rfl)) (nomark _)))) pss_nil)
      (pss_cons (ps_if (pt_cmpR op_eq (pe_ix ix_tup (pv 0) pe_int (fun _ _ => rfl)) (pe_gl T.c_PLACE (by rfl)) (nomark _)) (pss_one (ps_ret (pe_cmpR op_eq (pe_callB call_len_seq (by rfl) T.b.len PySem.boot_len (pa_cons (pv 0) pa_nil)) (pe_gl T.c_PLACE_SIZE (by rfl)) (nomark _)))) pss_nil)
      (pss_one (ps_ret (pe_and (pe_cmpR op_in_seq (pe_ix ix_tup (pv 0) pe_int (fun _ _ => rfl)) (pe_glob (v := .ref aB) (by rfl) gB rfl) rfl)
        (pe_one (pe_cmpR op_eq (pe_callB call_len_seq (by rfl) T.b.len PySem.boot_len (pa_cons (pv 0) pa_nil)) (pe_gl T.c_BRANCH_SIZE (by rfl)) (nomark _)))))))))), ?_⟩
    refine ⟨_, rfl, v, rfl, ?_⟩
    cases r with
    | num i =>
      obtain rfl : v = .int i := hv
      refine .inl ⟨i, rfl, _, rfl, ?_⟩
      have q := q H (Same.refl H)
      have er : rawOk (.num i) = (decide ((0 : Int) ≤ i) && decide (i ≤ 65535)) := rfl
      rw [er] at q
      cases c : (decide ((0 : Int) ≤ i) && decide (i ≤ 65535)) with
      | true =>
        rw [c] at q
        exact iteT q
      | false =>
        rw [c] at q
        refine iteF ?_
        refine ⟨_, rfl, .int i, .ty "tuple", _, _, false, rfl, .ty _, .base (.int i), kit_ty (by decide +kernel), false, rfl, ?_⟩
        exact q
    | bl b =>
      obtain rfl : v = .bl b := hv
      refine .inr ⟨nonInt_of "bool" (.base (.bl b)) true true (by decide +kernel) (by decide +kernel) rfl, _, rfl, iteF ?_⟩
      refine ⟨_, rfl, .bl b, .ty "tuple", _, _, false, rfl, .ty _, .base (.bl b), kit_ty (by decide +kernel), false, rfl, ?_⟩
      exact q H (Same.refl H)
    | lst =>
      obtain ⟨p, xs, rfl, hp⟩ := hv
      refine .inr ⟨nonInt_of "list" (.base (.lst hp)) false false (by decide +kernel) (by decide +kernel) rfl, _, rfl, iteF ?_⟩
      refine ⟨_, rfl, .ref p, .ty "tuple", _, _, false, rfl, .ty _, .base (.lst hp), kit_ty (by decide +kernel), false, rfl, ?_⟩
      exact q H (Same.refl H)
    | nil =>
      obtain ⟨p, rfl, hp⟩ := hv
      refine .inr ⟨nonInt_tup hp, _, rfl, iteF ?_⟩
      refine ⟨_, rfl, .ref p, .ty "tuple", _, _, true, rfl, .ty _, ty_sqT hp, kit_ty (by decide +kernel), true, rfl, iteF ?_⟩
      refine ⟨.ref p, rfl, Nat.zero_le _, fun u hu => ⟨.tuple [], .tuple [], .tup ((same_upd hu).sqT hp) .nil, .tup (sqT_at upd_same) .nil, by decide +kernel, by decide +kernel, _, rfl, ?_⟩⟩
      exact q _ (same_upd hu)
    | tup h mid z =>
      obtain ⟨p, rfl, hp, hm, hl, hz, sh, sz⟩ := hv
      refine .inr ⟨nonInt_tup hp, _, rfl, iteF ?_⟩
      refine ⟨_, rfl, .ref p, .ty "tuple", _, _, true, rfl, .ty _, ty_sqT hp, kit_ty (by decide +kernel), true, rfl, iteF ?_⟩
      have hpl : ∀ m ∈ (V.str h :: (mid ++ [V.str z])), Plain m := fun m h' => by
        rcases List.mem_cons.mp h' with rfl | h'
        · exact .inr (.inr ⟨h, rfl, sh⟩)
        · rcases List.mem_append.mp h' with h' | h'
          · rcases hm m h' with h' | h'
            · exact .inl h'
            · exact .inr (.inl h')
          · rw [List.mem_singleton] at h'
            exact .inr (.inr ⟨z, h', sz⟩)
      refine ⟨.ref p, rfl, Nat.zero_le _, fun u hu => ?_⟩
      have s1 : Same H (upd H u (.tup [])) := same_upd hu
      obtain ⟨ds, d1, d2, d3, d4⟩ := plain_dp (K := K) (H := upd H u (.tup [])) hpl
      refine ⟨.tuple ds, .tuple [], .tup (s1.sqT hp) d1, .tup (sqT_at upd_same) .nil, shaped_flat d2 d3, by decide +kernel, false, ?_, iteF ?_⟩
      · rw [eqv_nil, decide_eq_false]
        intro e
        rw [e] at d4
        cases d4
      refine ⟨.ref p, rfl, 1, rfl, p, _, -1, .str z, rfl, rfl, s1.sqT hp, atI_last (V.str h :: mid) (V.str z), z, rfl, hz, fun H2 s2 => ⟨_, rfl, ?_⟩⟩
      have s3 := s1.trans s2
      have er : rawOk (.tup h mid z) = (nameOk z && (mid.all midOk && (if h = "label" then decide (mid.length = 0) else if h = "place" then decide (mid.length = 1) else (decide (h = "same") || decide (h = "under")) && decide (mid.length = 2)))) := rfl
      rw [er] at q
      cases c : nameOk z with
      | false =>
        rw [c] at q
        exact q H2 s3
      | true =>
        rw [c] at q
        refine iteF ?_
        -- all([..])
        refine ⟨.ref p, rfl, 1, rfl, 1, rfl, -1, rfl, p, _, rfl, s3.sqT hp, cut_mid_not _ _ _, fun o no => ?_⟩
        rw [cut_mid]
        refine ⟨o, rfl, ⟨mid, sqT_at upd_same⟩, fun D hD => lc_tup (xs := mid) (fun i H' => Acc (upd H2 o (.tup mid)) D ((mid.take i).map fun m => .bl (midOk m)) H') (Acc.start hD) (fun _ H' _ a => a.s.sqT (sqT_at upd_same)) (fun i x H' hx a => ?_) (fun H' a => ?_)⟩
        · have hlt := (List.getElem?_eq_some_iff.mp hx).1
          have fin : Acc (upd H2 o (.tup mid)) D ((mid.take (i + 1)).map fun m => V.bl (midOk m)) (upd H' D (.lst ((mid.take i).map (fun m => V.bl (midOk m)) ++ [.bl (midOk x)]))) := by
            have e : (mid.take (i + 1)).map (fun m => V.bl (midOk m)) = (mid.take i).map (fun m => V.bl (midOk m)) ++ [.bl (midOk x)] := by
              rw [List.take_add_one, List.map_append, hx]; rfl
            rw [e]
            exact a.to
          have fsz : ((mid.take i).map fun m => V.bl (midOk m)).length < sizeLine := by
            rw [List.length_map, List.length_take]
            exact Nat.lt_of_le_of_lt (Nat.min_le_left _ _) (small1000 (by omega))
          refine ⟨rfl, x, rfl, x, 0, 7, rfl, ?_⟩
          rcases hm x (List.mem_of_getElem? hx) with ⟨j, rfl⟩ | ⟨b, rfl⟩
          · exact .inl ⟨j, rfl, _, a.d, fsz, fin⟩
          · exact .inr ⟨nonInt_of "bool" (.base (.bl b)) true true (by decide +kernel) (by decide +kernel) rfl, _, a.d, fsz, fin⟩
        · have ad := a.d
          rw [List.take_of_length_le (Nat.le_refl _)] at ad
          refine ⟨D, mid.map midOk, rfl, sqL_at (by rw [List.map_map]; exact ad), _, rfl, ?_⟩
          have eA : (mid.map midOk).all id = mid.all midOk := by rw [List.all_map]; rfl
          rw [eA]
          have s4 : Same H H' := s3.trans ((same_upd no).trans a.s)
          have hp4 := s4.sqT hp
          have q4 := q H' s4
          cases c2 : mid.all midOk with
          | false =>
            rw [c2] at q4
            exact q4
          | true =>
            rw [c2] at q4
            refine iteF ?_
            have at0 : atI (V.str h :: (mid ++ [V.str z])) 0 = some (.str h) := atI_nat (j := 0) rfl
            have hlen : (V.str h :: (mid ++ [V.str z])).length = mid.length + 2 := by rw [List.length_cons, List.length_append]; rfl
            have lenq : ∀ k : Nat, decide (V.int ((V.str h :: (mid ++ [V.str z])).length : Nat) = V.int ((k + 2 : Nat) : Int)) = decide (mid.length = k) := fun k => by
              rw [hlen]
              by_cases e : mid.length = k
              · rw [e, decide_eq_true rfl, decide_eq_true rfl]
              · rw [decide_eq_false e, decide_eq_false]
                intro z
                injection z with z
                omega
            refine ⟨.ref p, rfl, p, _, 0, .str h, rfl, rfl, hp4, at0, rfl, _, rfl, ?_⟩
            by_cases c3 : h = "label"
            · rw [decide_eq_true (show V.str h = V.str "label" by rw [c3])]
              rw [if_pos c3] at q4
              refine iteT ⟨.ref p, rfl, p, _, rfl, .inr hp4, rfl, ?_⟩
              rw [show (V.int 2) = V.int ((0 + 2 : Nat) : Int) from rfl, lenq 0]
              exact q4
            · rw [decide_eq_false (show ¬ V.str h = V.str "label" from fun z => c3 (by injection z))]
              rw [if_neg c3] at q4
              refine iteF ⟨.ref p, rfl, p, _, 0, .str h, rfl, rfl, hp4, at0, rfl, _, rfl, ?_⟩
              by_cases c4 : h = "place"
              · rw [decide_eq_true (show V.str h = V.str "place" by rw [c4])]
                rw [if_pos c4] at q4
                refine iteT ⟨.ref p, rfl, p, _, rfl, .inr hp4, rfl, ?_⟩
                rw [show (V.int 3) = V.int ((1 + 2 : Nat) : Int) from rfl, lenq 1]
                exact q4
              · rw [decide_eq_false (show ¬ V.str h = V.str "place" from fun z => c4 (by injection z))]
                rw [if_neg c4] at q4
                refine iteF ⟨.ref p, rfl, p, _, 0, .str h, rfl, rfl, hp4, at0, aB, _, rfl, .inr (sB _), rfl, rfl, _, rfl, ?_⟩
                have ein : inV (.str h) [.str "same", .str "under"] = (decide (h = "same") || decide (h = "under")) := by
                  show (("same" : Str) == h || (("under" : Str) == h || false)) = _
                  rw [Bool.or_false]
                  congr 1
                  · by_cases e : h = "same"
                    · rw [e]; decide
                    · rw [decide_eq_false e]; exact beq_eq_false_iff_ne.mpr (fun z => e z.symm)
                  · by_cases e : h = "under"
                    · rw [e]; decide
                    · rw [decide_eq_false e]; exact beq_eq_false_iff_ne.mpr (fun z => e z.symm)
                show if (inV (.str h) [.str "same", .str "under"]) = true then _ else _
                rw [ein]
                cases c5 : (decide (h = "same") || decide (h = "under")) with
                | false =>
                  rw [c5] at q4
                  exact iteF q4
                | true =>
                  rw [c5] at q4
                  refine iteT ⟨.ref p, rfl, p, _, rfl, .inr hp4, rfl, ?_⟩
                  rw [show (V.int 4) = V.int ((2 + 2 : Nat) : Int) from rfl, lenq 2]
                  exact q4
end
end K80
set_option Elab.async false
set_option linter.all false
set_option maxRecDepth 100000
set_option maxHeartbeats 4000000
/-! is_label, is_branch, require_lines. -/
namespace K80
open PySem PySem.Spec PyProof.Rows L2
def Line.raw : Line → Raw
  | .w n => .num n
  | .lab x => .tup "label" [] x
  | .br u a b x => .tup (if u then "under" else "same") [.int a, .int b] x
  | .pl a x => .tup "place" [.int a] x
def okName (x : Str) : Bool := nameOk x && PyData.canLay0 (.str x)
def okReg (a : Int) : Bool := decide ((0 : Int) ≤ a) && decide (a ≤ 7)
def okLine : Line → Bool
  | .w n => decide (0 ≤ n) && decide (n ≤ 65535)
  | .lab x => okName x
  | .br _ a b x => okReg a && (okReg b && okName x)
  | .pl a x => okReg a && okName x
theorem nameOk_len {x : Str} (h : nameOk x = true) : x.length ≤ 1000 := by
  unfold nameOk at h
  obtain ⟨_, h⟩ := Bool.and_eq_true_iff.mp h
  obtain ⟨h, _⟩ := Bool.and_eq_true_iff.mp h
  have := of_decide_eq_true h
  omega
def shapeOk (h : Str) (k : Nat) : Bool := if h = "label" then decide (k = 0) else if h = "place" then decide (k = 1) else (decide (h = "same") || decide (h = "under")) && decide (k = 2)
theorem okLine_raw {K : PySem.W.Frag} {H : Hp} {v : V} {l : Line} (ok : okLine l = true) (h : LineV K H v l) : RawV K H v l.raw ∧ rawOk l.raw = true := by
  cases l with
  | w n => exact ⟨h, ok⟩
  | lab x =>
    obtain ⟨h1, h2⟩ := Bool.and_eq_true_iff.mp (show (nameOk x && PyData.canLay0 (.str x)) = true from ok)
    obtain ⟨p, e, q⟩ := h
    refine ⟨⟨p, e, q, fun m hm => by simp at hm, by decide, nameOk_len h1, by decide +kernel, h2⟩, ?_⟩
    show (nameOk x && (true && shapeOk "label" 0)) = true
    rw [h1]
    decide
  | pl a x =>
    obtain ⟨h0, ok⟩ := Bool.and_eq_true_iff.mp (show (okReg a && okName x) = true from ok)
    obtain ⟨h1, h2⟩ := Bool.and_eq_true_iff.mp (show (nameOk x && PyData.canLay0 (.str x)) = true from ok)
    obtain ⟨p, e, q⟩ := h
    refine ⟨⟨p, e, q, fun m hm => .inl ⟨a, by simpa using hm⟩, by show (1 : Nat) ≤ 5; decide, nameOk_len h1, by decide +kernel, h2⟩, ?_⟩
    show (nameOk x && ((okReg a && true) && shapeOk "place" 1)) = true
    rw [h1, h0]
    decide
  | br u a b x =>
    obtain ⟨h0, ok⟩ := Bool.and_eq_true_iff.mp (show (okReg a && (okReg b && okName x)) = true from ok)
    obtain ⟨h0', ok⟩ := Bool.and_eq_true_iff.mp ok
    obtain ⟨h1, h2⟩ := Bool.and_eq_true_iff.mp (show (nameOk x && PyData.canLay0 (.str x)) = true from ok)
    obtain ⟨p, e, q⟩ := h
    refine ⟨⟨p, e, q, fun m hm => ?_, by show (2 : Nat) ≤ 5; decide, nameOk_len h1, by cases u <;> decide +kernel, h2⟩, ?_⟩
    · have : m = .int a ∨ m = .int b := by simpa using hm
      rcases this with e | e
      · exact .inl ⟨a, e⟩
      · exact .inl ⟨b, e⟩
    · show (nameOk x && ((okReg a && (okReg b && true)) && shapeOk (if u then "under" else "same") 2)) = true
      rw [h1, h0, h0']
      cases u <;> decide
theorem strNe {a b : Str} (h : a ≠ b) : decide (V.str a = V.str b) = false := decide_eq_false fun z => h (by injection z)
theorem boot_isinstance : bootBuiltins "isinstance" = some (.builtin "isinstance") := by decide +kernel
theorem boot_tuple : bootBuiltins "tuple" = some (.type "tuple") := by decide +kernel
/-- each name has one label -/
def labsOk (ls : List Line) : Bool := decide (ls.filterMap Line.labN).Nodup && ls.all fun l => l.isW || decide (l.nm ∈ ls.filterMap Line.labN)
theorem inV_strs (x : Str) (ys : List Str) : inV (.str x) (ys.map V.str) = decide (x ∈ ys) := by
  unfold inV
  rw [List.any_map]
  induction ys with
  | nil => rfl
  | cons y ys ih =>
    rw [List.any_cons, ih]
    show ((y == x) || _) = _
    by_cases e : x = y
    · subst e
      rw [beq_self_eq_true, Bool.true_or, decide_eq_true List.mem_cons_self]
    · rw [beq_eq_false_iff_ne.mpr (fun z => e z.symm), Bool.false_or]
      by_cases m : x ∈ ys
      · rw [decide_eq_true m, decide_eq_true (List.mem_cons_of_mem _ m)]
      · rw [decide_eq_false m, decide_eq_false (fun z => by rcases List.mem_cons.mp z with z | z; exact e z; exact m z)]
theorem flat_strs (ys : List Str) : (ys.map V.str).all flatV = true := by
  rw [List.all_map, List.all_eq_true]
  intro y _
  rfl
section
variable {P : Program} {w : World} {K : PySem.W.Frag} {mg : Str → Option Value} {base : Heap} {CS CI CL : Addr}
def spIsLabel (K : PySem.W.Frag) : Sp := fun vs H Q _ => ∃ (v : V) (l : Line), vs = [v] ∧ LineV K H v l ∧ Q (.bl l.isLab) H
theorem head_lab (l : Line) (n : l.isW = false) : decide (V.str l.head = V.str "label") = l.isLab := by
  cases l with
  | w n => cases n
  | lab x => exact decide_eq_true rfl
  | br u a b x => cases u; exact strNe (a := "same") (by decide); exact strNe (a := "under") (by decide)
  | pl a x => exact strNe (a := "place") (by decide)
theorem head_br (l : Line) (n : l.isW = false) : inV (.str l.head) [.str "same", .str "under"] = l.isBr := by
  cases l with
  | w n => cases n
  | lab x => show inV (.str "label") [.str "same", .str "under"] = false; decide
  | br u a b x =>
    cases u
    · show inV (.str "same") [.str "same", .str "under"] = true; decide
    · show inV (.str "under") [.str "same", .str "under"] = true; decide
  | pl a x => show inV (.str "place") [.str "same", .str "under"] = false; decide
theorem cal_is_label (T : Txt K mg CS CI CL) : Cal P w K mg base CX0 1 "is_label" ["line"] (spIsLabel K) := by
  refine T.d_is_label.cal0 sc_is_label (fun vs H Q E h => ?_) (fun _ _ _ _ _ _ us hl => match us, hl with | [_], _ => rfl) (fun f cdv A outer s H vs Q E hr h => ?_)
  · obtain ⟨v, _, rfl, _⟩ := h
    rfl
  · obtain ⟨v, l, rfl, hv, q⟩ := h
    refine ⟨_, pss_one (ps_ret (pe_and (pe_callB call_isi (by rfl) T.b.isinstance (by decide +kernel) (pa_cons (pv 0) (pa_cons (pe_bltn (v := .ty "tuple") (by rfl) T.b.tuple (by decide +kernel) rfl) pa_nil)))
      (pe_one (pe_cmpR op_eq (pe_ix ix_tup (pv 0) pe_int (fun _ _ => rfl)) (pe_gl T.c_LABEL (by rfl)) (nomark _))))), ?_⟩
    obtain ⟨t, ht, hk⟩ := line_ty hv
    refine ⟨_, rfl, v, .ty "tuple", _, _, _, rfl, .ty _, ht, hk, _, rfl, ?_⟩
    cases c : l.isW with
    | true =>
      have : l.isLab = false := by cases l <;> first | rfl | cases c
      rw [this] at q
      exact q
    | false =>
      obtain ⟨p, rfl, hp⟩ := line_sq hv c
      refine ⟨.ref p, rfl, p, _, 0, _, rfl, rfl, hp, items_head l c, rfl, ?_⟩
      rw [head_lab l c]
      exact q
def spIsBranch (K : PySem.W.Frag) : Sp := fun vs H Q _ => ∃ (v : V) (l : Line), vs = [v] ∧ LineV K H v l ∧ Q (.bl l.isBr) H
theorem cal_is_branch (T : Txt K mg CS CI CL) : Cal P w K mg base CX0 1 "is_branch" ["line"] (spIsBranch K) := by
  refine T.d_is_branch.cal0 sc_is_branch (fun vs H Q E h => ?_) (fun _ _ _ _ _ _ us hl => match us, hl with | [_], _ => rfl) (fun f cdv A outer s H vs Q E hr h => ?_)
  · obtain ⟨v, _, rfl, _⟩ := h
    rfl
  · obtain ⟨v, l, rfl, hv, q⟩ := h
    obtain ⟨aB, gB, sB⟩ := T.c_BRANCHES
    refine ⟨_, pss_one (ps_ret (pe_and (pe_callB call_isi (by rfl) T.b.isinstance (by decide +kernel) (pa_cons (pv 0) (pa_cons (pe_bltn (v := .ty "tuple") (by rfl) T.b.tuple (by decide +kernel) rfl) pa_nil)))
      (pe_one (pe_cmpR op_in_seq (pe_ix ix_tup (pv 0) pe_int (fun _ _ => rfl)) (pe_glob (v := .ref aB) (by rfl) gB rfl) rfl)))), ?_⟩
    obtain ⟨t, ht, hk⟩ := line_ty hv
    refine ⟨_, rfl, v, .ty "tuple", _, _, _, rfl, .ty _, ht, hk, _, rfl, ?_⟩
    cases c : l.isW with
    | true =>
      have : l.isBr = false := by cases l <;> first | rfl | cases c
      rw [this] at q
      exact q
    | false =>
      obtain ⟨p, rfl, hp⟩ := line_sq hv c
      refine ⟨.ref p, rfl, p, _, 0, _, rfl, rfl, hp, items_head l c, aB, _, rfl, .inr (sB _), rfl, rfl, ?_⟩
      show Q (.bl (inV (.str l.head) [.str "same", .str "under"])) H
      rw [head_br l c]
      exact q
/-- the lines as they come -/
def RawsV (K : PySem.W.Frag) (H : Hp) (vs : List V) (rs : List Raw) : Prop := vs.length = rs.length ∧ ∀ (i : Nat) (v : V), vs[i]? = some v → ∃ r, rs[i]? = some r ∧ RawV K H v r
theorem raws_of {K : PySem.W.Frag} {H : Hp} {vs : List V} {ls : List Line} (h : LinesV K H vs ls) (ok : ls.all okLine = true) : RawsV K H vs (ls.map Line.raw) ∧ (ls.map Line.raw).all rawOk = true := by
  refine ⟨⟨by rw [List.length_map, h.1], fun i v e => ?_⟩, ?_⟩
  · obtain ⟨l, el, hl⟩ := h.at_ e
    have okl := List.all_eq_true.mp ok l (List.mem_of_getElem? el)
    exact ⟨l.raw, by rw [List.getElem?_map, el]; rfl, (okLine_raw okl hl).1⟩
  · rw [List.all_map, List.all_eq_true]
    intro l hl
    obtain ⟨i, hi, e⟩ := List.mem_iff_getElem.mp hl
    obtain ⟨v, ev, hv⟩ := h.on (i := i) (l := l) (by rw [← e]; exact List.getElem?_eq_getElem hi)
    exact (okLine_raw (List.all_eq_true.mp ok l hl) hv).2
def spRequireLines (K : PySem.W.Frag) (CL : Addr) : Sp := fun vs H Q E => ∃ v : V, vs = [v] ∧
  ((∃ t, TyX K H v (.type t) ∧ kitB t "tuple" = some false ∧ E (.ref CL) none H) ∨
   (∃ (t : Addr) (xs : List V), v = .ref t ∧ SqT K H t xs ∧ ¬ (1 ≤ xs.length ∧ xs.length ≤ 256) ∧ E (.ref CL) none H) ∨
   (∃ (t : Addr) (xs : List V) (rs : List Raw), v = .ref t ∧ SqT K H t xs ∧ 1 ≤ xs.length ∧ xs.length ≤ 256 ∧ RawsV K H xs rs ∧ rs.all rawOk = false ∧ ∀ H', Same H H' → E (.ref CL) none H') ∨
   (∃ (t : Addr) (ls : List Line), v = .ref t ∧ LinesT K H t ls ∧ 1 ≤ ls.length ∧ ls.length ≤ 256 ∧ ls.all okLine = true ∧ ((labsOk ls = true ∧ ∀ H', Same H H' → Q .non H') ∨ (labsOk ls = false ∧ ∀ H', Same H H' → E (.ref CL) none H'))))
theorem cal_require_lines (T : Txt K mg CS CI CL) : Cal P w K mg base (L2.CX P w) 5 "require_lines" ["lines"] (spRequireLines K CL) := by
  refine T.d_require_lines.calX sc_require_lines (fun vs H Q E h => ?_) (fun _ _ _ _ _ _ us hl => match us, hl with | [_], _ => rfl) (fun f cdv A outer s H vs Q E hr h => ?_)
  · obtain ⟨v, rfl, _⟩ := h
    rfl
  · obtain ⟨v, rfl, h⟩ := h
    refine ⟨_, pss_cons (ps_if (pw_or (pt_not (pt_val (pe_callB call_isi (by rfl) T.b.isinstance (by decide +kernel) (pa_cons (pv 0) (pa_cons (pe_bltn (v := .ty "tuple") (by rfl) T.b.tuple (by decide +kernel) rfl) pa_nil)))))
          (pw_or (pt_not (pt_chain op_le op_le pe_int (pe_callB call_len_seq (by rfl) T.b.len PySem.boot_len (pa_cons (pv 0) pa_nil)) (pe_gl T.c_MOST_LINES (by rfl))))
          (pw_or1 (pt_not (pt_val (pe_callB (cr_all rfl) (by rfl) T.b.all (by decide +kernel) (pa_cons (pe_lc (own := [("one", 2)]) (g := gName 2) (tt := tYes) rfl sc_require_lines.nd (pi_tup (pv 0)) (blkOk_by (own := [("one", 2)]) (N := n_require_lines) (sc := defScope s_require_lines) (by decide +kernel))
            (fun _ _ _ _ _ => pg_name (i := 2) sc_require_lines.nd rfl (Or.inl rfl)) (fun _ _ _ _ _ => pts_nil) (fun _ _ _ _ _ => pe_cal (cal_is_line T) hr (by rfl) pass0 (pa_cons (pv 2) pa_nil))) pa_nil))))))).pt
          (pss_one (ps_raiseOwn T.invL rfl (takes_of rfl rfl rfl rfl) rfl)) pss_nil)
      (pss_cons (ps_set (i := 1) sc_require_lines.nd rfl (Or.inr rfl) (pe_lc (own := [("line", 3)]) (g := gName 3) rfl sc_require_lines.nd (pi_tup (pv 0)) (blkOk_by (own := [("line", 3)]) (N := n_require_lines) (sc := defScope s_require_lines) (by decide +kernel))
            (fun _ _ _ _ _ => pg_name (i := 3) sc_require_lines.nd rfl (Or.inl rfl)) (fun _ _ _ _ _ => pts_one (pt_val (pe_cal (cal_is_label T) (hr.mono (by decide)) (by rfl) pass0 (pa_cons (pv 3) pa_nil)))) (fun _ _ _ _ _ => pe_ix (r := rIxT K) ix_tup (pv 3) (pe_un un_neg pe_int) (fun _ _ => rfl))))
      (pss_one (ps_if (pw_or (pt_cmpR op_ne (pe_callB call_len_seq (by rfl) T.b.len PySem.boot_len (pa_cons (pv 1) pa_nil)) (pe_lenSetS rfl (by rfl) T.b.len (by rfl) T.b.set (pv 1)) (nomark _))
          (pw_or1 (pt_not (pt_val (pe_callB (cr_all rfl) (by rfl) T.b.all (by decide +kernel) (pa_cons (pe_lc (own := [("line", 3)]) (g := gName 3) rfl sc_require_lines.nd (pi_tup (pv 0)) (blkOk_by (own := [("line", 3)]) (N := n_require_lines) (sc := defScope s_require_lines) (by decide +kernel))
            (fun _ _ _ _ _ => pg_name (i := 3) sc_require_lines.nd rfl (Or.inl rfl)) (fun _ _ _ _ _ => pts_one (pt_val (pe_callB (r := rIsi K) call_isi (by rfl) T.b.isinstance boot_isinstance (pa_cons (pv 3) (pa_cons (pe_bltn (v := .ty "tuple") (by rfl) T.b.tuple boot_tuple rfl) pa_nil)))))
            (fun _ _ _ _ _ => pe_cmpR (r := rIn K false) op_in_seq (pe_ix (r := rIxT K) ix_tup (pv 3) (pe_un un_neg pe_int) (fun _ _ => rfl)) (pv 1) rfl)) pa_nil)))))).pt
          (pss_one (ps_raiseOwn T.invL rfl (takes_of rfl rfl rfl rfl) rfl)) pss_nil))), ?_⟩
    rcases h with ⟨t, ht, hk, q⟩ | ⟨t, xs, rfl, hs, hl, q⟩ | ⟨t, xs, rs, rfl, hs, hl1, hl2, hrw, hbad, q⟩ | ⟨t, ls, rfl, ⟨xs, hs, hls⟩, hl1, hl2, hok, h⟩
    · exact ⟨_, rfl, v, .ty "tuple", _, _, false, rfl, .ty _, ht, kit_ty hk, false, rfl, q⟩
    · refine ⟨_, rfl, .ref t, .ty "tuple", _, _, true, rfl, .ty _, ty_sqT hs, kit_ty (by decide +kernel), true, rfl, ?_⟩
      refine ⟨.ref t, rfl, t, xs, rfl, .inr hs, 1, (xs.length : Nat), rfl, rfl, decide ((1 : Int) ≤ (xs.length : Nat)), rfl, ?_⟩
      by_cases c1 : 1 ≤ xs.length
      · rw [decide_eq_true (show (1 : Int) ≤ (xs.length : Nat) by omega)]
        refine ⟨(xs.length : Nat), 256, rfl, rfl, decide ((xs.length : Nat) ≤ (256 : Int)), rfl, ?_⟩
        rw [decide_eq_false (show ¬ ((xs.length : Nat) : Int) ≤ 256 by omega)]
        exact q
      · rw [decide_eq_false (show ¬ (1 : Int) ≤ (xs.length : Nat) by omega)]
        exact ⟨_, rfl, q⟩
    · -- a line that is none
      refine ⟨_, rfl, .ref t, .ty "tuple", _, _, true, rfl, .ty _, ty_sqT hs, kit_ty (by decide +kernel), true, rfl, ?_⟩
      refine ⟨.ref t, rfl, t, xs, rfl, .inr hs, 1, (xs.length : Nat), rfl, rfl, decide ((1 : Int) ≤ (xs.length : Nat)), rfl, ?_⟩
      rw [decide_eq_true (show (1 : Int) ≤ (xs.length : Nat) by omega)]
      refine ⟨(xs.length : Nat), 256, rfl, rfl, decide ((xs.length : Nat) ≤ (256 : Int)), rfl, ?_⟩
      rw [decide_eq_true (show ((xs.length : Nat) : Int) ≤ 256 by omega)]
      refine ⟨.ref t, rfl, t, rfl, ⟨xs, hs⟩, fun D hD => lc_tup (xs := xs) (fun i H' => Acc H D ((rs.take i).map fun r => .bl (rawOk r)) H') (Acc.start hD) (fun _ H' _ a => a.s.sqT hs) (fun i x H' hx a => ?_) (fun H' a => ?_)⟩
      · obtain ⟨r, hr', hv⟩ := hrw.2 i x hx
        refine ⟨rfl, x, rfl, x, r, rfl, hv.same a.s, fun H2 s2 => ?_⟩
        have a2 := a.same s2
        refine ⟨_, a2.d, ?_, ?_⟩
        · rw [List.length_map, List.length_take]
          have := (List.getElem?_eq_some_iff.mp hx).1
          exact Nat.lt_of_le_of_lt (Nat.min_le_left _ _) (small1000 (by omega))
        · have e : (rs.take (i + 1)).map (fun r => V.bl (rawOk r)) = (rs.take i).map (fun r => V.bl (rawOk r)) ++ [.bl (rawOk r)] := by
            rw [List.take_add_one, List.map_append, hr']; rfl
          show Acc H D _ _
          rw [e]
          exact a2.to
      · have ad := a.d
        rw [List.take_of_length_le (by rw [← hrw.1]; exact Nat.le_refl _)] at ad
        refine ⟨D, rs.map rawOk, rfl, sqL_at (by rw [List.map_map]; exact ad), _, rfl, ?_⟩
        have eA : (rs.map rawOk).all id = rs.all rawOk := by rw [List.all_map]; rfl
        rw [eA, hbad]
        exact q H' a.s
    · have hxl : xs.length = ls.length := hls.1
      obtain ⟨hrw, hrok⟩ := raws_of hls hok
      refine ⟨_, rfl, .ref t, .ty "tuple", _, _, true, rfl, .ty _, ty_sqT hs, kit_ty (by decide +kernel), true, rfl, ?_⟩
      refine ⟨.ref t, rfl, t, xs, rfl, .inr hs, 1, (xs.length : Nat), rfl, rfl, decide ((1 : Int) ≤ (xs.length : Nat)), rfl, ?_⟩
      rw [decide_eq_true (show (1 : Int) ≤ (xs.length : Nat) by omega)]
      refine ⟨(xs.length : Nat), 256, rfl, rfl, decide ((xs.length : Nat) ≤ (256 : Int)), rfl, ?_⟩
      rw [decide_eq_true (show ((xs.length : Nat) : Int) ≤ 256 by omega)]
      refine ⟨.ref t, rfl, t, rfl, ⟨xs, hs⟩, fun D hD => lc_tup (xs := xs) (fun i H' => Acc H D (((ls.map Line.raw).take i).map fun r => .bl (rawOk r)) H') (Acc.start hD) (fun _ H' _ a => a.s.sqT hs) (fun i x H' hx a => ?_) (fun H' a => ?_)⟩
      · obtain ⟨r, hr', hv⟩ := hrw.2 i x hx
        refine ⟨rfl, x, rfl, x, r, rfl, hv.same a.s, fun H2 s2 => ?_⟩
        have a2 := a.same s2
        refine ⟨_, a2.d, ?_, ?_⟩
        · rw [List.length_map, List.length_take]
          have := (List.getElem?_eq_some_iff.mp hx).1
          exact Nat.lt_of_le_of_lt (Nat.min_le_left _ _) (small1000 (by omega))
        · have e : ((ls.map Line.raw).take (i + 1)).map (fun r => V.bl (rawOk r)) = ((ls.map Line.raw).take i).map (fun r => V.bl (rawOk r)) ++ [.bl (rawOk r)] := by
            rw [List.take_add_one, List.map_append, hr']; rfl
          show Acc H D _ _
          rw [e]
          exact a2.to
      · have ad := a.d
        rw [List.take_of_length_le (by rw [List.length_map, hxl]; exact Nat.le_refl _)] at ad
        refine ⟨D, (ls.map Line.raw).map rawOk, rfl, sqL_at (by rw [List.map_map]; exact ad), _, rfl, ?_⟩
        have eA : ((ls.map Line.raw).map rawOk).all id = (ls.map Line.raw).all rawOk := by rw [List.all_map]; rfl
        rw [eA, hrok]
        -- labels
        have s1 : Same H H' := a.s
        refine ⟨.ref t, rfl, t, rfl, ⟨xs, s1.sqT hs⟩, fun L hL => lc_tup (xs := xs) (fun i H2 => Acc H' L (((ls.take i).filterMap Line.labN).map V.str) H2) (Acc.start hL) (fun _ H2 _ a => (s1.trans a.s).sqT hs) (fun i x H2 hx a => ?_) (fun H2 a2 => ?_)⟩
        · obtain ⟨l, el, hl⟩ := hls.at_ hx
          have hl2 : LineV K H2 x l := hl.keep (keepT_same (s1.trans a.s))
          refine ⟨rfl, x, rfl, x, l, rfl, hl2, _, rfl, ?_⟩
          have et : (ls.take (i + 1)).filterMap Line.labN = (ls.take i).filterMap Line.labN ++ l.labN.toList := by
            rw [List.take_add_one, el, List.filterMap_append]
            congr 1
          cases c : l.isLab with
          | false =>
            have el2 : l.labN = none := by cases l <;> first | rfl | cases c
            refine iteF ?_
            show Acc H' L _ _
            rw [et, el2]
            show Acc H' L (List.map V.str (_ ++ [])) _
            rw [List.append_nil]
            exact a
          | true =>
            have ew : l.isW = false := by cases l <;> first | rfl | cases c
            have el2 : l.labN = some l.nm := by cases l <;> first | rfl | cases c
            obtain ⟨p, rfl, hp⟩ := line_sq hl2 ew
            refine iteT ⟨.ref p, rfl, 1, rfl, p, _, -1, .str l.nm, rfl, rfl, hp, items_last l ew, _, a.d, ?_, ?_⟩
            · rw [List.length_map]
              have h1 := List.length_filterMap_le Line.labN (ls.take i)
              rw [List.length_take] at h1
              exact small1000 (by omega)
            · show Acc H' L _ _
              rw [et, el2, List.map_append]
              exact a.to
        · rw [List.take_of_length_le (Nat.le_of_eq hxl.symm)] at a2
          have s2 : Same H H2 := s1.trans a2.s
          have hb : (ls.filterMap Line.labN).length ≤ 256 := Nat.le_trans (List.length_filterMap_le _ _) hl2
          -- the test
          refine ⟨_, rfl, L, _, rfl, .inl (sqL_at a2.d), _, rfl, L, _, rfl, sqL_at a2.d, by omega, rfl, _, rfl, ?_⟩
          have ecnt : (!decide (V.int ((((ls.filterMap Line.labN).map V.str).length : Nat) : Int) = V.int ((cnt (ls.filterMap Line.labN) (ls.filterMap Line.labN).length : Nat) : Int))) = !decide (ls.filterMap Line.labN).Nodup := by
            congr 1
            rw [List.length_map]
            by_cases e : (ls.filterMap Line.labN).Nodup
            · rw [decide_eq_true e, decide_eq_true]
              rw [cnt_all.mpr e]
            · rw [decide_eq_false e, decide_eq_false]
              intro z
              injection z with z
              exact e (cnt_all.mp (by omega))
          rw [ecnt]
          have elo : labsOk ls = (decide (ls.filterMap Line.labN).Nodup && ls.all fun l => l.isW || decide (l.nm ∈ ls.filterMap Line.labN)) := rfl
          rw [elo] at h
          cases c1 : decide (ls.filterMap Line.labN).Nodup with
          | false =>
            rw [c1] at h
            rcases h with ⟨h, _⟩ | ⟨_, h⟩
            · cases h
            · exact h H2 s2
          | true =>
            rw [c1] at h
            refine iteF ?_
            refine ⟨.ref t, rfl, t, rfl, ⟨xs, s2.sqT hs⟩, fun M hM => lc_tup (xs := xs) (fun i H3 => Acc H2 M (((ls.take i).filterMap fun l => if l.isW then none else some (decide (l.nm ∈ ls.filterMap Line.labN))).map V.bl) H3) (Acc.start hM) (fun _ H3 _ a => (s2.trans a.s).sqT hs) (fun i x H3 hx a => ?_) (fun H3 a3 => ?_)⟩
            · obtain ⟨l, el, hl⟩ := hls.at_ hx
              have hl3 : LineV K H3 x l := hl.keep (keepT_same (s2.trans a.s))
              obtain ⟨ty, ht, hk⟩ := line_ty hl3
              refine ⟨rfl, x, rfl, x, .ty "tuple", _, _, _, rfl, .ty _, ht, hk, _, rfl, ?_⟩
              have et : (ls.take (i + 1)).filterMap (fun l => if l.isW then none else some (decide (l.nm ∈ ls.filterMap Line.labN))) = (ls.take i).filterMap (fun l => if l.isW then none else some (decide (l.nm ∈ ls.filterMap Line.labN))) ++ (if l.isW then none else some (decide (l.nm ∈ ls.filterMap Line.labN))).toList := by
                rw [List.take_add_one, el, List.filterMap_append]
                congr 1
              cases c : l.isW with
              | true =>
                refine iteF ?_
                show Acc H2 M _ _
                rw [et, c, if_pos rfl]
                show Acc H2 M (List.map V.bl (_ ++ [])) _
                rw [List.append_nil]
                exact a
              | false =>
                obtain ⟨p, rfl, hp⟩ := line_sq hl3 c
                refine iteT ⟨.ref p, rfl, 1, rfl, p, _, -1, .str l.nm, rfl, rfl, hp, items_last l c, _, rfl, L, _, rfl, .inl (sqL_at (a.s _ _ a2.d)), rfl, flat_strs _, _, a.d, ?_, ?_⟩
                · rw [List.length_map]
                  have h1 := List.length_filterMap_le (fun l : Line => if l.isW then none else some (decide (l.nm ∈ ls.filterMap Line.labN))) (ls.take i)
                  rw [List.length_take] at h1
                  exact small1000 (by omega)
                · show Acc H2 M _ (upd H3 M (.lst (_ ++ [.bl (inV _ _)])))
                  rw [et, c, if_neg Bool.false_ne_true, inV_strs, List.map_append]
                  exact a.to
            · rw [List.take_of_length_le (Nat.le_of_eq hxl.symm)] at a3
              refine ⟨M, _, rfl, sqL_at a3.d, _, rfl, ?_⟩
              have eA : (ls.filterMap fun l => if l.isW then none else some (decide (l.nm ∈ ls.filterMap Line.labN))).all id = ls.all fun l => l.isW || decide (l.nm ∈ ls.filterMap Line.labN) := by
                generalize ls.filterMap Line.labN = ns
                clear a3 a2 hok hrok hls hrw hl1 hl2 hxl ecnt elo h c1 hb ad eA a
                induction ls with
                | nil => rfl
                | cons l ls ih =>
                  rw [List.filterMap_cons, List.all_cons]
                  cases l.isW with
                  | true => exact ih
                  | false =>
                    show ((decide (l.nm ∈ ns)) :: List.filterMap _ ls).all id = _
                    rw [List.all_cons, ih]
                    rfl
              rw [eA]
              have s3 := s2.trans a3.s
              cases c2 : (ls.all fun l => l.isW || decide (l.nm ∈ ls.filterMap Line.labN)) with
              | true =>
                rw [c2] at h
                rcases h with ⟨_, h⟩ | ⟨h, _⟩
                · exact h H3 s3
                · cases h
              | false =>
                rw [c2] at h
                rcases h with ⟨h, _⟩ | ⟨_, h⟩
                · cases h
                · exact h H3 s3
end
end K80
set_option Elab.async false
set_option linter.all false
set_option maxRecDepth 100000
set_option maxHeartbeats 4000000
/-! Shape, require_shape, require_assembly. -/
namespace K80
open PySem PySem.Spec PyProof.Rows L2
theorem Cal.imp {P : Program} {w : World} {K : PySem.W.Frag} {mg : Str → Option Value} {base : Heap} {CX : CXT} {k : Nat} {x : Str} {ps : List Str} {sp sp' : Sp} (C : Cal P w K mg base CX k x ps sp) (h : ∀ vs H Q E, sp' vs H Q E → sp vs H Q E) : Cal P w K mg base CX k x ps sp' := by
  obtain ⟨f, fd, F, g, kp, b⟩ := C.ex
  exact ⟨f, fd, F.imp h, g, kp, b⟩
/-- a Shape object -/
def ShapeV (H : Hp) (a CS : Addr) (wd rg : Int) : Prop := ∃ dx vs, SlX.Slt H a CS dx vs ∧ vs[1]? = some (some (V.int wd)) ∧ vs[0]? = some (some (V.int rg))
theorem slt_same {H H' : Hp} {a C dx : Addr} {vs : List (Option V)} (e : Same H H') (h : SlX.Slt H a C dx vs) : SlX.Slt H' a C dx vs := by
  rcases h with ⟨h1, h2⟩ | ⟨h1, h2⟩
  · exact .inl ⟨e _ _ h1, h2⟩
  · exact .inr ⟨e _ _ h1, e _ _ h2⟩
theorem ShapeV.same {H H' : Hp} {a CS : Addr} {wd rg : Int} (e : Same H H') (h : ShapeV H a CS wd rg) : ShapeV H' a CS wd rg := by
  obtain ⟨dx, vs, h1, h2⟩ := h
  exact ⟨dx, vs, slt_same e h1, h2⟩
def shSlots (wd rg : Int) : List (Option V) := SlX.putS 0 (.int rg) (SlX.putS 1 (.int wd) [])
section
variable {P : Program} {w : World} {K : PySem.W.Frag} {mg : Str → Option Value} {base : Heap} {CS CI CL : Addr}
def regOk (rg : Int) : Prop := rg = 2 ∨ rg = 4 ∨ rg = 8
def spShapeInit (CS : Addr) : Sp := fun vs H Q _ => ∃ (a dx : Addr) (wd rg : Int), vs = [.ref a, .int wd, .int rg] ∧ H a = some (.ins CS dx []) ∧ dx ≠ a ∧ 4 ≤ wd ∧ wd ≤ 16 ∧ regOk rg ∧ Q .non (SlX.slH H a CS dx (shSlots wd rg))
theorem ok_shapeInit (T : Txt K mg CS CI CL) {f : Addr} {fd : FuncData} (F : FunD K "__init__" "Shape.__init__" (defArgs s_Shape_init) (defBody s_Shape_init) (defScope s_Shape_init) [] [] f fd) : FnOk P w K mg base CX0 3 f fd ["self", "width", "registers"] (spShapeInit CS) := by
  obtain ⟨aR, gR, sR⟩ := T.c_REGS
  obtain ⟨pr, kr⟩ := T.shape.reg
  obtain ⟨pw, kw⟩ := T.shape.wid
  refine F.ok sc_Shape_init (fun vs H Q E h => ?_) (fun cdv A outer s H vs Q E hr h => ?_)
  · obtain ⟨_, _, _, _, rfl, _⟩ := h
    rfl
  · obtain ⟨a, dx, wd, rg, rfl, ha, hne, h1, h2, h3, q⟩ := h
    suffices hh : ∃ t, PSs (cxOf CX0 P w K mg base n_Shape_init "Shape.__init__" (defScope s_Shape_init) f cdv A outer s H E).nox (defBody s_Shape_init) t ∧ t { nx := fun _ H' => Q .non H', rt := Q } (start n_Shape_init [.ref a, .int wd, .int rg]) H by
      obtain ⟨t, z1, z2⟩ := hh
      exact ⟨t, z1.nox, z2⟩
    refine ⟨_, pss_cons (ps_if (pt_not (pt_val (pe_cal (cal_is_within T) hr (by rfl) pass0 (pa_cons (pv 1) (pa_cons (pe_gl T.c_LEAST_WIDTH (by rfl)) (pa_cons (pe_gl T.c_MOST_WIDTH (by rfl)) pa_nil)))))) (pss_one ps_never) pss_nil)
      (pss_cons (ps_if (pw_or (pt_not (pt_val (pe_cal (cal_is_integer T) (hr.mono (by decide)) (by rfl) pass0 (pa_cons (pv 2) pa_nil)))) (pw_or1 (pt_cmpR (r := rIn K true) op_notIn_seq (pv 2) (pe_glob (v := .ref aR) (by rfl) gR rfl) rfl))).pt (pss_one ps_never) pss_nil)
      (pss_cons (SlX.ps_sl (pv 0) (pv 1)) (pss_one (SlX.ps_sl (pv 0) (pv 2))))), ?_⟩
    refine ⟨.int wd, rfl, .int wd, 4, 16, rfl, .inl ⟨wd, rfl, _, rfl, ?_⟩⟩
    rw [decide_eq_true h1, decide_eq_true h2]
    refine iteF ⟨.int rg, rfl, .int rg, "int", true, false, rfl, .base (.int rg), by decide +kernel, by decide +kernel, _, rfl, ?_⟩
    refine iteF ⟨.int rg, rfl, aR, _, rfl, .inr (sR _), rfl, rfl, _, rfl, ?_⟩
    have ein : (!inV (.int rg) [.int 2, .int 4, .int 8]) = false := by
      rcases h3 with rfl | rfl | rfl <;> decide
    show if (!inV (.int rg) [.int 2, .int 4, .int 8]) = true then _ else _
    rw [ein]
    refine iteF ⟨.int wd, rfl, .ref a, rfl, a, CS, dx, pw, [], 1, rfl, .inl ⟨ha, rfl⟩, T.shape.cls, kw, ?_⟩
    refine ⟨.int rg, rfl, .ref a, rfl, a, CS, dx, pr, _, 0, rfl, SlX.slH_slt hne, T.shape.cls, kr, ?_⟩
    rw [SlX.slH_twice hne]
    exact q
end
def tShape (CS : Addr) (t : TA) : TE := fun σ H Q => t σ H fun vs H1 => ∃ wd rg : Int, vs = [.int wd, .int rg] ∧ 4 ≤ wd ∧ wd ≤ 16 ∧ regOk rg ∧ ∀ x H2, H1 x = none → Same H1 H2 → ShapeV H2 x CS wd rg → Q (.ref x) H2
section
variable {X : Cx} {CS CI CL : Addr} {p pos : Pos} {e : Expr} {es : List Expr} {t : TA}
theorem pe_shape (T : Txt X.K X.mg CS CI CL) (hr : Room 4 X.A) (hg : Gl X "Shape") (ha : PA X (e :: es) t) (mono : ∀ σ H Q Q', (∀ vs H1, Q vs H1 → Q' vs H1) → t σ H Q → t σ H Q') (he : starEach (e :: es) X.env = (false, eval e X.env) :: starEach es X.env := by rfl) (hpl : (backTo pos (starEach es X.env)).any (·.1) = false := by rfl) :
    PE X (.Call (.Name "Shape" p) (e :: es) [] pos) (tShape CS t) := by
  obtain ⟨f, fd, F, M⟩ := T.shape.ini
  have b : Binds X.K fd ["self", "width", "registers"] [] := F.bindsN fun _ _ _ _ _ _ us hl => match us, hl with | [_, _, _], _ => rfl
  have h := pe_make (p := p) (pos := pos) (dvs := []) (E := E0) M (ok_shapeInit (P := X.prog) (w := X.w) (base := X.base) T F) hr hg T.shape.g b .nil pass0 ha (by decide) he hpl
  refine ⟨fun pins s σ H Q I hh => h.run pins s σ H Q I ?_⟩
  refine mono σ H _ _ (fun vs H1 q => ?_) hh
  obtain ⟨wd, rg, rfl, h1, h2, h3, q⟩ := q
  intro x dx nx ndx nex
  have hdx : dx ≠ x := nex
  refine ⟨x, dx, wd, rg, rfl, upd_same, hdx, h1, h2, h3, rfl, ?_⟩
  refine q x _ nx (fun b o hb => ?_) ?_
  · have nb : b ≠ x := ne_of_none hb nx
    have nb2 : b ≠ dx := ne_of_none hb ndx
    rw [SlX.slH_ne nb nb2, upd_ne nb, upd_ne nb2]
    exact hb
  · exact ⟨dx, _, SlX.slH_slt hdx, rfl, rfl⟩
end
section
variable {P : Program} {w : World} {K : PySem.W.Frag} {mg : Str → Option Value} {base : Heap} {CS CI CL : Addr}
def BadS (K : PySem.W.Frag) (CS : Addr) (H : Hp) (v : V) : Prop := ∃ t : String, TyX K H v (.type t) ∧ PySem.W.kitOne K (.type t) (.ref CS) = some false
def spRequireShape (K : PySem.W.Frag) (CS CI : Addr) : Sp := fun vs H Q E => ∃ v : V, vs = [v] ∧ ((BadS K CS H v ∧ E (.ref CI) none H) ∨ (∃ (a : Addr) (wd rg : Int), v = .ref a ∧ ShapeV H a CS wd rg ∧ Q .non H))
theorem cal_require_shape (T : Txt K mg CS CI CL) : Cal P w K mg base (L2.CX P w) 1 "require_shape" ["shape"] (spRequireShape K CS CI) := by
  refine T.d_require_shape.calX sc_require_shape (fun vs H Q E h => ?_) (fun _ _ _ _ _ _ us hl => match us, hl with | [_], _ => rfl) (fun f cdv A outer s H vs Q E hr h => ?_)
  · obtain ⟨v, rfl, _⟩ := h
    rfl
  · obtain ⟨v, rfl, h⟩ := h
    refine ⟨_, pss_one (ps_if (pt_not (pt_val (pe_callB (CallR.or call_isi (SlX.call_isiSl (.ref CS))) (by rfl) T.b.isinstance boot_isinstance (pa_cons (pv 0) (pa_cons (pe_glob (v := .ref CS) (by rfl) T.shape.g rfl) pa_nil)))))
      (pss_one (ps_raiseOwn T.invS rfl (takes_of rfl rfl rfl rfl) rfl)) pss_nil), ?_⟩
    rcases h with ⟨⟨t, ht, hk⟩, q⟩ | ⟨a, wd, rg, rfl, ⟨dx, vs, hs, _⟩, q⟩
    · exact ⟨v, rfl, .inl ⟨v, .ref CS, _, _, false, rfl, .own CS, ht, hk, false, rfl, q⟩⟩
    · exact ⟨.ref a, rfl, .inr ⟨a, CS, dx, vs, .ref CS, true, rfl, rfl, fun w h => h, hs, T.shape.cls, T.shape.isi, T.shape.own, true, rfl, q⟩⟩
/-! ### good and bad lines -/
def GoodL (K : PySem.W.Frag) (H : Hp) (v : V) (ls : List Line) : Prop := ∃ t : Addr, v = .ref t ∧ LinesT K H t ls ∧ 1 ≤ ls.length ∧ ls.length ≤ 256 ∧ ls.all okLine = true ∧ labsOk ls = true
def BadL (K : PySem.W.Frag) (H : Hp) (v : V) : Prop :=
  (∃ t, TyX K H v (.type t) ∧ kitB t "tuple" = some false) ∨
   (∃ (t : Addr) (xs : List V), v = .ref t ∧ SqT K H t xs ∧ ¬ (1 ≤ xs.length ∧ xs.length ≤ 256)) ∨
   (∃ (t : Addr) (xs : List V) (rs : List Raw), v = .ref t ∧ SqT K H t xs ∧ 1 ≤ xs.length ∧ xs.length ≤ 256 ∧ RawsV K H xs rs ∧ rs.all rawOk = false) ∨
   (∃ (t : Addr) (ls : List Line), v = .ref t ∧ LinesT K H t ls ∧ 1 ≤ ls.length ∧ ls.length ≤ 256 ∧ ls.all okLine = true ∧ labsOk ls = false)
theorem GoodL.same {H H' : Hp} {v : V} {ls : List Line} (e : Same H H') (h : GoodL K H v ls) : GoodL K H' v ls := by
  obtain ⟨t, a, b, c⟩ := h
  exact ⟨t, a, b.same e, c⟩
def ReqL (K : PySem.W.Frag) (CL : Addr) (v : V) (H : Hp) (Q : VK) (E : XK) : Prop := (BadL K H v ∧ ∀ H', Same H H' → E (.ref CL) none H') ∨ ∃ ls, GoodL K H v ls ∧ ∀ H', Same H H' → Q .non H'
theorem cal_require_lines2 (T : Txt K mg CS CI CL) : Cal P w K mg base (L2.CX P w) 5 "require_lines" ["lines"] (fun vs H Q E => ∃ v : V, vs = [v] ∧ ReqL K CL v H Q E) :=
  (cal_require_lines T).imp fun vs H Q E h => by
    obtain ⟨v, e, h⟩ := h
    refine ⟨v, e, ?_⟩
    rcases h with ⟨h, q⟩ | ⟨ls, ⟨t, h1, h2, h3, h4, h5, h6⟩, q⟩
    · rcases h with ⟨t, h1, h2⟩ | ⟨t, xs, h1, h2, h3⟩ | ⟨t, xs, rs, h1, h2, h3, h4, h5, h6⟩ | ⟨t, ls, h1, h2, h3, h4, h5, h6⟩
      · exact .inl ⟨t, h1, h2, q H (Same.refl H)⟩
      · exact .inr (.inl ⟨t, xs, h1, h2, h3, q H (Same.refl H)⟩)
      · exact .inr (.inr (.inl ⟨t, xs, rs, h1, h2, h3, h4, h5, h6, q⟩))
      · exact .inr (.inr (.inr ⟨t, ls, h1, h2, h3, h4, h5, .inr ⟨h6, q⟩⟩))
    · exact .inr (.inr (.inr ⟨t, ls, h1, h2, h3, h4, h5, .inl ⟨h6, q⟩⟩))
/-- what the three public defs ask of their arguments -/
def ReqA (K : PySem.W.Frag) (CS CI CL : Addr) (v l : V) (H : Hp) (Q : Int → Int → List Line → Prop) (E : XK) : Prop :=
  (BadS K CS H v ∧ E (.ref CI) none H) ∨ ((∃ (a : Addr) (wd rg : Int), v = .ref a ∧ ShapeV H a CS wd rg) ∧ BadL K H l ∧ ∀ H', Same H H' → E (.ref CL) none H') ∨
  (∃ (a : Addr) (wd rg : Int) (ls : List Line), v = .ref a ∧ ShapeV H a CS wd rg ∧ GoodL K H l ls ∧ Q wd rg ls)
def spReqA (K : PySem.W.Frag) (CS CI CL : Addr) : Sp := fun vs H Q E => ∃ v l : V, vs = [v, l] ∧ ReqA K CS CI CL v l H (fun _ _ _ => ∀ H', Same H H' → Q .non H') E
theorem cal_require_assembly (T : Txt K mg CS CI CL) : Cal P w K mg base (L2.CX P w) 6 "require_assembly" ["shape", "lines"] (spReqA K CS CI CL) := by
  refine T.d_require_assembly.calX sc_require_assembly (fun vs H Q E h => ?_) (fun _ _ _ _ _ _ us hl => match us, hl with | [_, _], _ => rfl) (fun f cdv A outer s H vs Q E hr h => ?_)
  · obtain ⟨v, l, rfl, _⟩ := h
    rfl
  · obtain ⟨v, l, rfl, h⟩ := h
    refine ⟨_, pss_cons (ps_expr (pe_cal (cal_require_shape T) (hr.mono (by decide)) (by rfl) (passes_call (takes_of rfl rfl rfl rfl) (fun _ _ _ _ h => h)) (pa_cons (pv 0) pa_nil)))
      (pss_one (ps_expr (pe_cal (cal_require_lines2 T) hr (by rfl) (passes_call (takes_of rfl rfl rfl rfl) (fun _ _ _ _ h => h)) (pa_cons (pv 1) pa_nil)))), ?_⟩
    rcases h with ⟨hb, q⟩ | ⟨⟨a, wd, rg, rfl, hs⟩, hb, q⟩ | ⟨a, wd, rg, ls, rfl, hs, hg, q⟩
    · exact ⟨v, rfl, v, rfl, .inl ⟨hb, q⟩⟩
    · exact ⟨.ref a, rfl, .ref a, rfl, .inr ⟨a, wd, rg, rfl, hs, l, rfl, l, rfl, .inl ⟨hb, q⟩⟩⟩
    · exact ⟨.ref a, rfl, .ref a, rfl, .inr ⟨a, wd, rg, rfl, hs, l, rfl, l, rfl, .inr ⟨ls, hg, q⟩⟩⟩
end
end K80
set_option Elab.async false
set_option linter.all false
set_option maxRecDepth 100000
set_option maxHeartbeats 4000000
/-! line_places, label_table, and the law's. -/
namespace K80
open PySem PySem.Spec PyProof.Rows L2
theorem walk_enumT {K : PySem.W.Frag} {a : Addr} {xs : List V} : Walk (IteT K a) xs.length (fun H => SqT K H a xs) (YPair (fun i => some (.int (i : Nat))) (fun i => xs[i]?)) := by
  refine ⟨fun i _ hi q => ⟨xs, xs[i], q, by simp [hi]⟩, fun _ q => ⟨xs, q, Nat.le_refl _⟩, fun i H v H' _ q y => ?_⟩
  obtain ⟨T, x, h1, h2, h3, h4⟩ := y
  exact ⟨T, .int (i : Nat), x, h1, h2, h3, rfl, h4 xs q⟩
theorem dc_it {J : It} {n : Nat} {G : Hp → Prop} {Y : Nat → Hp → V → Hp → Prop} (w : Walk J n G Y) {g : TG} {tt : TT} {tk tv : TE} {vs : List Nat} {σ : L2.St} {H1 : Hp} {D : Addr} {Qd : Hp → Prop} (Pv : Nat → Hp → Prop) (h0 : Pv 0 (upd H1 D (.dK []))) (hG : ∀ i H, i ≤ n → Pv i H → G H)
    (hs : ∀ i x H H', i < n → Pv i H → Y i H x H' → g x (wipe σ vs) H' fun σ2 H2 => wipe σ2 vs = wipe σ vs ∧ tt σ2 H2 fun b H3 =>
      if b = true then tk σ2 H3 fun y H4 => tv σ2 H4 fun z H5 => ∃ kvs k, y = kV k ∧ H5 D = some (.dK kvs) ∧ kvs.length < sizeLine ∧ Pv (i + 1) (upd H5 D (.dK (putK kvs k z))) else Pv (i + 1) H3) (hd : ∀ H, Pv n H → Qd H) :
    ∃ W : Nat → Nat → Hp → Prop, (∃ m, W 0 m (upd H1 D (.dK []))) ∧ ∀ i m H, W i m H →
      (J.stop i H ∧ Qd H) ∨ (J.go i H ∧ ∃ Nx : Hp → Prop, (∀ H', Nx H' → ∃ m', m' < m ∧ W (i + 1) m' H') ∧ ∀ x H', J.yld i H x H' → g x (wipe σ vs) H' fun σ2 H2 => wipe σ2 vs = wipe σ vs ∧ tt σ2 H2 fun b H3 =>
        if b = true then tk σ2 H3 fun y H4 => tv σ2 H4 fun z H5 => ∃ kvs k, y = kV k ∧ H5 D = some (.dK kvs) ∧ kvs.length < sizeLine ∧ Nx (upd H5 D (.dK (putK kvs k z))) else Nx H3) := by
  refine ⟨fun i m H => m = n - i ∧ i ≤ n ∧ Pv i H, ⟨n, by simp, Nat.zero_le _, h0⟩, ?_⟩
  rintro i m H ⟨rfl, hi, p⟩
  have q := hG i H hi p
  by_cases hlt : i < n
  · refine .inr ⟨w.goes i H hlt q, Pv (i + 1), fun H' p' => ⟨n - (i + 1), by omega, rfl, hlt, p'⟩, fun x H' y => hs i x H H' hlt p (w.yields i H x H' hlt q y)⟩
  · have e : i = n := by omega
    subst e
    exact .inl ⟨w.stops H q, hd H p⟩
/-- a new dict at D holds kvs, all else of H1 is as it was -/
structure AccD (H1 : Hp) (D : Addr) (kvs : List (Key × V)) (H : Hp) : Prop where
  n : H1 D = none
  s : Same H1 H
  d : H D = some (.dK kvs)
theorem AccD.start {H1 : Hp} {D : Addr} (n : H1 D = none) : AccD H1 D [] (upd H1 D (.dK [])) := ⟨n, same_upd n, upd_same⟩
theorem AccD.same {H1 H H' : Hp} {D : Addr} {ys : List (Key × V)} (a : AccD H1 D ys H) (e : Same H H') : AccD H1 D ys H' := ⟨a.n, a.s.trans e, e _ _ a.d⟩
theorem AccD.to {H1 H : Hp} {D : Addr} {ys zs : List (Key × V)} (a : AccD H1 D ys H) : AccD H1 D zs (upd H D (.dK zs)) := ⟨a.n, fun b o h => by
  have q := a.s b o h
  rw [upd_ne (ne_of_none h a.n)]
  exact q, upd_same⟩
/-! ### values -/
def natV (i : Nat) : V := .int (i : Nat)
def FarV (K : PySem.W.Frag) (H : Hp) (v : V) (far : List Nat) : Prop := ∃ p, v = .ref p ∧ (SqL K H p (far.map natV) ∨ SqT K H p (far.map natV))
theorem FarV.same {K : PySem.W.Frag} {H H' : Hp} {v : V} {far : List Nat} (e : Same H H') (h : FarV K H v far) : FarV K H' v far := by
  obtain ⟨p, rfl, q⟩ := h
  exact ⟨p, rfl, q.imp e.seq e.sqT⟩
theorem flat_nats (far : List Nat) : (far.map natV).all flatV = true := by
  rw [List.all_map, List.all_eq_true]
  intro y _
  rfl
theorem inV_nats (i : Nat) (far : List Nat) : inV (natV i) (far.map natV) = decide (i ∈ far) := by
  unfold inV
  rw [List.any_map]
  induction far with
  | nil => rfl
  | cons y ys ih =>
    rw [List.any_cons, ih]
    show (((y : Int) == (i : Int)) || _) = _
    by_cases e : i = y
    · subst e
      rw [beq_self_eq_true, Bool.true_or, decide_eq_true List.mem_cons_self]
    · rw [beq_eq_false_iff_ne.mpr (fun z => e (by omega)), Bool.false_or]
      by_cases m : i ∈ ys
      · rw [decide_eq_true m, decide_eq_true (List.mem_cons_of_mem _ m)]
      · rw [decide_eq_false m, decide_eq_false (fun z => by rcases List.mem_cons.mp z with z | z; exact e z; exact m z)]
/-- the places ahead of line i -/
def plTo (ls : List Line) (far : List Nat) (i : Nat) : List V := (List.range i).map fun j => natV (pos ls far j)
theorem plTo_succ (ls : List Line) (far : List Nat) (i : Nat) : plTo ls far (i + 1) = plTo ls far i ++ [natV (pos ls far i)] := by
  unfold plTo
  rw [List.range_succ, List.map_append]
  rfl
theorem plTo_len (ls : List Line) (far : List Nat) (i : Nat) : (plTo ls far i).length = i := by
  unfold plTo
  rw [List.length_map, List.length_range]
theorem plTo_get (ls : List Line) (far : List Nat) {i j : Nat} (h : j < i) : (plTo ls far i)[j]? = some (natV (pos ls far j)) := by
  unfold plTo
  rw [List.getElem?_map, List.getElem?_range h]
  rfl
def placesV (ls : List Line) (far : List Nat) : List V := plTo ls far (ls.length + 1)
def tabTo (ls : List Line) (far : List Nat) (n : Nat) : List (Key × V) := (labsTo ls far n).map fun q => (Sum.inr q.1, natV q.2)
def tabV (ls : List Line) (far : List Nat) : List (Key × V) := tabTo ls far ls.length
theorem tabTo_succ (ls : List Line) (far : List Nat) (n : Nat) : tabTo ls far (n + 1) = tabTo ls far n ++ (match ls[n]? with | some (.lab x) => [(Sum.inr x, natV (pos ls far n))] | _ => []) := by
  unfold tabTo
  rw [labsTo_succ, List.map_append]
  congr 1
  cases ls[n]? with
  | none => rfl
  | some l => cases l <;> rfl
theorem tabTo_keys (ls : List Line) (far : List Nat) {n : Nat} (h : n ≤ ls.length) : (tabTo ls far n).map (·.1) = ((ls.take n).filterMap Line.labN).map Sum.inr := by
  rw [← take_labs ls far n h]
  unfold tabTo
  rw [List.map_map, List.map_map]
  rfl
theorem tabTo_len (ls : List Line) (far : List Nat) {n : Nat} (h : n ≤ ls.length) : (tabTo ls far n).length ≤ n := by
  have e := congrArg List.length (tabTo_keys ls far h)
  rw [List.length_map, List.length_map] at e
  rw [e]
  have h1 := List.length_filterMap_le Line.labN (ls.take n)
  rw [List.length_take] at h1
  omega
theorem valV_none {kvs : List (Key × V)} {k : Key} (h : k ∉ kvs.map (·.1)) : valV kvs k = none := by
  unfold valV
  rw [List.find?_eq_none.mpr]
  · rfl
  · intro p hp
    rw [decide_eq_true_eq]
    intro e
    exact h (List.mem_map.mpr ⟨p, hp, e⟩)
theorem valV_mem : ∀ {kvs : List (Key × V)} {k : Key} {v : V}, (kvs.map (·.1)).Nodup → (k, v) ∈ kvs → valV kvs k = some v
  | [], _, _, _, h => by cases h
  | p :: r, k, v, hn, h => by
    rw [List.map_cons] at hn
    obtain ⟨h1, h2⟩ := List.nodup_cons.mp hn
    rcases List.mem_cons.mp h with e | hm
    · subst e
      exact valV_pos rfl
    · have : ¬ p.1 = k := fun e => h1 (e ▸ List.mem_map.mpr ⟨_, hm, rfl⟩)
      rw [valV_neg this]
      exact valV_mem h2 hm
theorem labs_nd {ls : List Line} (h : labsOk ls = true) : (ls.filterMap Line.labN).Nodup := of_decide_eq_true (Bool.and_eq_true_iff.mp h).1
theorem labs_has {ls : List Line} (h : labsOk ls = true) {i : Nat} {l : Line} (e : ls[i]? = some l) (n : l.isW = false) : l.nm ∈ ls.filterMap Line.labN := by
  have := List.all_eq_true.mp (Bool.and_eq_true_iff.mp h).2 l (List.mem_of_getElem? e)
  rw [n, Bool.false_or] at this
  exact of_decide_eq_true this
theorem inr_nd {ys : List Str} (h : ys.Nodup) : (ys.map (Sum.inr : Str → Key)).Nodup := by
  induction ys with
  | nil => exact List.nodup_nil
  | cons y ys ih =>
    obtain ⟨h1, h2⟩ := List.nodup_cons.mp h
    rw [List.map_cons]
    refine List.nodup_cons.mpr ⟨fun z => ?_, ih h2⟩
    obtain ⟨u, hu, e⟩ := List.mem_map.mp z
    injection e with e
    exact h1 (e ▸ hu)
theorem tabV_get {ls : List Line} (far : List Nat) (h : labsOk ls = true) {x : Str} (hx : x ∈ ls.filterMap Line.labN) : valV (tabV ls far) (Sum.inr x) = some (natV (pos ls far (labIx ls x))) := by
  have e := labIx_at hx
  have hi := (List.getElem?_eq_some_iff.mp e).1
  refine valV_mem ?_ (List.mem_map.mpr ⟨_, mem_labs hi e, rfl⟩)
  show ((tabTo ls far ls.length).map (·.1)).Nodup
  rw [tabTo_keys ls far (Nat.le_refl _), List.take_of_length_le (Nat.le_refl _)]
  exact inr_nd (labs_nd h)
/-- a label's entry is put behind the others -/
theorem tab_put {ls : List Line} (far : List Nat) (h : labsOk ls = true) {i : Nat} {x : Str} (e : ls[i]? = some (.lab x)) : putK (tabTo ls far i) (Sum.inr x) (natV (pos ls far i)) = tabTo ls far (i + 1) := by
  have hi := (List.getElem?_eq_some_iff.mp e).1
  have hn : (Sum.inr x : Key) ∉ (tabTo ls far i).map (·.1) := by
    rw [tabTo_keys ls far (by omega)]
    intro z
    obtain ⟨u, hu, eu⟩ := List.mem_map.mp z
    injection eu with eu
    subst eu
    obtain ⟨l, hl, el⟩ := List.mem_filterMap.mp hu
    obtain ⟨j, hj, ej⟩ := List.mem_iff_getElem.mp hl
    have eLb : l = .lab u := by cases l <;> first | (injection el with el; rw [el]) | cases el
    rw [List.length_take] at hj
    have ej2 : ls[j]? = some (.lab u) := by
      rw [List.getElem_take] at ej
      rw [List.getElem?_eq_getElem (by omega), ej, eLb]
    have h1 := labIx_uniq (labs_nd h) ej2
    have h2 := labIx_uniq (labs_nd h) e
    omega
  rw [putK_new _ (valV_none hn), tabTo_succ, e]
theorem tab_skip {ls : List Line} (far : List Nat) {i : Nat} {l : Line} (e : ls[i]? = some l) (n : l.isLab = false) : tabTo ls far (i + 1) = tabTo ls far i := by
  rw [tabTo_succ, e]
  cases l <;> first | exact List.append_nil _ | cases n
theorem pos_succ (ls : List Line) (far : List Nat) {i : Nat} {l : Line} (e : ls[i]? = some l) : pos ls far (i + 1) = pos ls far i + (if i ∈ far then 4 else if l.isLab then 0 else 1) := by
  show pos ls far i + sz ls far i = _
  unfold sz
  rw [e]
  congr 1
  by_cases h : i ∈ far
  · rw [if_pos h, if_pos h]
  · rw [if_neg h, if_neg h]
    cases l <;> rfl
section
variable {K : PySem.W.Frag} {H : Hp} {v : V} {l : Line} {σ : L2.St} {Q : VK} {i : Nat}
/-- isinstance(line, tuple) and line[0] == 'label', its reading -/
theorem rd_lab (hv : LineV K H v l) (hs : σ[i]? = some (some v)) (q : Q (.bl l.isLab) H) :
    tAndV (tCB (rIsi K) (tCons (tVar i) (tCons (tC (.ty "tuple")) tNil))) (tOp rEq (tOp (rIxT K) (tVar i) (tC (.int 0))) (tC (.str "label"))) σ H Q := by
  obtain ⟨t, ht, hk⟩ := line_ty hv
  refine ⟨_, hs, v, .ty "tuple", _, _, _, rfl, .ty _, ht, hk, _, rfl, ?_⟩
  cases c : l.isW with
  | true =>
    have : l.isLab = false := by cases l <;> first | rfl | cases c
    rw [this] at q
    exact q
  | false =>
    obtain ⟨p, rfl, hp⟩ := line_sq hv c
    refine ⟨.ref p, hs, p, _, 0, _, rfl, rfl, hp, items_head l c, rfl, ?_⟩
    rw [head_lab l c]
    exact q
theorem rd_labT {Q : Bool → Hp → Prop} (hv : LineV K H v l) (hs : σ[i]? = some (some v)) (q : Q l.isLab H) :
    tAnd (tB (tCB (rIsi K) (tCons (tVar i) (tCons (tC (.ty "tuple")) tNil)))) (tTest (tOp rEq (tOp (rIxT K) (tVar i) (tC (.int 0))) (tC (.str "label")))) σ H Q := by
  obtain ⟨t, ht, hk⟩ := line_ty hv
  refine ⟨_, hs, v, .ty "tuple", _, _, _, rfl, .ty _, ht, hk, _, rfl, ?_⟩
  cases c : l.isW with
  | true =>
    have : l.isLab = false := by cases l <;> first | rfl | cases c
    rw [this] at q
    exact q
  | false =>
    obtain ⟨p, rfl, hp⟩ := line_sq hv c
    refine ⟨.ref p, hs, p, _, 0, _, rfl, rfl, hp, items_head l c, rfl, ?_⟩
    rw [head_lab l c]
    exact ⟨_, rfl, q⟩
end
/-! ### line_places, _law_places -/
section
variable {P : Program} {w : World} {K : PySem.W.Frag} {mg : Str → Option Value} {base : Heap} {CS CI CL : Addr}
def spPlaces (K : PySem.W.Frag) : Sp := fun vs H Q _ => ∃ (t : Addr) (fv : V) (ls : List Line) (far : List Nat), vs = [.ref t, fv] ∧ LinesT K H t ls ∧ FarV K H fv far ∧ ls.length ≤ 256 ∧ ∀ p H', Same H H' → H p = none → H' p = some (.lst (placesV ls far)) → Q (.ref p) H'
theorem cal_line_places (T : Txt K mg CS CI CL) : Cal P w K mg base CX0 2 "line_places" ["lines", "far"] (spPlaces K) := by
  refine T.d_line_places.cal0 sc_line_places (fun vs H Q E h => ?_) (fun _ _ _ _ _ _ us hl => match us, hl with | [_, _], _ => rfl) (fun f cdv A outer s H vs Q E hr h => ?_)
  · obtain ⟨_, _, _, _, rfl, _⟩ := h
    rfl
  · obtain ⟨t, fv, ls, far, rfl, ⟨xs, hs, hls⟩, hf, hlen, q⟩ := h
    refine ⟨_, pss_cons (ps_set (i := 2) sc_line_places.nd rfl (.inl rfl) (pe_lst (pa_cons pe_int pa_nil)))
      (pss_cons (ps_for PassesOwn.never rfl (pi_enumT (by rfl) T.b.enumerate (pa_cons (pv 0) pa_nil)) (pg_tup rfl (pgs_cons (pg_name (i := 3) sc_line_places.nd rfl (.inl rfl)) (pgs_cons (pg_name (i := 4) sc_line_places.nd rfl (.inl rfl)) pgs_nil)))
        (pss_cons (ps_set (i := 5) sc_line_places.nd rfl (.inl rfl) (pe_ifExp (pt_cmpR (r := rIn K false) op_in_seq (pv 3) (pv 1) rfl) (pe_gl T.c_FAR_SIZE (by rfl)) (pe_ifExp (pt_val (pe_cal (cal_is_label T) hr (by rfl) pass0 (pa_cons (pv 4) pa_nil))) pe_int pe_int)))
        (pss_one (ps_expr (pe_bm PySem.F.plainAttrs_list PySem.F.slot_list_append PySem.F.type_list_append mt_append (pv 2) (pa_cons (pe_op op_add (pe_ix ix_list (pv 2) (pe_un un_neg pe_int) (fun _ _ => rfl)) (pv 5)) pa_nil))))))
      (pss_one (ps_ret (pv 2)))), ?_⟩
    refine ⟨by show 1 ≤ sizeLine; decide, fun o no => ?_⟩
    have s1 := same_upd (o := .lst [.int 0]) no
    refine ⟨.ref t, rfl, t, xs, rfl, s1.sqT hs, for_it (walk_enumT (xs := xs)) (fun i σ H' => ∃ y3 y4 y5, σ = [some (.ref t), some fv, some (.ref o), y3, y4, y5] ∧ Acc H o (plTo ls far (i + 1)) H') ⟨none, none, none, rfl, Acc.start' no⟩ (fun i σ H' _ h => ?_) (fun i x σ H1 H2 hi h y => ?_) (fun σ H' h => ?_)⟩
    · obtain ⟨_, _, _, _, a⟩ := h
      exact a.s.sqT hs
    · obtain ⟨y3, y4, y5, rfl, a⟩ := h
      obtain ⟨U, i', x', rfl, nU, rfl, e1, hx⟩ := y
      injection e1 with e1
      subst e1
      have a2 := a.same (same_upd (o := .tup [.int (i : Nat), x']) nU)
      obtain ⟨l, el, hl⟩ := hls.at_ hx
      have hl2 : LineV K _ x' l := hl.keep (keepT_same a2.s)
      obtain ⟨pf, rfl, hf2⟩ := hf.same a2.s
      refine ⟨U, _, rfl, sqT_at upd_same, rfl, _, _, rfl, _, _, rfl, rfl, ?_⟩
      refine ⟨_, rfl, _, rfl, pf, _, rfl, hf2, rfl, flat_nats far, _, rfl, ?_⟩
      have ein : inV (.int (i : Nat)) (far.map natV) = decide (i ∈ far) := inV_nats i far
      have fin : ∀ k : Int, k = (if i ∈ far then 4 else if l.isLab then 0 else 1 : Nat) → ∃ y3 y4 y5, ((([some (V.ref t), some (.ref pf), some (.ref o), some (.int (i : Nat)), some x', some (.int k)] : L2.St))) = [some (.ref t), some (.ref pf), some (.ref o), y3, y4, y5] ∧
          Acc H o (plTo ls far (i + 1 + 1)) (upd (upd H1 U (.tup [.int (i : Nat), x'])) o (.lst (plTo ls far (i + 1) ++ [.int ((pos ls far i : Nat) + k)]))) := fun k ek => by
        refine ⟨_, _, _, rfl, ?_⟩
        have : plTo ls far (i + 1 + 1) = plTo ls far (i + 1) ++ [.int ((pos ls far i : Nat) + k)] := by
          rw [plTo_succ, pos_succ ls far el, ek]
          unfold natV
          rw [Int.natCast_add]
        rw [this]
        exact a2.to
      show if (inV (.int (i : Nat)) (far.map natV)) = true then _ else _
      rw [ein]
      by_cases c : i ∈ far
      · rw [decide_eq_true c]
        refine iteT ⟨.ref o, rfl, .inl ⟨rfl, _, sqL_at a2.d⟩, .ref o, rfl, 1, rfl, o, _, -1, natV (pos ls far i), rfl, rfl, sqL_at a2.d, by rw [plTo_succ]; exact atI_last _ _, .int 4, rfl, (pos ls far i : Nat), 4, rfl, rfl, o, _, _, rfl, rfl, a2.d, by rw [plTo_len]; exact small1000 (by have := (List.getElem?_eq_some_iff.mp el).1; omega), fin 4 ?_⟩
        rw [if_pos c]; rfl
      · rw [decide_eq_false c]
        refine iteF ⟨x', rfl, x', l, rfl, hl2, _, rfl, ?_⟩
        cases c2 : l.isLab with
        | true =>
          refine iteT ⟨.ref o, rfl, .inl ⟨rfl, _, sqL_at a2.d⟩, .ref o, rfl, 1, rfl, o, _, -1, natV (pos ls far i), rfl, rfl, sqL_at a2.d, by rw [plTo_succ]; exact atI_last _ _, .int 0, rfl, (pos ls far i : Nat), 0, rfl, rfl, o, _, _, rfl, rfl, a2.d, by rw [plTo_len]; exact small1000 (by have := (List.getElem?_eq_some_iff.mp el).1; omega), fin 0 ?_⟩
          rw [if_neg c, c2]; rfl
        | false =>
          refine iteF ⟨.ref o, rfl, .inl ⟨rfl, _, sqL_at a2.d⟩, .ref o, rfl, 1, rfl, o, _, -1, natV (pos ls far i), rfl, rfl, sqL_at a2.d, by rw [plTo_succ]; exact atI_last _ _, .int 1, rfl, (pos ls far i : Nat), 1, rfl, rfl, o, _, _, rfl, rfl, a2.d, by rw [plTo_len]; exact small1000 (by have := (List.getElem?_eq_some_iff.mp el).1; omega), fin 1 ?_⟩
          rw [if_neg c, c2]; rfl
    · obtain ⟨y3, y4, y5, rfl, a⟩ := h
      rw [hls.1] at a
      exact ⟨_, rfl, q o H' a.s no a.d⟩
end
end K80
set_option Elab.async false
set_option linter.all false
set_option maxRecDepth 100000
set_option maxHeartbeats 4000000
/-! _law_places, label_table, _law_label_table. -/
namespace K80
open PySem PySem.Spec PyProof.Rows L2
section
variable {P : Program} {w : World} {K : PySem.W.Frag} {mg : Str → Option Value} {base : Heap} {CS CI CL : Addr}
theorem cal_Lplaces (T : Txt K mg CS CI CL) : Cal P w K mg base CX0 2 "_law_places" ["_law_lines", "_law_far"] (spPlaces K) := by
  refine T.d_Lplaces.cal0 sc_Lplaces (fun vs H Q E h => ?_) (fun _ _ _ _ _ _ us hl => match us, hl with | [_, _], _ => rfl) (fun f cdv A outer s H vs Q E hr h => ?_)
  · obtain ⟨_, _, _, _, rfl, _⟩ := h
    rfl
  · obtain ⟨t, fv, ls, far, rfl, ⟨xs, hs, hls⟩, hf, hlen, q⟩ := h
    refine ⟨_, pss_cons (ps_set (i := 2) sc_Lplaces.nd rfl (.inl rfl) (pe_lst (pa_cons pe_int pa_nil)))
      (pss_cons (ps_for PassesOwn.never rfl (pi_enumT (by rfl) T.b.enumerate (pa_cons (pv 0) pa_nil)) (pg_tup rfl (pgs_cons (pg_name (i := 3) sc_Lplaces.nd rfl (.inl rfl)) (pgs_cons (pg_name (i := 4) sc_Lplaces.nd rfl (.inl rfl)) pgs_nil)))
        (pss_cons (ps_set (i := 5) sc_Lplaces.nd rfl (.inl rfl) (pe_and (pe_callB (r := rIsi K) call_isi (by rfl) T.b.isinstance boot_isinstance (pa_cons (pv 4) (pa_cons (pe_bltn (v := .ty "tuple") (by rfl) T.b.tuple boot_tuple rfl) pa_nil))) (pe_one (pe_cmpR op_eq (pe_ix (r := rIxT K) ix_tup (pv 4) pe_int (fun _ _ => rfl)) pe_str (nomark _)))))
        (pss_one (ps_expr (pe_bm PySem.F.plainAttrs_list PySem.F.slot_list_append PySem.F.type_list_append mt_append (pv 2) (pa_cons (pe_op op_add (pe_ix ix_list (pv 2) (pe_un un_neg pe_int) (fun _ _ => rfl)) (pe_ifExp (pt_cmpR (r := rIn K false) op_in_seq (pv 3) (pv 1) rfl) pe_int (pe_ifExp (pt_val (pv 5)) pe_int pe_int))) pa_nil))))))
      (pss_one (ps_ret (pv 2)))), ?_⟩
    refine ⟨by show 1 ≤ sizeLine; decide, fun o no => ?_⟩
    have s1 := same_upd (o := .lst [.int 0]) no
    refine ⟨.ref t, rfl, t, xs, rfl, s1.sqT hs, for_it (walk_enumT (xs := xs)) (fun i σ H' => ∃ y3 y4 y5, σ = [some (.ref t), some fv, some (.ref o), y3, y4, y5] ∧ Acc H o (plTo ls far (i + 1)) H') ⟨none, none, none, rfl, Acc.start' no⟩ (fun i σ H' _ h => ?_) (fun i x σ H1 H2 hi h y => ?_) (fun σ H' h => ?_)⟩
    · obtain ⟨_, _, _, _, a⟩ := h
      exact a.s.sqT hs
    · obtain ⟨y3, y4, y5, rfl, a⟩ := h
      obtain ⟨U, i', x', rfl, nU, rfl, e1, hx⟩ := y
      injection e1 with e1
      subst e1
      have a2 := a.same (same_upd (o := .tup [.int (i : Nat), x']) nU)
      obtain ⟨l, el, hl⟩ := hls.at_ hx
      have hl2 : LineV K _ x' l := hl.keep (keepT_same a2.s)
      obtain ⟨pf, rfl, hf2⟩ := hf.same a2.s
      refine ⟨U, _, rfl, sqT_at upd_same, rfl, _, _, rfl, _, _, rfl, rfl, ?_⟩
      have ein : inV (.int (i : Nat)) (far.map natV) = decide (i ∈ far) := inV_nats i far
      have fin : ∀ k : Int, k = (if i ∈ far then 4 else if l.isLab then 0 else 1 : Nat) → ∃ y3 y4 y5, ((([some (V.ref t), some (.ref pf), some (.ref o), some (.int (i : Nat)), some x', some (.bl l.isLab)] : L2.St))) = [some (.ref t), some (.ref pf), some (.ref o), y3, y4, y5] ∧
          Acc H o (plTo ls far (i + 1 + 1)) (upd (upd H1 U (.tup [.int (i : Nat), x'])) o (.lst (plTo ls far (i + 1) ++ [.int ((pos ls far i : Nat) + k)]))) := fun k ek => by
        refine ⟨_, _, _, rfl, ?_⟩
        have : plTo ls far (i + 1 + 1) = plTo ls far (i + 1) ++ [.int ((pos ls far i : Nat) + k)] := by
          rw [plTo_succ, pos_succ ls far el, ek]
          unfold natV
          rw [Int.natCast_add]
        rw [this]
        exact a2.to
      refine rd_lab (l := l) hl2 rfl ?_
      refine ⟨.ref o, rfl, .inl ⟨rfl, _, sqL_at a2.d⟩, .ref o, rfl, 1, rfl, o, _, -1, natV (pos ls far i), rfl, rfl, sqL_at a2.d, by rw [plTo_succ]; exact atI_last _ _, ?_⟩
      refine ⟨_, rfl, _, rfl, pf, _, rfl, hf2, rfl, flat_nats far, _, rfl, ?_⟩
      show if (inV (.int (i : Nat)) (far.map natV)) = true then _ else _
      rw [ein]
      have hsz : (plTo ls far (i + 1)).length < sizeLine := by
        rw [plTo_len]
        exact small1000 (by have := (List.getElem?_eq_some_iff.mp el).1; omega)
      by_cases c : i ∈ far
      · rw [decide_eq_true c]
        refine iteT ⟨(pos ls far i : Nat), 4, rfl, rfl, o, _, _, rfl, rfl, a2.d, hsz, fin 4 ?_⟩
        rw [if_pos c]; rfl
      · rw [decide_eq_false c]
        refine iteF ⟨_, rfl, _, rfl, ?_⟩
        cases c2 : l.isLab with
        | true =>
          have fin := fin 0 (by rw [if_neg c, c2]; rfl)
          rw [c2] at fin
          exact iteT ⟨(pos ls far i : Nat), 0, rfl, rfl, o, _, _, rfl, rfl, a2.d, hsz, fin⟩
        | false =>
          have fin := fin 1 (by rw [if_neg c, c2]; rfl)
          rw [c2] at fin
          exact iteF ⟨(pos ls far i : Nat), 1, rfl, rfl, o, _, _, rfl, rfl, a2.d, hsz, fin⟩
    · obtain ⟨y3, y4, y5, rfl, a⟩ := h
      rw [hls.1] at a
      exact ⟨_, rfl, q o H' a.s no a.d⟩
def spTable (K : PySem.W.Frag) : Sp := fun vs H Q _ => ∃ (t pl : Addr) (ls : List Line) (far : List Nat), vs = [.ref t, .ref pl] ∧ LinesT K H t ls ∧ SqL K H pl (placesV ls far) ∧ ls.length ≤ 256 ∧ labsOk ls = true ∧ ∀ p H', Same H H' → H p = none → H' p = some (.dK (tabV ls far)) → Q (.ref p) H'
theorem cal_label_table (T : Txt K mg CS CI CL) : Cal P w K mg base CX0 2 "label_table" ["lines", "places"] (spTable K) := by
  refine T.d_label_table.cal0 sc_label_table (fun vs H Q E h => ?_) (fun _ _ _ _ _ _ us hl => match us, hl with | [_, _], _ => rfl) (fun f cdv A outer s H vs Q E hr h => ?_)
  · obtain ⟨_, _, _, _, rfl, _⟩ := h
    rfl
  · obtain ⟨t, pl, ls, far, rfl, ⟨xs, hs, hls⟩, hp, hlen, hlo, q⟩ := h
    refine ⟨_, pss_one (ps_ret (pe_dc (own := [("at", 2), ("line", 3)]) rfl sc_label_table.nd (pi_enumT (by rfl) T.b.enumerate (pa_cons (pv 0) pa_nil)) (blkOk_by (own := [("at", 2), ("line", 3)]) (N := n_label_table) (sc := defScope s_label_table) (by decide +kernel))
      (g := gTup K 2 (gCons (gName 2) (gCons (gName 3) gNil))) (fun _ _ _ _ _ => pg_tup rfl (pgs_cons (pg_name (i := 2) sc_label_table.nd rfl (.inl rfl)) (pgs_cons (pg_name (i := 3) sc_label_table.nd rfl (.inl rfl)) pgs_nil)))
      (fun _ _ _ _ _ => pts_one (pt_val (pe_cal (cal_is_label T) hr (by rfl) pass0 (pa_cons (pv 3) pa_nil))))
      (fun _ _ _ _ _ => pe_ix (r := rIxT K) ix_tup (pv 3) (pe_un un_neg pe_int) (fun _ _ => rfl))
      (fun _ _ _ _ _ => pe_ix (r := rIxL K) ix_list (pv 1) (pv 2) (fun _ _ => rfl)))), ?_⟩
    refine ⟨.ref t, rfl, t, xs, rfl, hs, fun D hD => dc_it (walk_enumT (xs := xs)) (fun i H' => AccD H D (tabTo ls far i) H') (AccD.start hD) (fun i H' _ a => a.s.sqT hs) (fun i x H1 H2 hi a y => ?_) (fun H' a => ?_)⟩
    · obtain ⟨U, i', x', rfl, nU, rfl, e1, hx⟩ := y
      injection e1 with e1
      subst e1
      have a2 := a.same (same_upd (o := .tup [.int (i : Nat), x']) nU)
      obtain ⟨l, el, hl⟩ := hls.at_ hx
      have hl2 : LineV K _ x' l := hl.keep (keepT_same a2.s)
      have hi2 := (List.getElem?_eq_some_iff.mp el).1
      refine ⟨U, _, rfl, sqT_at upd_same, rfl, _, _, rfl, _, _, rfl, rfl, rfl, x', rfl, x', l, rfl, hl2, _, rfl, ?_⟩
      cases c : l.isLab with
      | false =>
        refine iteF ?_
        show AccD H D (tabTo ls far (i + 1)) _
        rw [tab_skip far el c]
        exact a2
      | true =>
        have ew : l.isW = false := by cases l <;> first | rfl | cases c
        have eL : l = .lab l.nm := by cases l <;> first | rfl | cases c
        obtain ⟨p, rfl, hpx⟩ := line_sq hl2 ew
        refine iteT ⟨.ref p, rfl, 1, rfl, p, _, -1, .str l.nm, rfl, rfl, hpx, items_last l ew, ?_⟩
        refine ⟨_, rfl, _, rfl, pl, _, (i : Nat), natV (pos ls far i), rfl, rfl, a2.s.seq hp, atI_nat (plTo_get ls far (by omega)), _, Sum.inr l.nm, rfl, a2.d, ?_, ?_⟩
        · exact Nat.lt_of_le_of_lt (tabTo_len ls far (Nat.le_of_lt hi2)) (small1000 (by omega))
        · rw [eL] at el
          show AccD H D (tabTo ls far (i + 1)) _
          rw [tab_put far hlo el]
          exact a2.to
    · rw [hls.1] at a
      exact q D H' a.s hD a.d
theorem cal_Llabel_table (T : Txt K mg CS CI CL) : Cal P w K mg base CX0 2 "_law_label_table" ["_law_lines", "_law_places_here"] (spTable K) := by
  refine T.d_Llabel_table.cal0 sc_Llabel_table (fun vs H Q E h => ?_) (fun _ _ _ _ _ _ us hl => match us, hl with | [_, _], _ => rfl) (fun f cdv A outer s H vs Q E hr h => ?_)
  · obtain ⟨_, _, _, _, rfl, _⟩ := h
    rfl
  · obtain ⟨t, pl, ls, far, rfl, ⟨xs, hs, hls⟩, hp, hlen, hlo, q⟩ := h
    refine ⟨_, pss_cons (ps_set (i := 2) sc_Llabel_table.nd rfl (.inl rfl) pe_dnewK)
      (pss_cons (ps_for PassesOwn.never rfl (pi_enumT (by rfl) T.b.enumerate (pa_cons (pv 0) pa_nil)) (pg_tup rfl (pgs_cons (pg_name (i := 3) sc_Llabel_table.nd rfl (.inl rfl)) (pgs_cons (pg_name (i := 4) sc_Llabel_table.nd rfl (.inl rfl)) pgs_nil)))
        (pss_one (ps_if (pw_and (pt_val (pe_callB (r := rIsi K) call_isi (by rfl) T.b.isinstance boot_isinstance (pa_cons (pv 4) (pa_cons (pe_bltn (v := .ty "tuple") (by rfl) T.b.tuple boot_tuple rfl) pa_nil)))) (pw_and1 (pt_cmpR op_eq (pe_ix (r := rIxT K) ix_tup (pv 4) pe_int (fun _ _ => rfl)) pe_str (nomark _)))).pt
          (pss_one (ps_dput (hu_of hr) (pv 2) (pe_ix (r := rIxT K) ix_tup (pv 4) pe_int (fun _ _ => rfl)) (pe_ix (r := rIxL K) ix_list (pv 1) (pv 3) (fun _ _ => rfl)) rfl)) pss_nil)))
      (pss_one (ps_ret (pv 2)))), ?_⟩
    intro o no
    have s1 := same_upd (o := .dK []) no
    refine ⟨.ref t, rfl, t, xs, rfl, s1.sqT hs, for_it (walk_enumT (xs := xs)) (fun i σ H' => ∃ y3 y4, σ = [some (.ref t), some (.ref pl), some (.ref o), y3, y4] ∧ AccD H o (tabTo ls far i) H') ⟨none, none, rfl, AccD.start no⟩ (fun i σ H' _ h => ?_) (fun i x σ H1 H2 hi h y => ?_) (fun σ H' h => ?_)⟩
    · obtain ⟨_, _, _, a⟩ := h
      exact a.s.sqT hs
    · obtain ⟨y3, y4, rfl, a⟩ := h
      obtain ⟨U, i', x', rfl, nU, rfl, e1, hx⟩ := y
      injection e1 with e1
      subst e1
      have a2 := a.same (same_upd (o := .tup [.int (i : Nat), x']) nU)
      obtain ⟨l, el, hl⟩ := hls.at_ hx
      have hl2 : LineV K _ x' l := hl.keep (keepT_same a2.s)
      have hi2 := (List.getElem?_eq_some_iff.mp el).1
      refine ⟨U, _, rfl, sqT_at upd_same, rfl, _, _, rfl, _, _, rfl, rfl, ?_⟩
      refine rd_labT (l := l) hl2 rfl ?_
      cases c : l.isLab with
      | false =>
        refine iteF ⟨_, _, rfl, ?_⟩
        rw [tab_skip far el c]
        exact a2
      | true =>
        have ew : l.isW = false := by cases l <;> first | rfl | cases c
        have eL : l = .lab l.nm := by cases l <;> first | rfl | cases c
        obtain ⟨p, rfl, hpx⟩ := line_sq hl2 ew
        have a1 : atI l.items 1 = some (.str l.nm) := by
          rw [eL]
          exact atI_nat (j := 1) rfl
        refine iteT ⟨.ref pl, rfl, _, rfl, pl, _, (i : Nat), natV (pos ls far i), rfl, rfl, a2.s.seq hp, atI_nat (plTo_get ls far (by omega)), .ref o, rfl, .ref p, rfl, p, _, 1, .str l.nm, rfl, rfl, hpx, a1, o, _, rfl, DPut.k (k := Sum.inr l.nm) a2.d ?_, _, _, rfl, ?_⟩
        · exact Nat.lt_of_le_of_lt (tabTo_len ls far (Nat.le_of_lt hi2)) (small1000 (by omega))
        · rw [eL] at el
          rw [tab_put far hlo el]
          exact a2.to
    · obtain ⟨y3, y4, rfl, a⟩ := h
      rw [hls.1] at a
      exact ⟨_, rfl, q o H' a.s no a.d⟩
end
end K80
set_option Elab.async false
set_option linter.all false
set_option maxRecDepth 100000
set_option maxHeartbeats 4000000
/-! not_reaching, least_lot. -/
namespace K80
open PySem PySem.Spec PyProof.Rows L2
def nearB (ls : List Line) (far : List Nat) (i : Nat) : Bool := match ls[i]? with
  | some l => l.isBr && !decide (i ∈ far)
  | none => false
def nearTo (ls : List Line) (far : List Nat) (n : Nat) : List Nat := (List.range n).filter (nearB ls far)
theorem nearTo_succ (ls : List Line) (far : List Nat) (n : Nat) : nearTo ls far (n + 1) = nearTo ls far n ++ if nearB ls far n then [n] else [] := by
  unfold nearTo
  rw [List.range_succ, List.filter_append]
  congr 1
  rw [List.filter_cons, List.filter_nil]
theorem nearTo_len (ls : List Line) (far : List Nat) (n : Nat) : (nearTo ls far n).length ≤ n := by
  have := List.length_filter_le (nearB ls far) (List.range n)
  rw [List.length_range] at this
  exact this
theorem near_mem {ls : List Line} {far : List Nat} {n i : Nat} (h : i ∈ nearTo ls far n) : ∃ u a b x, ls[i]? = some (.br u a b x) ∧ i ∉ far := by
  have h := (List.mem_filter.mp h).2
  unfold nearB at h
  cases e : ls[i]? with
  | none => rw [e] at h; cases h
  | some l =>
    rw [e] at h
    cases l with
    | br u a b x => exact ⟨u, a, b, x, rfl, by simpa [Line.isBr] using h⟩
    | _ => cases h
theorem near_misses (ls : List Line) (far : List Nat) : (nearTo ls far ls.length).filter (misses ls far) = notReach ls far := by
  unfold nearTo notReach
  rw [List.filter_filter]
  refine List.filter_congr fun i _ => ?_
  cases h : misses ls far i with
  | false => rfl
  | true =>
    obtain ⟨u, a, b, x, e, h1, _⟩ := misses_br h
    unfold nearB
    rw [e]
    show (true && (true && !decide (i ∈ far))) = true
    rw [decide_eq_false h1]
    rfl
theorem misses_val {ls : List Line} {far : List Nat} {i : Nat} {u : Bool} {a b : Int} {x : Str} (e : ls[i]? = some (.br u a b x)) (h : i ∉ far) :
    misses ls far i = !(decide ((-32 : Int) ≤ (pos ls far (labIx ls x) : Int) - (pos ls far i : Int)) && decide ((pos ls far (labIx ls x) : Int) - (pos ls far i : Int) ≤ 31)) := by
  unfold misses
  rw [e]
  show (decide (i ∉ far) && _) = _
  rw [decide_eq_true h, Bool.true_and]
section
variable {P : Program} {w : World} {K : PySem.W.Frag} {mg : Str → Option Value} {base : Heap} {CS CI CL : Addr}
def spNR (K : PySem.W.Frag) : Sp := fun vs H Q _ => ∃ (t : Addr) (fv : V) (ls : List Line) (far : List Nat), vs = [.ref t, fv] ∧ LinesT K H t ls ∧ FarV K H fv far ∧ ls.length ≤ 256 ∧ labsOk ls = true ∧
  ∀ p H', Same H H' → H p = none → H' p = some (.lst ((notReach ls far).map natV)) → Q (.ref p) H'
theorem cal_not_reaching (T : Txt K mg CS CI CL) : Cal P w K mg base CX0 3 "not_reaching" ["lines", "far"] (spNR K) := by
  refine T.d_not_reaching.cal0 sc_not_reaching (fun vs H Q E h => ?_) (fun _ _ _ _ _ _ us hl => match us, hl with | [_, _], _ => rfl) (fun f cdv A outer s H vs Q E hr h => ?_)
  · obtain ⟨_, _, _, _, rfl, _⟩ := h
    rfl
  · obtain ⟨t, fv, ls, far, rfl, hL, hf, hlen, hlo, q⟩ := h
    refine ⟨_, pss_cons (ps_set (i := 2) sc_not_reaching.nd rfl (.inr rfl) (pe_cal (cal_line_places T) hr (by rfl) pass0 (pa_cons (pv 0) (pa_cons (pv 1) pa_nil))))
      (pss_cons (ps_set (i := 3) sc_not_reaching.nd rfl (.inr rfl) (pe_cal (cal_label_table T) hr (by rfl) pass0 (pa_cons (pv 0) (pa_cons (pv 2) pa_nil))))
      (pss_cons (ps_setLc (i := 4) (own := [("at", 5), ("line", 6)]) (g := gTup K 2 (gCons (gName 5) (gCons (gName 6) gNil))) rfl sc_not_reaching.nd rfl rfl (sw_true rfl rfl rfl (by decide +kernel)) (pi_enumT (by rfl) T.b.enumerate (pa_cons (pv 0) pa_nil)) (blkOk_by (own := [("at", 5), ("line", 6)]) (N := n_not_reaching) (sc := defScope s_not_reaching) (by decide +kernel))
        (fun _ _ _ _ _ => pg_tup rfl (pgs_cons (pg_name (i := 5) sc_not_reaching.nd rfl (.inl rfl)) (pgs_cons (pg_name (i := 6) sc_not_reaching.nd rfl (.inl rfl)) pgs_nil)))
        (fun _ _ _ _ _ => pts_one (PW.pt (pw_and (pt_val (pe_cal (cal_is_branch T) (hr.mono (by decide)) (by rfl) pass0 (pa_cons (pv 6) pa_nil))) (pw_and1 (pt_cmpR (r := rIn K true) op_notIn_seq (pv 5) (pv 1) rfl)))))
        (fun _ _ _ _ _ => pv 5))
      (pss_one (ps_ret (pe_lc (own := [("at", 5)]) (g := gName 5) rfl sc_not_reaching.nd (pi_list (pv 4)) (blkOk_by (own := [("at", 5)]) (N := n_not_reaching) (sc := defScope s_not_reaching) (by decide +kernel))
        (fun _ _ _ _ _ => pg_name (i := 5) sc_not_reaching.nd rfl (.inl rfl))
        (fun _ _ _ _ _ => pts_one (pt_not (pt_chain op_le op_le (pe_gl T.c_NEAR_LEAST (by rfl)) (pe_op op_sub (pe_dget (hu_of hr) (pv 3) (pe_ix (r := rIxT K) ix_tup (pe_ix (r := rIxT K) ix_tup (pv 0) (pv 5) (fun _ _ => rfl)) (pe_un un_neg pe_int) (fun _ _ => rfl)) (fun _ _ => rfl)) (pe_ix (r := rIxL K) ix_list (pv 2) (pv 5) (fun _ _ => rfl))) (pe_gl T.c_NEAR_MOST (by rfl)))))
        (fun _ _ _ _ _ => pv 5)))))), ?_⟩
    refine ⟨.ref t, rfl, fv, rfl, t, fv, ls, far, rfl, hL, hf, hlen, fun o H1 s1 no ho => ?_⟩
    refine ⟨.ref t, rfl, .ref o, rfl, t, o, ls, far, rfl, hL.same s1, sqL_at ho, hlen, hlo, fun d H2 s2 nd hd => ?_⟩
    have s12 := s1.trans s2
    obtain ⟨xs, hs, hls⟩ := hL
    refine ⟨.ref t, rfl, t, xs, rfl, s12.sqT hs, fun M hM => lc_it (walk_enumT (xs := xs)) (fun i H' => Acc H2 M ((nearTo ls far i).map natV) H') (Acc.start hM) (fun i H' _ a => (s12.trans a.s).sqT hs) (fun i x H3 H4 hi a y => ?_) (fun H3 a => ?_)⟩
    · obtain ⟨U, i', x', rfl, nU, rfl, e1, hx⟩ := y
      injection e1 with e1
      subst e1
      have a2 := a.same (same_upd (o := .tup [.int (i : Nat), x']) nU)
      obtain ⟨l, el, hl⟩ := hls.at_ hx
      have hl2 : LineV K _ x' l := hl.keep (keepT_same (s12.trans a2.s))
      have hi2 := (List.getElem?_eq_some_iff.mp el).1
      obtain ⟨pf, rfl, hf2⟩ := hf.same (s12.trans a2.s)
      refine ⟨U, _, rfl, sqT_at upd_same, rfl, _, _, rfl, _, _, rfl, rfl, rfl, x', rfl, x', l, rfl, hl2, _, rfl, ?_⟩
      have eB : nearB ls far i = (l.isBr && !decide (i ∈ far)) := by unfold nearB; rw [el]
      cases c : l.isBr with
      | false =>
        refine iteF ?_
        show Acc H2 M ((nearTo ls far (i + 1)).map natV) _
        rw [nearTo_succ, eB, c]
        show Acc H2 M (List.map natV (nearTo ls far i ++ [])) _
        rw [List.append_nil]
        exact a2
      | true =>
        refine iteT ⟨_, rfl, _, rfl, pf, _, rfl, hf2, rfl, flat_nats far, _, rfl, ?_⟩
        show if (!inV (.int (i : Nat)) (far.map natV)) = true then _ else _
        rw [show inV (.int (i : Nat)) (far.map natV) = decide (i ∈ far) from inV_nats i far]
        cases c2 : decide (i ∈ far) with
        | true =>
          refine iteF ?_
          show Acc H2 M ((nearTo ls far (i + 1)).map natV) _
          rw [nearTo_succ, eB, c, c2]
          show Acc H2 M (List.map natV (nearTo ls far i ++ [])) _
          rw [List.append_nil]
          exact a2
        | false =>
          refine iteT ⟨_, rfl, _, a2.d, ?_, ?_⟩
          · rw [List.length_map]
            exact Nat.lt_of_le_of_lt (nearTo_len ls far i) (small1000 (by omega))
          · show Acc H2 M ((nearTo ls far (i + 1)).map natV) _
            rw [nearTo_succ, eB, c, c2]
            show Acc H2 M (List.map natV (nearTo ls far i ++ [i])) _
            rw [List.map_append]
            exact a2.to
    · rw [hls.1] at a
      have s13 := s12.trans a.s
      refine ⟨.ref M, rfl, M, rfl, ⟨_, sqL_at a.d⟩, fun N hN => lc_list (xs := (nearTo ls far ls.length).map natV) (fun i H' => Acc H3 N ((((nearTo ls far ls.length).take i).filter (misses ls far)).map natV) H') (Acc.start hN) (fun i H' _ b => sqL_at (b.s _ _ a.d)) (fun i x H4 hx b => ?_) (fun H4 b => ?_)⟩
      · rw [List.getElem?_map] at hx
        obtain ⟨j, ej, rfl⟩ := Option.map_eq_some_iff.mp hx
        obtain ⟨u, ra, rb, nm, el, nf⟩ := near_mem (List.mem_of_getElem? ej)
        have s14 := s13.trans b.s
        obtain ⟨v, ev, hv⟩ := hls.on el
        obtain ⟨p, rfl, hp⟩ := line_sq (hv.keep (keepT_same s14)) (l := .br u ra rb nm) rfl
        have hj := (List.getElem?_eq_some_iff.mp el).1
        have hi : i < (nearTo ls far ls.length).length := (List.getElem?_eq_some_iff.mp ej).1
        have hnm : nm ∈ ls.filterMap Line.labN := labs_has hlo el rfl
        have hd4 : H4 d = some (.dK (tabV ls far)) := b.s _ _ (a.s _ _ hd)
        have ho4 : H4 o = some (.lst (placesV ls far)) := b.s _ _ (a.s _ _ (s2 _ _ ho))
        have hget : DGet H4 d (.str nm) (some (natV (pos ls far (labIx ls nm)))) := by
          have z := DGet.k (k := Sum.inr nm) hd4
          rw [tabV_get far hlo hnm] at z
          exact z
        have et : ((nearTo ls far ls.length).take (i + 1)).filter (misses ls far) = ((nearTo ls far ls.length).take i).filter (misses ls far) ++ if misses ls far j then [j] else [] := by
          rw [List.take_add_one, ej, List.filter_append]
          congr 1
          show List.filter _ [j] = _
          rw [List.filter_cons, List.filter_nil]
        have em := misses_val el nf
        refine ⟨rfl, ?_⟩
        refine ⟨.ref d, rfl, .ref t, rfl, natV j, rfl, t, xs, (j : Nat), .ref p, rfl, rfl, s14.sqT hs, atI_nat ev, 1, rfl, p, _, -1, .str nm, rfl, rfl, hp, items_last _ rfl, d, _, rfl, hget, ?_⟩
        refine ⟨.ref o, rfl, natV j, rfl, o, _, (j : Nat), natV (pos ls far j), rfl, rfl, sqL_at ho4, atI_nat (plTo_get ls far (by omega)), (pos ls far (labIx ls nm) : Nat), (pos ls far j : Nat), rfl, rfl, -32, _, rfl, rfl, _, rfl, ?_⟩
        cases c1 : decide ((-32 : Int) ≤ (pos ls far (labIx ls nm) : Int) - (pos ls far j : Int)) with
        | false =>
          refine iteF ⟨false, rfl, iteT ⟨_, rfl, _, b.d, ?_, ?_⟩⟩
          · rw [List.length_map]
            have h1 := List.length_filter_le (misses ls far) ((nearTo ls far ls.length).take i)
            rw [List.length_take] at h1
            have h2 := nearTo_len ls far ls.length
            exact small1000 (by omega)
          · rw [c1] at em
            show Acc H3 N ((((nearTo ls far ls.length).take (i + 1)).filter (misses ls far)).map natV) _
            rw [et, em]
            show Acc H3 N (List.map natV (_ ++ [j])) _
            rw [List.map_append]
            exact b.to
        | true =>
          refine iteT ⟨_, 31, rfl, rfl, _, rfl, ?_⟩
          cases c2 : decide ((pos ls far (labIx ls nm) : Int) - (pos ls far j : Int) ≤ 31) with
          | true =>
            refine iteF ?_
            rw [c1, c2] at em
            show Acc H3 N ((((nearTo ls far ls.length).take (i + 1)).filter (misses ls far)).map natV) _
            rw [et, em]
            show Acc H3 N (List.map natV (_ ++ [])) _
            rw [List.append_nil]
            exact b
          | false =>
            refine iteT ⟨_, rfl, _, b.d, ?_, ?_⟩
            · rw [List.length_map]
              have h1 := List.length_filter_le (misses ls far) ((nearTo ls far ls.length).take i)
              rw [List.length_take] at h1
              have h2 := nearTo_len ls far ls.length
              exact small1000 (by omega)
            · rw [c1, c2] at em
              show Acc H3 N ((((nearTo ls far ls.length).take (i + 1)).filter (misses ls far)).map natV) _
              rw [et, em]
              show Acc H3 N (List.map natV (_ ++ [j])) _
              rw [List.map_append]
              exact b.to
      · rw [List.length_map, List.take_of_length_le (Nat.le_refl _), near_misses] at b
        exact q N H4 (s13.trans b.s) (s13.free b.n) b.d
/-! ### least_lot -/
theorem ints_dp {K : PySem.W.Frag} {H : Hp} : ∀ ns : List Int, DpAll K H (ns.map V.int) (ns.map PyData.int)
  | [] => .nil
  | n :: ns => .cons (.int n) (ints_dp ns)
theorem nats_dp {K : PySem.W.Frag} {H : Hp} : ∀ ns : List Nat, DpAll K H (ns.map natV) (ns.map fun n => PyData.int (n : Nat))
  | [] => .nil
  | n :: ns => .cons (.int n) (nats_dp ns)
theorem ints_lay : ∀ {ds : List PyData}, (∀ d ∈ ds, ∃ i, d = .int i) → PyData.canLayAll0 ds = true ∧ PyData.depthAll ds = 0
  | [], _ => ⟨rfl, rfl⟩
  | d :: ds, h => by
    obtain ⟨i, rfl⟩ := h d List.mem_cons_self
    obtain ⟨h1, h2⟩ := ints_lay (ds := ds) fun e he => h e (List.mem_cons_of_mem _ he)
    exact ⟨by unfold PyData.canLayAll0; rw [h1]; rfl, by unfold PyData.depthAll; rw [h2]; rfl⟩
theorem shaped_list {ds : List PyData} (h : ∀ d ∈ ds, ∃ i, d = .int i) : SeqAt.shaped (.list ds) = true := by
  obtain ⟨h1, h2⟩ := ints_lay h
  unfold SeqAt.shaped
  have e1 : PyData.canLay0 (.list ds) = true := by unfold PyData.canLay0; exact h1
  have e2 : PyData.depth (.list ds) = 1 := by unfold PyData.depth; rw [h2]
  rw [e1, e2]
  decide
theorem eqv_nilL {ds : List PyData} : PyData.eqv (.list ds) (.list []) = decide (ds = []) := by
  cases ds with
  | nil => simp [PyData.eqv, PyData.eqvAll]
  | cons d ds => simp [PyData.eqv, PyData.eqvAll]
theorem natV_int (far : List Nat) : far.map natV = (far.map fun n => ((n : Nat) : Int)).map V.int := by
  rw [List.map_map]
  rfl
/-- whole numbers that are counted numbers -/
theorem nats_of_perm {ns : List Int} {far : List Nat} (h : ns.Perm (far.map fun n => ((n : Nat) : Int))) : ∃ g : List Nat, ns = g.map (fun n => ((n : Nat) : Int)) ∧ g.Perm far := by
  refine ⟨ns.map Int.toNat, ?_, ?_⟩
  · rw [List.map_map]
    have : ∀ n ∈ ns, n = ((fun n : Nat => (n : Int)) ∘ Int.toNat) n := fun n hn => by
      obtain ⟨m, _, rfl⟩ := List.mem_map.mp (h.mem_iff.mp hn)
      show (m : Int) = ((m : Int).toNat : Int)
      omega
    exact (List.map_congr_left this).symm.trans (by rw [List.map_id'']; intro x; rfl) |>.symm
  · have := h.map Int.toNat
    rw [List.map_map] at this
    have e : far.map (Int.toNat ∘ fun n : Nat => (n : Int)) = far := by
      conv => rhs; rw [← List.map_id far]
      exact List.map_congr_left fun n _ => by show ((n : Int)).toNat = n; omega
    rw [e] at this
    exact this
def spLot (K : PySem.W.Frag) : Sp := fun vs H Q _ => ∃ (t : Addr) (ls : List Line), vs = [.ref t] ∧ LinesT K H t ls ∧ ls.length ≤ 256 ∧ labsOk ls = true ∧
  ∀ p f H', Same H H' → H p = none → H' p = some (.tup (f.map natV)) → Least ls f → f.Pairwise (· < ·) → Q (.ref p) H'
theorem cal_least_lot (T : Txt K mg CS CI CL) : Cal P w K mg base CX0 4 "least_lot" ["lines"] (spLot K) := by
  refine T.d_least_lot.cal0 sc_least_lot (fun vs H Q E h => ?_) (fun _ _ _ _ _ _ us hl => match us, hl with | [_], _ => rfl) (fun f cdv A outer s H vs Q E hr h => ?_)
  · obtain ⟨_, _, rfl, _⟩ := h
    rfl
  · obtain ⟨t, ls, rfl, hL, hlen, hlo, q⟩ := h
    refine ⟨_, pss_cons (ps_set (i := 1) sc_least_lot.nd rfl (.inl rfl) (pe_lst pa_nil))
      (pss_cons (ps_set (i := 2) sc_least_lot.nd rfl (.inl rfl) (pe_cal (cal_not_reaching T) hr (by rfl) pass0 (pa_cons (pv 0) (pa_cons (pv 1) pa_nil))))
      (pss_cons (ps_while PassesOwn.never (pt_cmpR (op_neD hr.units) (pv 2) (pe_lst pa_nil) (nomark _))
        (pss_cons (ps_expr (pe_bm PySem.F.plainAttrs_list PySem.F.slot_list_extend PySem.F.type_list_extend mt_extend (pv 1) (pa_cons (pv 2) pa_nil)))
        (pss_one (ps_set (i := 2) sc_least_lot.nd rfl (.inl rfl) (pe_cal (cal_not_reaching T) hr (by rfl) pass0 (pa_cons (pv 0) (pa_cons (pv 1) pa_nil)))))))
      (pss_one (ps_ret (pe_callTy call_tuple_of (by rfl) T.b.tuple boot_tuple (pa_cons (pe_callB cr_sortedI (by rfl) T.b.sorted (by decide +kernel) (pa_cons (pv 1) pa_nil)) pa_nil)))))), ?_⟩
    refine ⟨Nat.zero_le _, fun o no => ?_⟩
    have s1 := same_upd (o := .lst []) no
    refine ⟨.ref t, rfl, .ref o, rfl, t, .ref o, ls, [], rfl, hL.same s1, ⟨o, rfl, .inl (sqL_at upd_same)⟩, hlen, hlo, fun M H1 s2 nM hM => ?_⟩
    refine ⟨fun m σ H' => ∃ far M, σ = [some (.ref t), some (.ref o), some (.ref M)] ∧ m = (brs ls).length - far.length ∧ Grown ls far ∧ Acc H o (far.map natV) H' ∧ H' M = some (.lst ((notReach ls far).map natV)) ∧ M ≠ o,
      ⟨_, [], M, rfl, rfl, Grown.nil ls, ⟨no, s1.trans s2, s2 _ _ upd_same⟩, hM, fun z => by rw [z, upd_same] at nM; cases nM⟩, fun m σ H' hW => ?_⟩
    obtain ⟨far, M', rfl, rfl, g, a, hM', ne⟩ := hW
    refine ⟨.ref M', rfl, Nat.zero_le _, fun u nu => ?_⟩
    have a2 := a.same (same_upd (o := .lst []) nu)
    have hM2 : (upd H' u (.lst [])) M' = some (.lst ((notReach ls far).map natV)) := same_upd nu _ _ hM'
    refine ⟨_, _, .lst (sqL_at hM2) (nats_dp _), .lst (sqL_at upd_same) .nil, shaped_list (fun d hd => ?_), by decide +kernel, _, rfl, ?_⟩
    · obtain ⟨n, _, rfl⟩ := List.mem_map.mp hd
      exact ⟨_, rfl⟩
    rw [eqv_nilL]
    have hlenN : (notReach ls far).length ≤ ls.length := by
      have := List.length_filter_le (misses ls far) (List.range ls.length)
      rw [List.length_range] at this
      exact this
    have hlenF : far.length ≤ 256 := Nat.le_trans g.len (Nat.le_trans (brs_len ls) hlen)
    by_cases c : notReach ls far = []
    · rw [decide_eq_true (by rw [c]; rfl)]
      refine iteF ⟨.ref o, rfl, o, far.map (fun n => ((n : Nat) : Int)), rfl, by rw [← natV_int]; exact sqL_at a2.d, fun ns p hp hw np => ?_⟩
      obtain ⟨g', rfl, hg'⟩ := nats_of_perm hp
      refine ⟨p, _, rfl, .inl ⟨sqL_at upd_same, fun r nr => ?_⟩⟩
      have L : Least ls far := ⟨g, nr_nil.mp c⟩
      have L' := L.perm hg'
      have hpl : g'.Pairwise (· ≤ ·) := by
        have := List.pairwise_map.mp hw
        exact this.imp fun h => by omega
      have hpw : g'.Pairwise (· < ·) := by
        have h2 : g'.Pairwise (· ≠ ·) := L'.nd
        exact (hpl.and h2).imp fun ⟨h1, h2⟩ => by omega
      have s3 : Same H (upd (upd (upd H' u (.lst [])) p (.lst ((g'.map fun n => ((n : Nat) : Int)).map V.int))) r (.tup ((g'.map fun n => ((n : Nat) : Int)).map V.int))) := a2.s.trans ((same_upd np).trans (same_upd nr))
      exact q r g' _ s3 ((a2.s.trans (same_upd np)).free nr) (by rw [upd_same, natV_int]) L' hpw
    · rw [decide_eq_false (fun z => c (List.map_eq_nil_iff.mp z))]
      refine iteT ⟨fun σ' H'' => ∃ m', m' < (brs ls).length - far.length ∧ ∃ far M, σ' = [some (.ref t), some (.ref o), some (.ref M)] ∧ m' = (brs ls).length - far.length ∧ Grown ls far ∧ Acc H o (far.map natV) H'' ∧ H'' M = some (.lst ((notReach ls far).map natV)) ∧ M ≠ o, fun σ' H'' h => h, ?_⟩
      have ge := g.ext
      have glen := ge.len
      have hne : 0 < (notReach ls far).length := List.length_pos_iff.mpr c
      refine ⟨.ref o, rfl, .inl ⟨rfl, _, sqL_at a2.d⟩, .ref M', rfl, o, M', _, _, rfl, rfl, a2.d, hM2, ?_, ?_⟩
      · rw [List.length_map, List.length_map]
        exact Nat.le_of_lt (small1000 (by omega))
      · rw [← List.map_append]
        have a3 : Acc H o ((far ++ notReach ls far).map natV) (upd (upd H' u (.lst [])) o (.lst ((far ++ notReach ls far).map natV))) := a2.to
        refine ⟨.ref t, rfl, .ref o, rfl, t, .ref o, ls, _, rfl, hL.same a3.s, ⟨o, rfl, .inl (sqL_at a3.d)⟩, hlen, hlo, fun M2 H2 s3 nM2 hM2 => ?_⟩
        rw [List.length_append] at glen
        exact ⟨_, by rw [List.length_append]; omega, far ++ notReach ls far, M2, rfl, rfl, ge, a3.same s3, hM2, fun z => by rw [z, a3.d] at nM2; cases nM2⟩
end
end K80
set_option Elab.async false
set_option linter.all false
set_option maxRecDepth 100000
set_option maxHeartbeats 4000000
/-! words_of_line. -/
namespace K80
open PySem PySem.Spec PyProof.Rows L2
theorem shl_val (i : Int) (k : Nat) : i * 2 ^ ((k : Int).toNat) = i * 2 ^ k := by rw [Int.toNat_natCast]
theorem okReg_le {a : Int} (h : okReg a = true) : 0 ≤ a ∧ a ≤ 7 := by
  obtain ⟨h1, h2⟩ := Bool.and_eq_true_iff.mp h
  exact ⟨of_decide_eq_true h1, of_decide_eq_true h2⟩
section
variable {P : Program} {w : World} {K : PySem.W.Frag} {mg : Str → Option Value} {base : Heap} {CS CI CL : Addr}
theorem cpow (i : Int) (j : Int) (h1 : 0 ≤ i) (h2 : i ≤ 1000) (h3 : 0 ≤ j) (h4 : j ≤ 100) : CPow i j := ⟨h3, by omega, by omega⟩
/-- a line that is no label, its words -/
def spWords (K : PySem.W.Frag) : Sp := fun vs H Q _ => ∃ (v : V) (pl tb : Addr) (r : Int) (ls : List Line) (far : List Nat) (i : Nat) (l : Line), vs = [v, .ref pl, .ref tb, .int (r - 1)] ∧ ls[i]? = some l ∧ LineV K H v l ∧ l.isLab = false ∧
  SqL K H pl [natV (pos ls far i), natV (pos ls far (i + 1))] ∧ H tb = some (.dK (tabV ls far)) ∧ labsOk ls = true ∧ okLine l = true ∧ regOk r ∧ pos ls far ls.length ≤ 255 ∧ (∀ j ∈ far, ∃ u a b x, ls[j]? = some (.br u a b x)) ∧
  ∀ p H', Same H H' → H p = none → H' p = some (.lst ((wordsAt r ls far i).map V.int)) → Q (.ref p) H'
theorem cal_words (T : Txt K mg CS CI CL) : Cal P w K mg base CX0 1 "words_of_line" ["line", "places", "table", "spare"] (spWords K) := by
  refine T.d_words_of_line.cal0 sc_words_of_line (fun vs H Q E h => ?_) (fun _ _ _ _ _ _ us hl => match us, hl with | [_, _, _, _], _ => rfl) (fun f cdv A outer s H vs Q E hr h => ?_)
  · obtain ⟨_, _, _, _, _, _, _, _, rfl, _⟩ := h
    rfl
  · obtain ⟨v, pl, tb, r, ls, far, i, l, rfl, el, hv, hnl, hpl, htb, hlo, hok, hrg, hpos, hfar, q⟩ := h
    obtain ⟨aB, gB, sB⟩ := T.c_BRANCHES
    obtain ⟨aO, gO, sO⟩ := T.c_BRANCH_OPS
    have tB := T.c_BRANCHES_o aB gB
    refine ⟨_, pss_cons (ps_if (pt_not (pt_val (pe_callB call_isi (by rfl) T.b.isinstance boot_isinstance (pa_cons (pv 0) (pa_cons (pe_bltn (v := .ty "tuple") (by rfl) T.b.tuple boot_tuple rfl) pa_nil))))) (pss_one (ps_ret (pe_lst (pa_cons (pv 0) pa_nil)))) pss_nil)
      (pss_cons (ps_set (i := 4) sc_words_of_line.nd rfl (.inl rfl) (pe_dget (hu_of hr) (pv 2) (pe_ix ix_tup (pv 0) (pe_un un_neg pe_int) (fun _ _ => rfl)) (fun _ _ => rfl)))
      (pss_cons (ps_if (pt_cmpR op_eq (pe_ix ix_tup (pv 0) pe_int (fun _ _ => rfl)) (pe_gl T.c_PLACE (by rfl)) (nomark _))
        (pss_one (ps_ret (pe_lst (pa_cons (pe_op op_orL (pe_op op_orL (pe_op op_shl (pe_gl T.c_OP_SET (by rfl)) pe_int) (pe_op op_shl (pe_ix ix_tup (pv 0) pe_int (fun _ _ => rfl)) pe_int)) (pv 4)) pa_nil)))) pss_nil)
      (pss_cons (ps_set (i := 5) sc_words_of_line.nd rfl (.inl rfl) (pe_op op_orL (pe_op op_orL (pe_op op_shl (pe_ix ix_tup (pe_glob (v := .ref aO) (by rfl) gO rfl) (pe_bm PySem.F.plainAttrs_tuple PySem.F.slot_tuple_index PySem.F.type_tuple_index mt_tup_index (pe_glob (v := .ref aB) (by rfl) gB rfl) (pa_cons (pe_ix ix_tup (pv 0) pe_int (fun _ _ => rfl)) pa_nil)) (fun _ _ => rfl)) pe_int)
          (pe_op op_shl (pe_ix ix_tup (pv 0) pe_int (fun _ _ => rfl)) pe_int)) (pe_op op_shl (pe_ix ix_tup (pv 0) pe_int (fun _ _ => rfl)) pe_int)))
      (pss_cons (ps_if (pt_cmpR op_eq (pe_op op_sub (pe_ix ix_list (pv 1) pe_int (fun _ _ => rfl)) (pe_ix ix_list (pv 1) pe_int (fun _ _ => rfl))) pe_int (nomark _))
        (pss_one (ps_ret (pe_lst (pa_cons (pe_op op_orL (pv 5) (pe_op op_andM (pe_op op_sub (pv 4) (pe_ix ix_list (pv 1) pe_int (fun _ _ => rfl))) pe_int)) pa_nil)))) pss_nil)
      (pss_one (ps_ret (pe_lst (pa_cons (pe_op op_orL (pv 5) pe_int) (pa_cons (pe_op op_orL (pe_op op_shl (pe_gl T.c_OP_SAME (by rfl)) pe_int) pe_int)
        (pa_cons (pe_op op_orL (pe_op op_orL (pe_op op_shl (pe_gl T.c_OP_SET (by rfl)) pe_int) (pe_op op_shl (pv 3) pe_int)) (pv 4)) (pa_cons (pe_op op_orL (pe_op op_shl (pe_gl T.c_OP_JUMP (by rfl)) pe_int) (pe_op op_shl (pv 3) pe_int)) pa_nil))))))))))), ?_⟩
    obtain ⟨t, ht, hk⟩ := line_ty hv
    refine ⟨v, rfl, v, .ty "tuple", _, _, _, rfl, .ty _, ht, hk, _, rfl, ?_⟩
    have hi := (List.getElem?_eq_some_iff.mp el).1
    have hr8 : 1 ≤ r - 1 ∧ r - 1 ≤ 7 := by rcases hrg with rfl | rfl | rfl <;> decide
    cases l with
    | lab x => cases hnl
    | w n =>
      obtain rfl : v = .int n := hv
      refine iteT ⟨_, rfl, by show 1 ≤ sizeLine; decide, fun p np => q p _ (same_upd np) np ?_⟩
      rw [upd_same]
      unfold wordsAt
      rw [el]
      rfl
    | pl a x =>
      obtain ⟨p, rfl, hp⟩ := hv
      have hnm : x ∈ ls.filterMap Line.labN := labs_has hlo el rfl
      have hget : DGet H tb (.str x) (some (natV (pos ls far (labIx ls x)))) := by
        have z := DGet.k (k := Sum.inr x) htb
        rw [tabV_get far hlo hnm] at z
        exact z
      have hg : pos ls far (labIx ls x) ≤ 255 := Nat.le_trans (pos_le ls far (Nat.le_of_lt (List.getElem?_eq_some_iff.mp (labIx_at hnm)).1)) hpos
      obtain ⟨ha, _⟩ := Bool.and_eq_true_iff.mp (show (okReg a && okName x) = true from hok)
      obtain ⟨a0, a7⟩ := okReg_le ha
      refine iteF ⟨.ref tb, rfl, .ref p, rfl, 1, rfl, p, _, -1, .str x, rfl, rfl, hp, items_last (.pl a x) rfl, tb, _, rfl, hget, ?_⟩
      refine ⟨.ref p, rfl, p, _, 0, .str "place", rfl, rfl, hp, items_head (.pl a x) rfl, rfl, _, rfl, iteT ?_⟩
      refine ⟨9, 12, rfl, rfl, cpow _ _ (by decide) (by decide) (by decide) (by decide), .ref p, rfl, p, _, 1, .int a, rfl, rfl, hp, atI_nat (j := 1) rfl, a, 9, rfl, rfl, cpow _ _ a0 (by omega) (by decide) (by decide), ?_⟩
      refine ⟨9, a * 2 ^ 9, 12, rfl, rfl, ⟨by decide, by omega, by omega⟩, ?_⟩
      refine ⟨_, rfl, 9 * 8 + a, (pos ls far (labIx ls x) : Nat), 9, by show V.int _ = V.int _; congr 1; omega, rfl, ⟨by omega, by omega, by omega⟩, ?_⟩
      refine ⟨by show 1 ≤ sizeLine; decide, fun o no => q o _ (same_upd no) no ?_⟩
      rw [upd_same]
      unfold wordsAt
      rw [el]
      show some (HO.lst [V.int ((9 * 8 + a) * 2 ^ 9 + (pos ls far (labIx ls x) : Nat))]) = some (.lst [V.int (36864 + 512 * a + (pos ls far (labIx ls x) : Int))])
      rw [show (9 * 8 + a) * 2 ^ 9 + ((pos ls far (labIx ls x) : Nat) : Int) = 36864 + 512 * a + (pos ls far (labIx ls x) : Int) by omega]
    | br u a b x =>
      obtain ⟨p, rfl, hp⟩ := hv
      have hnm : x ∈ ls.filterMap Line.labN := labs_has hlo el rfl
      have hget : DGet H tb (.str x) (some (natV (pos ls far (labIx ls x)))) := by
        have z := DGet.k (k := Sum.inr x) htb
        rw [tabV_get far hlo hnm] at z
        exact z
      have hg : pos ls far (labIx ls x) ≤ 255 := Nat.le_trans (pos_le ls far (Nat.le_of_lt (List.getElem?_eq_some_iff.mp (labIx_at hnm)).1)) hpos
      obtain ⟨ha, hok⟩ := Bool.and_eq_true_iff.mp (show (okReg a && (okReg b && okName x)) = true from hok)
      obtain ⟨hb, _⟩ := Bool.and_eq_true_iff.mp hok
      obtain ⟨a0, a7⟩ := okReg_le ha
      obtain ⟨b0, b7⟩ := okReg_le hb
      have hhead : decide (V.str (Line.br u a b x).head = V.str "place") = false := by
        cases u
        · exact strNe (a := "same") (by decide)
        · exact strNe (a := "under") (by decide)
      refine iteF ⟨.ref tb, rfl, .ref p, rfl, 1, rfl, p, _, -1, .str x, rfl, rfl, hp, items_last (.br u a b x) rfl, tb, _, rfl, hget, ?_⟩
      refine ⟨.ref p, rfl, p, _, 0, _, rfl, rfl, hp, items_head (.br u a b x) rfl, rfl, _, rfl, ?_⟩
      rw [hhead]
      refine iteF ?_
      -- ahead
      have hop : ∃ (j : Nat) (op : Int), ([("same" : Str), "under"])[j]? = some (Line.br u a b x).head ∧ (∀ m, m < j → ([("same" : Str), "under"])[m]? ≠ some (Line.br u a b x).head) ∧ ([V.int 12, V.int 13])[j]? = some (V.int op) ∧ op = (if u then 13 else 12) := by
        cases u
        · exact ⟨0, 12, rfl, fun m hm => absurd hm (Nat.not_lt_zero m), rfl, rfl⟩
        · refine ⟨1, 13, rfl, fun m hm => ?_, rfl, rfl⟩
          have : m = 0 := by omega
          subst this
          show some ("same" : Str) ≠ some "under"
          decide
      obtain ⟨j, op, hj1, hj2, hj3, hop⟩ := hop
      have op0 : 12 ≤ op ∧ op ≤ 13 := by rw [hop]; cases u <;> decide
      refine ⟨.inr (.inl ⟨rfl, tB⟩), .ref p, rfl, p, _, 0, _, rfl, rfl, hp, items_head (.br u a b x) rfl, aB, ["same", "under"], _, j, rfl, rfl, sB H, hj1, hj2, ?_⟩
      refine ⟨aO, _, (j : Nat), .int op, rfl, rfl, sO H, atI_nat hj3, op, 12, rfl, rfl, cpow _ _ (by omega) (by omega) (by decide) (by decide), ?_⟩
      refine ⟨.ref p, rfl, p, _, 1, .int a, rfl, rfl, hp, atI_nat (j := 1) rfl, a, 9, rfl, rfl, cpow _ _ a0 (by omega) (by decide) (by decide), ?_⟩
      refine ⟨op, a * 2 ^ 9, 12, rfl, rfl, ⟨by omega, by omega, by omega⟩, ?_⟩
      refine ⟨.ref p, rfl, p, _, 2, .int b, rfl, rfl, hp, atI_nat (j := 2) rfl, b, 6, rfl, rfl, cpow _ _ b0 (by omega) (by decide) (by decide), ?_⟩
      refine ⟨op * 8 + a, b * 2 ^ 6, 9, by show V.int _ = V.int _; congr 1; omega, rfl, ⟨by omega, by omega, by omega⟩, ?_⟩
      -- places[1] - places[0] == 1
      refine ⟨.ref pl, rfl, pl, _, 1, natV (pos ls far (i + 1)), rfl, rfl, hpl, atI_nat (j := 1) rfl, .ref pl, rfl, pl, _, 0, natV (pos ls far i), rfl, rfl, hpl, atI_nat (j := 0) rfl, (pos ls far (i + 1) : Nat), (pos ls far i : Nat), rfl, rfl, rfl, _, rfl, ?_⟩
      have esz := pos_succ ls far el
      have ewd : wordsAt r ls far i = if i ∈ far then [4096 * (if u then 13 else 12) + 512 * a + 64 * b + 2, 49155, 36864 + 512 * (r - 1) + (pos ls far (labIx ls x) : Int), 57344 + 64 * (r - 1)]
          else [4096 * (if u then 13 else 12) + 512 * a + 64 * b + ((pos ls far (labIx ls x) : Int) - (pos ls far i : Int)) % 64] := by
        unfold wordsAt
        rw [el]
      rw [← hop] at ewd
      by_cases c : i ∈ far
      · rw [if_pos c] at esz ewd
        rw [decide_eq_false (show ¬ V.int (((pos ls far (i + 1) : Nat) : Int) - ((pos ls far i : Nat) : Int)) = V.int 1 from fun z => by injection z with z; omega)]
        refine iteF ⟨_, rfl, (op * 8 + a) * 8 + b, 2, 6, by show V.int _ = V.int _; congr 1; omega, rfl, ⟨by omega, by decide, by decide⟩, ?_⟩
        refine ⟨12, 12, rfl, rfl, cpow _ _ (by decide) (by decide) (by decide) (by decide), 12, 3, 12, rfl, rfl, ⟨by decide, by decide, by decide⟩, ?_⟩
        refine ⟨9, 12, rfl, rfl, cpow _ _ (by decide) (by decide) (by decide) (by decide), _, rfl, r - 1, 9, rfl, rfl, cpow _ _ (by omega) (by omega) (by decide) (by decide), 9, (r - 1) * 2 ^ 9, 12, rfl, rfl, ⟨by decide, by omega, by omega⟩, ?_⟩
        refine ⟨_, rfl, 9 * 8 + (r - 1), (pos ls far (labIx ls x) : Nat), 9, by show V.int _ = V.int _; congr 1; omega, rfl, ⟨by omega, by omega, by omega⟩, ?_⟩
        refine ⟨14, 12, rfl, rfl, cpow _ _ (by decide) (by decide) (by decide) (by decide), _, rfl, r - 1, 6, rfl, rfl, cpow _ _ (by omega) (by omega) (by decide) (by decide), 14, (r - 1) * 2 ^ 6, 12, rfl, rfl, ⟨by decide, by omega, by omega⟩, ?_⟩
        refine ⟨by show 4 ≤ sizeLine; decide, fun o no => q o _ (same_upd no) no ?_⟩
        rw [upd_same, ewd]
        show some (HO.lst [V.int (((op * 8 + a) * 8 + b) * 2 ^ 6 + 2), V.int (12 * 2 ^ 12 + 3), V.int ((9 * 8 + (r - 1)) * 2 ^ 9 + (pos ls far (labIx ls x) : Nat)), V.int (14 * 2 ^ 12 + (r - 1) * 2 ^ 6)]) = some (.lst [V.int (4096 * op + 512 * a + 64 * b + 2), V.int 49155, V.int (36864 + 512 * (r - 1) + (pos ls far (labIx ls x) : Int)), V.int (57344 + 64 * (r - 1))])
        rw [show ((op * 8 + a) * 8 + b) * 2 ^ 6 + 2 = 4096 * op + 512 * a + 64 * b + 2 by omega, show (9 * 8 + (r - 1)) * 2 ^ 9 + ((pos ls far (labIx ls x) : Nat) : Int) = 36864 + 512 * (r - 1) + (pos ls far (labIx ls x) : Int) by omega, show (14 : Int) * 2 ^ 12 + (r - 1) * 2 ^ 6 = 57344 + 64 * (r - 1) by omega]
        rfl
      · rw [if_neg c] at esz ewd
        have esz : pos ls far (i + 1) = pos ls far i + 1 := esz
        rw [decide_eq_true (show V.int (((pos ls far (i + 1) : Nat) : Int) - ((pos ls far i : Nat) : Int)) = V.int 1 by congr 1; omega)]
        refine iteT ⟨_, rfl, _, rfl, .ref pl, rfl, pl, _, 0, natV (pos ls far i), rfl, rfl, hpl, atI_nat (j := 0) rfl, (pos ls far (labIx ls x) : Nat), (pos ls far i : Nat), rfl, rfl, _, 6, rfl, rfl, ?_⟩
        refine ⟨(op * 8 + a) * 8 + b, _, 6, by show V.int _ = V.int _; congr 1; omega, rfl, ⟨by omega, by omega, by omega⟩, ?_⟩
        refine ⟨by show 1 ≤ sizeLine; decide, fun o no => q o _ (same_upd no) no ?_⟩
        rw [upd_same, ewd]
        show some (HO.lst [V.int (((op * 8 + a) * 8 + b) * 2 ^ 6 + ((pos ls far (labIx ls x) : Int) - (pos ls far i : Int)) % 2 ^ 6)]) = some (.lst [V.int (4096 * op + 512 * a + 64 * b + ((pos ls far (labIx ls x) : Int) - (pos ls far i : Int)) % 64)])
        rw [show ((op * 8 + a) * 8 + b) * 2 ^ 6 + ((pos ls far (labIx ls x) : Int) - (pos ls far i : Int)) % 2 ^ 6 = 4096 * op + 512 * a + 64 * b + ((pos ls far (labIx ls x) : Int) - (pos ls far i : Int)) % 64 by omega]
end
end K80
set_option Elab.async false
set_option linter.all false
set_option maxRecDepth 100000
set_option maxHeartbeats 4000000
/-! The two own exceptions: where their __init__ stands in the text. -/
namespace K80
open PySem PySem.Spec PyProof.Rows L2
def psM (n : Nat) : Pos := ([⟨10, 17, 10, 21⟩, ⟨10, 23, 10, 28⟩, ⟨11, 8, 11, 13⟩, ⟨11, 8, 11, 15⟩, ⟨11, 8, 11, 24⟩, ⟨11, 25, 11, 30⟩, ⟨11, 8, 11, 31⟩, ⟨11, 8, 11, 31⟩, ⟨12, 8, 12, 12⟩, ⟨12, 8, 12, 18⟩, ⟨12, 21, 12, 26⟩, ⟨12, 8, 12, 26⟩] : List Pos).getD n ⟨0, 0, 0, 0⟩
def psR (n : Nat) : Pos := ([⟨15, 17, 15, 21⟩, ⟨15, 23, 15, 29⟩, ⟨16, 8, 16, 13⟩, ⟨16, 8, 16, 15⟩, ⟨16, 8, 16, 24⟩, ⟨16, 25, 16, 31⟩, ⟨16, 8, 16, 32⟩, ⟨16, 8, 16, 32⟩, ⟨17, 8, 17, 12⟩, ⟨17, 8, 17, 19⟩, ⟨17, 22, 17, 28⟩, ⟨17, 8, 17, 28⟩] : List Pos).getD n ⟨0, 0, 0, 0⟩
theorem excN_M : ExcN "limit" "TooMany.__init__" psM where
  l1 := by decide +kernel
  l2 := by decide +kernel
  l3 := by decide +kernel
  ld := by decide +kernel
  hne := by decide +kernel
  hbd := fun _ _ _ _ _ _ _ _ _ => rfl
  hev := fun env => by
    show eval (.Call (.Attribute (.Call (.Name "super" (psM 2)) [] [] (psM 3)) "__init__" (psM 4)) [.Name "limit" (psM 5)] [] (psM 6)) env = _
    rw [arm_eval_Call]
    congr 1
  hsw := fun env h => rfl
theorem excN_R : ExcN "reason" "Refused.__init__" psR where
  l1 := by decide +kernel
  l2 := by decide +kernel
  l3 := by decide +kernel
  ld := by decide +kernel
  hne := by decide +kernel
  hbd := fun _ _ _ _ _ _ _ _ _ => rfl
  hev := fun env => by
    show eval (.Call (.Attribute (.Call (.Name "super" (psR 2)) [] [] (psR 3)) "__init__" (psR 4)) [.Name "reason" (psR 5)] [] (psR 6)) env = _
    rw [arm_eval_Call]
    congr 1
  hsw := fun env h => rfl
end K80
set_option Elab.async false
set_option linter.all false
set_option maxRecDepth 100000
set_option maxHeartbeats 4000000
/-! far_lot, label_places, assemble. -/
namespace K80
open PySem PySem.Spec PyProof.Rows L2
def bmOv : List Value := [.type "OverflowError", .type "ArithmeticError", .type "Exception", .type "BaseException", .type "object"]
def bmAr : List Value := [.type "ArithmeticError", .type "Exception", .type "BaseException", .type "object"]
structure TxtX (P : Program) (K : PySem.W.Frag) (mg : Str → Option Value) (CI CL CM CR : Addr) : Prop where
  tm : ∃ fM, ExcT P K mg "TooMany" "limit" "TooMany.__init__" psM "OverflowError" "OverflowError.__new__" "OverflowError.__init__" bmOv CM fM
  tr : ∃ fR, ExcT P K mg "Refused" "reason" "Refused.__init__" psR "ArithmeticError" "ArithmeticError.__new__" "ArithmeticError.__init__" bmAr CR fR
  xm : XfC K CM
  nm : PySem.W.findIn K (.ref CM) "limit" = some none
  xr : XfC K CR
  nr : PySem.W.findIn K (.ref CR) "reason" = some none
  mm : PySem.W.exmOne K (.ref CM) (.ref CM) = some true
  rm : PySem.W.exmOne K (.ref CR) (.ref CM) = some false
  rr : PySem.W.exmOne K (.ref CR) (.ref CR) = some true
  ss : PySem.W.exmOne K (.ref CI) (.ref CI) = some true
  ls : PySem.W.exmOne K (.ref CL) (.ref CI) = some false
  ll : PySem.W.exmOne K (.ref CL) (.ref CL) = some true
theorem cut_two (ls : List Line) (far : List Nat) {i : Nat} (h : i < ls.length) : cutV (placesV ls far) (some (i : Nat)) (some ((i : Nat) + 2)) = [natV (pos ls far i), natV (pos ls far (i + 1))] := by
  have hl : (placesV ls far).length = ls.length + 1 := plTo_len ls far _
  unfold cutV
  rw [HT.sIx_nat, show (((i : Nat) : Int) + 2) = ((i + 2 : Nat) : Int) by omega, HT.sIx_nat, hl, Nat.min_eq_left (show i ≤ ls.length + 1 by omega), Nat.min_eq_left (show i + 2 ≤ ls.length + 1 by omega)]
  rw [show i + 2 - i = 2 by omega]
  apply List.ext_getElem?
  intro j
  rw [List.getElem?_take]
  by_cases hj : j < 2
  · rw [if_pos hj, List.getElem?_drop]
    unfold placesV
    rw [plTo_get ls far (show i + j < ls.length + 1 by omega)]
    have : j = 0 ∨ j = 1 := by omega
    rcases this with rfl | rfl <;> rfl
  · rw [if_neg hj]
    symm
    exact List.getElem?_eq_none_iff.mpr (by simpa using Nat.le_of_not_lt hj)
def mostOf (wd : Int) : Int := if (2 : Int) ^ wd.toNat - 1 < 255 then 2 ^ wd.toNat - 1 else 255
section
variable {P : Program} {w : World} {K : PySem.W.Frag} {mg : Str → Option Value} {base : Heap} {CS CI CL CM CR : Addr}
def spFarLot (K : PySem.W.Frag) (CS CI CL : Addr) : Sp := fun vs H Q E => ∃ v l : V, vs = [v, l] ∧ ReqA K CS CI CL v l H (fun _ _ ls => ∀ p f H', Same H H' → H p = none → H' p = some (.tup (f.map natV)) → Least ls f → f.Pairwise (· < ·) → Q (.ref p) H') E
theorem cal_far_lot (T : Txt K mg CS CI CL) : Cal P w K mg base (L2.CX P w) 7 "far_lot" ["shape", "lines"] (spFarLot K CS CI CL) := by
  refine T.d_far_lot.calX sc_far_lot (fun vs H Q E h => ?_) (fun _ _ _ _ _ _ us hl => match us, hl with | [_, _], _ => rfl) (fun f cdv A outer s H vs Q E hr h => ?_)
  · obtain ⟨v, l, rfl, _⟩ := h
    rfl
  · obtain ⟨v, l, rfl, h⟩ := h
    refine ⟨_, pss_cons (ps_expr (pe_cal (cal_require_assembly T) hr (by rfl) (passes_call (takes_of rfl rfl rfl rfl) (fun _ _ _ _ h => h)) (pa_cons (pv 0) (pa_cons (pv 1) pa_nil))))
      (pss_one (ps_ret (pe_cal (cal_least_lot T) (hr.mono (by decide)) (by rfl) pass0 (pa_cons (pv 1) pa_nil)))), ?_⟩
    refine ⟨v, rfl, l, rfl, v, l, rfl, ?_⟩
    rcases h with h | h | ⟨a, wd, rg, ls, rfl, hs, hg, q⟩
    · exact .inl h
    · exact .inr (.inl h)
    · refine .inr (.inr ⟨a, wd, rg, ls, rfl, hs, hg, fun H1 s1 => ?_⟩)
      obtain ⟨t, rfl, hL, hl1, hl2, hok, hlo⟩ := hg
      exact ⟨.ref t, rfl, t, ls, rfl, hL.same s1, hl2, hlo, fun p f H2 s2 np hp hL hw => q p f H2 (s1.trans s2) (s1.free np) hp hL hw⟩
def labTab (ls : List Line) (far : List Nat) (ys : List Str) : List (Key × V) := ys.map fun x => (Sum.inr x, natV (pos ls far (labIx ls x)))
def spLabelPlaces (K : PySem.W.Frag) (CS CI CL : Addr) : Sp := fun vs H Q E => ∃ v l : V, vs = [v, l] ∧ ReqA K CS CI CL v l H (fun _ _ ls => (ls.filterMap Line.labN).length < 64 ∧
  ∀ p f ys H', Same H H' → H p = none → Least ls f → ys.Perm (ls.filterMap Line.labN) → sortedS ys = true → H' p = some (.dK (labTab ls f ys)) → Q (.ref p) H') E
theorem cal_label_places (T : Txt K mg CS CI CL) : Cal P w K mg base (L2.CX P w) 7 "label_places" ["shape", "lines"] (spLabelPlaces K CS CI CL) := by
  refine T.d_label_places.calX sc_label_places (fun vs H Q E h => ?_) (fun _ _ _ _ _ _ us hl => match us, hl with | [_, _], _ => rfl) (fun f cdv A outer s H vs Q E hr h => ?_)
  · obtain ⟨v, l, rfl, _⟩ := h
    rfl
  · obtain ⟨v, l, rfl, h⟩ := h
    refine ⟨_, pss_cons (ps_expr (pe_cal (cal_require_assembly T) hr (by rfl) (passes_call (takes_of rfl rfl rfl rfl) (fun _ _ _ _ h => h)) (pa_cons (pv 0) (pa_cons (pv 1) pa_nil))))
      (pss_cons (ps_set (i := 2) sc_label_places.nd rfl (.inr rfl) (pe_cal (cal_label_table T) (hr.mono (by decide)) (by rfl) pass0 (pa_cons (pv 1) (pa_cons (pe_cal (cal_line_places T) (hr.mono (by decide)) (by rfl) pass0 (pa_cons (pv 1) (pa_cons (pe_cal (cal_least_lot T) (hr.mono (by decide)) (by rfl) pass0 (pa_cons (pv 1) pa_nil)) pa_nil))) pa_nil))))
      (pss_one (ps_ret (pe_dc (own := [("name", 3)]) (g := gName 3) (tt := tYes) rfl sc_label_places.nd (pi_list (pe_callB (call_sortedD rfl) (by rfl) T.b.sorted (by decide +kernel) (pa_cons (pv 2) pa_nil))) (blkOk_by (own := [("name", 3)]) (N := n_label_places) (sc := defScope s_label_places) (by decide +kernel))
        (fun _ _ _ _ _ => pg_name (i := 3) sc_label_places.nd rfl (.inl rfl)) (fun _ _ _ _ _ => pts_nil) (fun _ _ _ _ _ => pv 3) (fun _ _ _ _ _ => pe_dget (hu_of hr) (pv 2) (pv 3) (fun _ _ => rfl)))))), ?_⟩
    refine ⟨v, rfl, l, rfl, v, l, rfl, ?_⟩
    rcases h with h | h | ⟨a, wd, rg, ls, rfl, hs, hg, h64, q⟩
    · exact .inl h
    · exact .inr (.inl h)
    · refine .inr (.inr ⟨a, wd, rg, ls, rfl, hs, hg, fun H1 s1 => ?_⟩)
      obtain ⟨t, rfl, hL, hl1, hl2, hok, hlo⟩ := hg
      refine ⟨.ref t, rfl, .ref t, rfl, .ref t, rfl, t, ls, rfl, hL.same s1, hl2, hlo, fun p far H2 s2 np hp hLe hw => ?_⟩
      have s12 := s1.trans s2
      refine ⟨t, .ref p, ls, far, rfl, hL.same s12, ⟨p, rfl, .inr (sqT_at hp)⟩, hl2, fun o H3 s3 no ho => ?_⟩
      have s13 := s12.trans s3
      refine ⟨t, o, ls, far, rfl, hL.same s13, sqL_at ho, hl2, hlo, fun d H4 s4 nd hd => ?_⟩
      have s14 := s13.trans s4
      have ek : (tabV ls far).map (·.1) = (ls.filterMap Line.labN).map Sum.inr := by
        have := tabTo_keys ls far (Nat.le_refl ls.length)
        rw [List.take_of_length_le (Nat.le_refl _)] at this
        exact this
      refine ⟨.ref d, rfl, d, _, _, rfl, .inl hd, ek, h64, fun ys m hperm hsrt nm => ?_⟩
      have hnd : ys.Nodup := hperm.nodup_iff.mpr (labs_nd hlo)
      have sm := same_upd (o := .lst (ys.map V.str)) nm
      refine ⟨m, rfl, ⟨_, sqL_at upd_same⟩, fun D hD => dc_it (walk_list (xs := ys.map V.str)) (fun i H' => AccD (upd H4 m (.lst (ys.map V.str))) D (labTab ls far (ys.take i)) H') (AccD.start hD) (fun i H' _ a => sqL_at (a.s _ _ upd_same)) (fun i x H5 H6 hi a y => ?_) (fun H' a => ?_)⟩
      · obtain ⟨rfl, hx⟩ := y
        rw [List.getElem?_map] at hx
        obtain ⟨z, ez, rfl⟩ := Option.map_eq_some_iff.mp hx
        have hz : z ∈ ls.filterMap Line.labN := hperm.mem_iff.mp (List.mem_of_getElem? ez)
        have hd5 : H6 d = some (.dK (tabV ls far)) := a.s _ _ (sm _ _ hd)
        have hget : DGet H6 d (.str z) (some (natV (pos ls far (labIx ls z)))) := by
          have q := DGet.k (k := Sum.inr z) hd5
          rw [tabV_get far hlo hz] at q
          exact q
        refine ⟨rfl, .str z, rfl, .ref d, rfl, .str z, rfl, d, _, rfl, hget, _, Sum.inr z, rfl, a.d, ?_, ?_⟩
        · unfold labTab
          rw [List.length_map, List.length_take]
          have h1 := hperm.length_eq
          exact small1000 (by omega)
        · have et : labTab ls far (ys.take (i + 1)) = putK (labTab ls far (ys.take i)) (Sum.inr z) (natV (pos ls far (labIx ls z))) := by
            rw [putK_new _ (valV_none fun hm => ?_), List.take_add_one, ez]
            · unfold labTab
              rw [List.map_append]
              rfl
            · unfold labTab at hm
              rw [List.map_map] at hm
              obtain ⟨u, hu, eu⟩ := List.mem_map.mp hm
              have eu : (Sum.inr u : Key) = Sum.inr z := eu
              injection eu with eu
              subst eu
              obtain ⟨j, hj, ej⟩ := List.mem_iff_getElem.mp hu
              rw [List.getElem_take] at ej
              rw [List.length_take] at hj
              have := nd_ix hnd (List.getElem?_eq_getElem (show j < ys.length by omega)) (ej ▸ ez)
              omega
          show AccD _ D (labTab ls far (ys.take (i + 1))) _
          rw [et]
          exact a.to
      · rw [List.length_map, List.take_of_length_le (Nat.le_refl _)] at a
        exact q D far ys H' (s14.trans (sm.trans a.s)) ((s14.trans sm).free a.n) hLe hperm hsrt a.d
/-- what assemble gives for good lines -/
def AsmQ (K : PySem.W.Frag) (CM CR : Addr) (H : Hp) (wd rg : Int) (ls : List Line) (Q : VK) (E : XK) : Prop := 4 ≤ wd ∧ wd ≤ 16 ∧ regOk rg ∧ ∀ f, Least ls f → f.Pairwise (· < ·) →
  (mostOf wd < (pos ls f ls.length : Nat) → ∀ d H', Same H H' → H d = none → H' d = some (.xd [("limit", .int (mostOf wd))]) → E (.ref CM) (some d) H') ∧
  (((pos ls f ls.length : Nat) : Int) ≤ mostOf wd → pos ls f ls.length = 0 → ∀ u d H', Same H H' → H d = none → H' d = some (.xd [("reason", .ref u)]) → SqT K H' u [.str "empty"] → E (.ref CR) (some d) H') ∧
  (((pos ls f ls.length : Nat) : Int) ≤ mostOf wd → pos ls f ls.length ≠ 0 → ∀ p H', Same H H' → H p = none → H' p = some (.tup ((prog rg ls f).map V.int)) → Q (.ref p) H')
def spAssemble (K : PySem.W.Frag) (CS CI CL CM CR : Addr) : Sp := fun vs H Q E => ∃ v l : V, vs = [v, l] ∧ ReqA K CS CI CL v l H (fun wd rg ls => AsmQ K CM CR H wd rg ls Q E) E
theorem cal_assemble (T : Txt K mg CS CI CL) (TX : TxtX P K mg CI CL CM CR) : Cal P w K mg base (L2.CX P w) 7 "assemble" ["shape", "lines"] (spAssemble K CS CI CL CM CR) := by
  obtain ⟨fM, tm⟩ := TX.tm
  obtain ⟨fR, tr⟩ := TX.tr
  obtain ⟨pr, kr⟩ := T.shape.reg
  obtain ⟨pw, kw⟩ := T.shape.wid
  refine T.d_assemble.calX sc_assemble (fun vs H Q E h => ?_) (fun _ _ _ _ _ _ us hl => match us, hl with | [_, _], _ => rfl) (fun f cdv A outer s H vs Q E hr h => ?_)
  · obtain ⟨v, l, rfl, _⟩ := h
    rfl
  · obtain ⟨v, l, rfl, h⟩ := h
    refine ⟨_, pss_cons (ps_expr (pe_cal (cal_require_assembly T) hr (by rfl) (passes_call (takes_of rfl rfl rfl rfl) (fun _ _ _ _ h => h)) (pa_cons (pv 0) (pa_cons (pv 1) pa_nil))))
      (pss_cons (ps_set (i := 2) sc_assemble.nd rfl (.inl rfl) (pe_cal (cal_line_places T) (hr.mono (by decide)) (by rfl) pass0 (pa_cons (pv 1) (pa_cons (pe_cal (cal_least_lot T) (hr.mono (by decide)) (by rfl) pass0 (pa_cons (pv 1) pa_nil)) pa_nil))))
      (pss_cons (ps_set (i := 3) sc_assemble.nd rfl (.inl rfl) (pe_callB (call_min2 rfl) (by rfl) T.b.min (by decide +kernel) (pa_cons (pe_gl T.c_MOST_PLACE (by rfl)) (pa_cons (pe_op op_sub (pe_op op_shl pe_int (SlX.pe_sl (pv 0))) pe_int) pa_nil))))
      (pss_cons (ps_if (pt_cmpR op_gt (pe_ix ix_list (pv 2) (pe_un un_neg pe_int) (fun _ _ => rfl)) (pv 3) (nomark _))
        (pss_one (ps_raise rfl (takes_of rfl rfl rfl rfl) (pmk_sup tm PySem.F.excBase_OverflowError PySem.W.kxs_OverflowError PySem.F.store_OverflowError excN_M hr (by decide) (pa_cons (pv 3) pa_nil) rfl))) pss_nil)
      (pss_cons (ps_if (pt_cmpR op_eq (pe_ix ix_list (pv 2) (pe_un un_neg pe_int) (fun _ _ => rfl)) pe_int (nomark _))
        (pss_one (ps_raise rfl (takes_of rfl rfl rfl rfl) (pmk_sup tr PySem.F.excBase_ArithmeticError PySem.W.kxs_ArithmeticError PySem.F.store_ArithmeticError excN_R hr (by decide) (pa_cons (pe_tup (pa_cons pe_str pa_nil)) pa_nil) rfl))) pss_nil)
      (pss_cons (ps_par (i := 4) (j := 5) rfl sc_assemble.nd rfl rfl (by decide) rfl rfl (pa_cons (pe_cal (cal_label_table T) (hr.mono (by decide)) (by rfl) pass0 (pa_cons (pv 1) (pa_cons (pv 2) pa_nil))) (pa_cons (pe_lst pa_nil) pa_nil)) rfl)
      (pss_cons (ps_for (passes_of rfl) rfl (pi_enumT (by rfl) T.b.enumerate (pa_cons (pv 1) pa_nil)) (pg_tup rfl (pgs_cons (pg_name (i := 6) sc_assemble.nd rfl (.inl rfl)) (pgs_cons (pg_name (i := 7) sc_assemble.nd rfl (.inl rfl)) pgs_nil)))
        (pss_one (ps_if (pt_not (pt_val (pe_cal (cal_is_label T) (hr.mono (by decide)) (by rfl) pass0 (pa_cons (pv 7) pa_nil))))
          (pss_one (ps_expr (pe_bm PySem.F.plainAttrs_list PySem.F.slot_list_extend PySem.F.type_list_extend mt_extend (pv 5) (pa_cons (pe_cal (cal_words T) (hr.mono (by decide)) (by rfl) pass0 (pa_cons (pv 7) (pa_cons (pe_slice sl_list (pv 2) (po_some (pv 6)) (po_some (pe_op op_add (pv 6) pe_int))) (pa_cons (pv 4) (pa_cons (pe_op op_sub (SlX.pe_sl (pv 0)) pe_int) pa_nil))))) pa_nil)))) pss_nil)))
      (pss_one (ps_ret (pe_callTy call_tuple_of (by rfl) T.b.tuple boot_tuple (pa_cons (pv 5) pa_nil)))))))))), ?_⟩
    refine ⟨v, rfl, l, rfl, v, l, rfl, ?_⟩
    rcases h with h | h | ⟨a, wd, rg, ls, rfl, hs, hg, w4, w16, hrg, q⟩
    · exact .inl h
    · exact .inr (.inl h)
    · refine .inr (.inr ⟨a, wd, rg, ls, rfl, hs, hg, fun H1 s1 => ?_⟩)
      obtain ⟨t, rfl, hL, hl1, hl2, hok, hlo⟩ := hg
      refine ⟨.ref t, rfl, .ref t, rfl, t, ls, rfl, hL.same s1, hl2, hlo, fun p far H2 s2 np hp hLe hw => ?_⟩
      have s12 := s1.trans s2
      refine ⟨t, .ref p, ls, far, rfl, hL.same s12, ⟨p, rfl, .inr (sqT_at hp)⟩, hl2, fun o H3 s3 no ho => ?_⟩
      have s13 := s12.trans s3
      obtain ⟨q1, q2, q3⟩ := q far hLe hw
      -- most
      obtain ⟨dx, sv, h3s, h3w, h3r⟩ := hs.same s13
      refine ⟨.ref a, rfl, a, CS, dx, pw, sv, 1, _, rfl, h3s, T.shape.cls, kw, h3w, 1, wd, rfl, rfl, cpow _ _ (by decide) (by decide) (by omega) (by omega), _, 1, rfl, rfl, 255, 2 ^ wd.toNat - 1, by show [V.int 255, V.int (1 * 2 ^ wd.toNat - 1)] = _; rw [Int.one_mul], ?_⟩
      have m255 : mostOf wd ≤ 255 := by
        unfold mostOf
        split <;> omega
      -- places[-1] > most
      have hlast : atI (placesV ls far) (-1) = some (natV (pos ls far ls.length)) := by
        unfold placesV
        rw [plTo_succ]
        exact atI_last _ _
      refine ⟨.ref o, rfl, 1, rfl, o, _, -1, _, rfl, rfl, sqL_at ho, hlast, _, rfl, (pos ls far ls.length : Nat), mostOf wd, rfl, rfl, _, rfl, ?_⟩
      by_cases c1 : mostOf wd < (pos ls far ls.length : Nat)
      · rw [decide_eq_true c1]
        refine iteT ⟨_, rfl, _, rfl, fun d nd => ?_⟩
        exact q1 c1 d _ (s13.trans (same_upd nd)) (s13.free nd) upd_same
      rw [decide_eq_false c1]
      have c1' : ((pos ls far ls.length : Nat) : Int) ≤ mostOf wd := by omega
      refine iteF ⟨.ref o, rfl, 1, rfl, o, _, -1, _, rfl, rfl, sqL_at ho, hlast, rfl, _, rfl, ?_⟩
      by_cases c2 : pos ls far ls.length = 0
      · rw [decide_eq_true (show natV (pos ls far ls.length) = .int 0 by rw [c2]; rfl)]
        refine iteT ⟨by show 1 ≤ sizeLine; decide, fun u nu => ⟨_, rfl, fun d nd => ?_⟩⟩
        have su := same_upd (o := .tup [.str "empty"]) nu
        exact q2 c1' c2 u d _ (s13.trans (su.trans (same_upd nd))) ((s13.trans su).free nd) upd_same ((same_upd nd).sqT (sqT_at upd_same))
      rw [decide_eq_false (show ¬ natV (pos ls far ls.length) = .int 0 from fun z => c2 (by injection z with z; omega))]
      refine iteF ⟨.ref t, rfl, .ref o, rfl, t, o, ls, far, rfl, hL.same s13, sqL_at ho, hl2, hlo, fun tb H4 s4 ntb htb => ?_⟩
      have s14 := s13.trans s4
      have p255 : pos ls far ls.length ≤ 255 := by omega
      refine ⟨Nat.zero_le _, fun z nz => ?_⟩
      have sZ := same_upd (o := .lst []) nz
      refine ⟨_, _, rfl, ?_⟩
      obtain ⟨xs, hxs, hls⟩ := hL
      have s14z : Same H (upd H4 z (.lst [])) := s14.trans sZ
      refine ⟨.ref t, rfl, t, xs, rfl, s14z.sqT hxs, for_it (walk_enumT (xs := xs)) (fun i σ H' => ∃ y6 y7, σ = [some (.ref a), some (.ref t), some (.ref o), some (.int (mostOf wd)), some (.ref tb), some (.ref z), y6, y7] ∧ Acc H4 z ((progTo rg ls far i).map V.int) H') ⟨none, none, rfl, Acc.start nz⟩ (fun i σ H' _ h => ?_) (fun i x σ H5 H6 hi h y => ?_) (fun σ H' h => ?_)⟩
      · obtain ⟨_, _, _, b⟩ := h
        exact (s14.trans b.s).sqT hxs
      · obtain ⟨y6, y7, rfl, b⟩ := h
        obtain ⟨U, i', x', rfl, nU, rfl, e1, hx⟩ := y
        injection e1 with e1
        subst e1
        have b2 := b.same (same_upd (o := .tup [.int (i : Nat), x']) nU)
        obtain ⟨l, el, hl⟩ := hls.at_ hx
        have hl6 : LineV K _ x' l := hl.keep (keepT_same (s14.trans b2.s))
        have hi2 := (List.getElem?_eq_some_iff.mp el).1
        have hokl : okLine l = true := List.all_eq_true.mp hok l (List.mem_of_getElem? el)
        refine ⟨U, _, rfl, sqT_at upd_same, rfl, _, _, rfl, _, _, rfl, rfl, ?_⟩
        refine ⟨x', rfl, x', l, rfl, hl6, _, rfl, ?_⟩
        cases c : l.isLab with
        | true =>
          refine iteF ⟨_, _, rfl, ?_⟩
          have : progTo rg ls far (i + 1) = progTo rg ls far i := by
            show progTo rg ls far i ++ wordsAt rg ls far i = _
            have : wordsAt rg ls far i = [] := by
              unfold wordsAt
              rw [el]
              cases l <;> first | rfl | cases c
            rw [this, List.append_nil]
          rw [this]
          exact b2
        | false =>
          have ho6 := b2.s _ _ (s4 _ _ ho)
          have htb6 := b2.s _ _ htb
          obtain ⟨dx6, sv6, h6s, h6w, h6r⟩ := hs.same (s14.trans b2.s)
          refine iteT ⟨.ref z, rfl, .inl ⟨rfl, _, sqL_at b2.d⟩, x', rfl, .ref o, rfl, _, rfl, (i : Nat), rfl, _, rfl, _, _, rfl, rfl, _, rfl, o, _, rfl, sqL_at ho6, fun c nc => ?_⟩
          have b3 := b2.same (same_upd (o := .lst (cutV (placesV ls far) (some (i : Nat)) (some ((i : Nat) + 2)))) nc)
          have sc3 := same_upd (o := .lst (cutV (placesV ls far) (some (i : Nat)) (some ((i : Nat) + 2)))) nc
          refine ⟨_, rfl, .ref a, rfl, a, CS, dx6, pr, sv6, 0, _, rfl, slt_same sc3 h6s, T.shape.cls, kr, h6r, rg, 1, rfl, rfl, ?_⟩
          refine ⟨x', c, tb, rg, ls, far, i, l, rfl, el, hl6.keep (keepT_same sc3), by assumption, sqL_at (by rw [upd_same, cut_two ls far hi2]), sc3 _ _ htb6, hlo, hokl, hrg, p255, hLe.br, fun m H7 s7 nm hm => ?_⟩
          have b4 := b3.same s7
          have pl : (progTo rg ls far i).length = pos ls far i := progTo_len hLe.br i (Nat.le_of_lt hi2)
          have wl : (wordsAt rg ls far i).length ≤ 4 := by
            rw [wordsAt_len hLe.br hi2]
            unfold sz
            split
            · exact Nat.le_refl _
            · split <;> decide
          have pp := pos_le ls far (Nat.le_of_lt hi2)
          refine ⟨z, m, _, _, rfl, rfl, b4.d, hm, ?_, ?_⟩
          · rw [List.length_map, List.length_map]
            exact Nat.le_of_lt (small1000 (by omega))
          · refine ⟨_, _, rfl, ?_⟩
            rw [← List.map_append]
            exact b4.to
      · obtain ⟨y6, y7, rfl, b⟩ := h
        rw [hls.1] at b
        refine ⟨_, rfl, z, _, rfl, .inl ⟨sqL_at b.d, fun r nr => ?_⟩⟩
        exact q3 c1' c2 r _ ((s14.trans b.s).trans (same_upd nr)) ((s14.trans b.s).free nr) upd_same
end
end K80
set_option Elab.async false
set_option linter.all false
set_option maxRecDepth 100000
set_option maxHeartbeats 4000000
/-! _law_dice, _law_roll, _law_one_of, _law_two_to, _law_step_word, _law_step_drawn. -/
namespace K80
open PySem PySem.Spec PyProof.Rows L2
/-- the dice at D: a list of three whole numbers -/
def Dice (H : Hp) (D : Addr) : Prop := ∃ x y z : Int, H D = some (.lst [.int x, .int y, .int z])
/-- the dice have moved; all else stays -/
structure DS (D : Addr) (H H' : Hp) : Prop where
  b : But D H H'
  d : Dice H' D
theorem DS.refl {D : Addr} {H : Hp} (h : Dice H D) : DS D H H := ⟨But.refl D H, h⟩
theorem DS.trans {D : Addr} {H H1 H2 : Hp} (a : DS D H H1) (b : DS D H1 H2) : DS D H H2 := ⟨a.b.trans b.b, b.d⟩
theorem Dice.same {D : Addr} {H H' : Hp} (e : Same H H') (h : Dice H D) : Dice H' D := by
  obtain ⟨x, y, z, q⟩ := h
  exact ⟨x, y, z, e _ _ q⟩
theorem DS.of {D : Addr} {H H' : Hp} (h : Dice H D) (e : Same H H') : DS D H H' := ⟨.of e, h.same e⟩
theorem DS.same {D : Addr} {H H1 H2 : Hp} (a : DS D H H1) (e : Same H1 H2) : DS D H H2 := a.trans (.of a.d e)
theorem DS.free {D : Addr} {H H' : Hp} (a : DS D H H') {p : Addr} (n : H' p = none) : H p = none := by
  cases q : H p with
  | none => rfl
  | some o =>
    by_cases e : p = D
    · obtain ⟨x, y, z, h⟩ := a.d
      rw [e, h] at n
      cases n
    · rw [a.b p o q e] at n
      cases n
theorem DS.ne {D p : Addr} {H : Hp} (h : Dice H D) (n : H p = none) : p ≠ D := fun e => by
  obtain ⟨x, y, z, q⟩ := h
  rw [e, q] at n
  cases n
theorem DS.keepT {K : PySem.W.Frag} {D : Addr} {H H' : Hp} (h : Dice H D) (a : DS D H H') : KeepT K H H' := by
  obtain ⟨x, y, z, q⟩ := h
  exact keepT_but q a.b
theorem DS.upd {D : Addr} {H : Hp} (x y z : Int) : DS D H (L2.upd H D (.lst [.int x, .int y, .int z])) := ⟨but_upd D H _, x, y, z, upd_same⟩
/-- a new list at L holds ys; of H1 only the dice have moved -/
structure AccB (D : Addr) (H1 : Hp) (L : Addr) (ys : List V) (H : Hp) : Prop where
  n : H1 L = none
  ne : L ≠ D
  s : DS D H1 H
  d : H L = some (.lst ys)
theorem AccB.start {D : Addr} {H1 : Hp} {L : Addr} {ys : List V} (h : Dice H1 D) (n : H1 L = none) : AccB D H1 L ys (upd H1 L (.lst ys)) := ⟨n, DS.ne h n, .of h (same_upd n), upd_same⟩
theorem AccB.go {D : Addr} {H1 H H' : Hp} {L : Addr} {ys : List V} (a : AccB D H1 L ys H) (e : DS D H H') : AccB D H1 L ys H' := ⟨a.n, a.ne, a.s.trans e, e.b _ _ a.d a.ne⟩
theorem AccB.to {D : Addr} {H1 H : Hp} {L : Addr} {ys zs : List V} (a : AccB D H1 L ys H) : AccB D H1 L zs (upd H L (.lst zs)) := ⟨a.n, a.ne, ⟨fun b o h nb => by
  rw [upd_ne (ne_of_none h a.n)]
  exact a.s.b b o h nb, by
  obtain ⟨x, y, z, q⟩ := a.s.d
  exact ⟨x, y, z, by rw [upd_ne (Ne.symm a.ne)]; exact q⟩⟩, upd_same⟩
theorem AccB.back {D : Addr} {H0 H1 H : Hp} {L : Addr} {ys : List V} (a : AccB D H1 L ys H) (e : DS D H0 H1) : AccB D H0 L ys H := ⟨e.free a.n, a.ne, e.trans a.s, a.d⟩
section
variable {P : Program} {w : World} {K : PySem.W.Frag} {mg : Str → Option Value} {base : Heap} {CS CI CL CM CR : Addr}
def spDice (K : PySem.W.Frag) : Sp := fun vs H Q _ => ∃ (a : Addr) (ns : List Int) (i : Nat), vs = [.ref a, .int (i : Nat)] ∧ SqL K H a (ns.map V.int) ∧ i ≤ 3 ∧ ∀ p H', Same H H' → H p = none → Dice H' p → Q (.ref p) H'
theorem cal_dice (T : Txt K mg CS CI CL) : Cal P w K mg base CX0 1 "_law_dice" ["_law_script", "_law_at"] (spDice K) := by
  refine T.d_Ldice.cal0 sc_Ldice (fun vs H Q E h => ?_) (fun _ _ _ _ _ _ us hl => match us, hl with | [_, _], _ => rfl) (fun f cdv A outer s H vs Q E hr h => ?_)
  · obtain ⟨_, _, _, rfl, _⟩ := h
    rfl
  · obtain ⟨a, ns, i, rfl, hs, hi, q⟩ := h
    refine ⟨_, pss_cons (ps_set (i := 2) sc_Ldice.nd rfl (.inl rfl) (pe_op op_add (pe_op op_mul pe_int (pv 1)) pe_int))
      (C8.pss_cut (ps_if (pt_cmpR op_lt (pv 1) (pe_callB call_len_seq (by rfl) T.b.len PySem.boot_len (pa_cons (pv 0) pa_nil)) (nomark _)) (pss_one (ps_set (i := 2) sc_Ldice.nd rfl (.inl rfl) (pe_ix ix_list (pv 0) (pv 1) (fun _ _ => rfl)))) pss_nil)
      (pss_cons (ps_set (i := 3) sc_Ldice.nd rfl (.inl rfl) (pe_op op_mod (pe_callTy call_int1 (by rfl) T.b.int (by decide +kernel) (pa_cons (pe_callB call_abs (by rfl) T.b.abs (by decide +kernel) (pa_cons (pv 2) pa_nil)) pa_nil)) (pe_op op_powW (pe_op op_pow pe_int pe_int) pe_int)))
      (pss_cons (ps_set (i := 4) sc_Ldice.nd rfl (.inl rfl) (pe_op op_fdivW (pv 3) (pe_op op_pow pe_int pe_int)))
      (pss_cons (ps_set (i := 5) sc_Ldice.nd rfl (.inl rfl) (pe_op op_add (pe_op op_add (pe_op op_add (pe_op op_mul (pe_op op_mod (pv 3) pe_int) pe_int) (pe_op op_mul pe_int (pv 1))) (pe_op op_mul pe_int (pe_callTy call_int1 (by rfl) T.b.int (by decide +kernel) (pa_cons (pe_cmpR op_lt (pv 2) pe_int (nomark _)) pa_nil)))) pe_int))
      (pss_one (ps_ret (pe_lst (pa_cons (pv 4) (pa_cons (pe_op op_mod (pv 5) pe_int) (pa_cons pe_int pa_nil)))))))))), ?_⟩
    refine ⟨_, rfl, 127, (i : Nat), rfl, rfl, .inl ⟨by decide, by decide⟩, _, 73, rfl, rfl, ?_⟩
    refine ⟨fun σ H' => (∃ c : Int, σ = [some (.ref a), some (.int (i : Nat)), some (.int c), none, none, none]) ∧ H' = H, ?_, fun σ H' hM => ?_⟩
    · refine ⟨_, rfl, _, rfl, a, _, rfl, .inl hs, (i : Nat), _, rfl, rfl, _, rfl, ?_⟩
      by_cases c : (i : Int) < ((ns.map V.int).length : Nat)
      · rw [decide_eq_true c]
        have hi2 : i < ns.length := by rw [List.length_map] at c; omega
        exact iteT ⟨.ref a, rfl, _, rfl, a, _, (i : Nat), .int ns[i], rfl, rfl, hs, atI_nat (by rw [List.getElem?_map, List.getElem?_eq_getElem hi2]; rfl), ⟨_, rfl⟩, rfl⟩
      · rw [decide_eq_false c]
        exact iteF ⟨⟨_, rfl⟩, rfl⟩
    · obtain ⟨⟨c, rfl⟩, rfl⟩ := hM
      refine ⟨.int c, rfl, c, rfl, .inl ⟨_, rfl, 10, 62, rfl, rfl, ⟨by decide, by decide, by decide⟩, 10 ^ 62, 10, rfl, rfl, ⟨by decide, by decide +kernel⟩, _, _, rfl, rfl, (by show (0 : Int) < (10 ^ 62) ^ 10; decide +kernel), ?_⟩⟩
      refine ⟨_, rfl, 10, 18, rfl, rfl, ⟨by decide, by decide, by decide⟩, _, 10 ^ 18, rfl, rfl, wide_div (b := 64) (by decide) (by decide) (by decide) (by decide), ?_⟩
      refine ⟨_, rfl, _, 2147480009, rfl, rfl, (by show (0 : Int) < 2147480009; decide), _, 70121, rfl, rfl, .inr ⟨by decide, by decide⟩, _, rfl, 4127, (i : Nat), rfl, rfl, .inl ⟨by decide, by decide⟩, _, _, rfl, rfl, _, rfl, c, 0, rfl, rfl, .inr ⟨_, rfl, 113, _, rfl, rfl, .inl ⟨by decide, by decide⟩, _, _, rfl, rfl, _, 157, rfl, rfl, ?_⟩⟩
      exact ⟨_, rfl, _, rfl, _, 2147480011, rfl, rfl, (by show (0 : Int) < 2147480011; decide), by show 3 ≤ sizeLine; decide, fun p np => q p _ (same_upd np) np ⟨_, _, _, upd_same⟩⟩
end
end K80
set_option Elab.async false
set_option linter.all false
set_option maxRecDepth 100000
set_option maxHeartbeats 4000000
/-! _law_roll, _law_one_of, _law_two_to, _law_step_word, _law_step_drawn. -/
namespace K80
open PySem PySem.Spec PyProof.Rows L2
section
variable {P : Program} {w : World} {K : PySem.W.Frag} {mg : Str → Option Value} {base : Heap} {CS CI CL CM CR : Addr}
def spRoll : Sp := fun vs H Q _ => ∃ (D : Addr) (n : Int), vs = [.ref D, .int n] ∧ 0 < n ∧ n < 1000000 ∧ Dice H D ∧ ∀ (r : Int) H', 0 ≤ r → r < n → DS D H H' → Q (.int r) H'
theorem cal_roll (T : Txt K mg CS CI CL) : Cal P w K mg base CX0 1 "_law_roll" ["_law_dice_here", "_law_total"] spRoll := by
  refine T.d_Lroll.cal0 sc_Lroll (fun vs H Q E h => ?_) (fun _ _ _ _ _ _ us hl => match us, hl with | [_, _], _ => rfl) (fun f cdv A outer s H vs Q E hr h => ?_)
  · obtain ⟨_, _, rfl, _⟩ := h
    rfl
  · obtain ⟨D, n, rfl, n0, n1, ⟨x, y, z, hD⟩, q⟩ := h
    refine ⟨_, pss_cons (ps_set (i := 2) sc_Lroll.nd rfl (.inl rfl) (pe_callTy call_int1 (by rfl) T.b.int (by decide +kernel) (pa_cons (pv 1) pa_nil)))
      (pss_cons (ps_if (pt_cmpR op_gt (pe_ix ix_list (pv 0) pe_int (fun _ _ => rfl)) pe_int (nomark _))
        (pss_cons (ps_set (i := 3) sc_Lroll.nd rfl (.inl rfl) (pe_op op_mod (pe_ix ix_list (pv 0) pe_int (fun _ _ => rfl)) (pv 2)))
        (pss_cons (ps_asg (pe_op op_fdivW (pe_ix ix_list (pv 0) pe_int (fun _ _ => rfl)) (pv 2)) (pg_sub (pv 0) pe_int set_list (fun _ => rfl)))
        (pss_one (ps_ret (pe_callTy call_int1 (by rfl) T.b.int (by decide +kernel) (pa_cons (pv 3) pa_nil)))))) pss_nil)
      (pss_cons (ps_asg (pe_op op_add (pe_ix ix_list (pv 0) pe_int (fun _ _ => rfl)) pe_int) (pg_sub (pv 0) pe_int set_list (fun _ => rfl)))
      (pss_cons (ps_set (i := 4) sc_Lroll.nd rfl (.inl rfl) (pe_op op_mod (pe_op op_add (pe_ix ix_list (pv 0) pe_int (fun _ _ => rfl)) (pe_op op_mul pe_int (pe_ix ix_list (pv 0) pe_int (fun _ _ => rfl)))) pe_int))
      (pss_cons (ps_set (i := 5) sc_Lroll.nd rfl (.inl rfl) (pe_op op_add (pe_op op_mul (pe_op op_mod (pe_op op_mul (pv 4) (pv 4)) pe_int) (pv 4)) (pe_op op_mul pe_int (pe_ix ix_list (pv 0) pe_int (fun _ _ => rfl)))))
      (pss_cons (ps_set (i := 5) sc_Lroll.nd rfl (.inl rfl) (pe_op op_mod (pv 5) pe_int))
      (pss_one (ps_ret (pe_callTy call_int1 (by rfl) T.b.int (by decide +kernel) (pa_cons (pe_op op_mod (pe_op op_fdiv (pv 5) pe_int) (pv 2)) pa_nil))))))))), ?_⟩
    have e0 : ∀ {a b c : Int}, atI [V.int a, .int b, .int c] 0 = some (.int a) := fun {a b c} => atI_nat (j := 0) rfl
    have e1 : ∀ {a b c : Int}, atI [V.int a, .int b, .int c] 1 = some (.int b) := fun {a b c} => atI_nat (j := 1) rfl
    have e2 : ∀ {a b c : Int}, atI [V.int a, .int b, .int c] 2 = some (.int c) := fun {a b c} => atI_nat (j := 2) rfl
    refine ⟨_, rfl, .inl ⟨n, rfl, .ref D, rfl, D, _, 0, .int x, rfl, rfl, sqL_at hD, e0, x, 0, rfl, rfl, _, rfl, ?_⟩⟩
    by_cases c : 0 < x
    · rw [decide_eq_true c]
      refine iteT ⟨.ref D, rfl, D, _, 0, .int x, rfl, rfl, sqL_at hD, e0, .int n, rfl, x, n, rfl, rfl, n0, ?_⟩
      refine ⟨.ref D, rfl, D, _, 0, .int x, rfl, rfl, sqL_at hD, e0, .int n, rfl, x, n, rfl, rfl, wide_div (b := 64) n0 (by omega) (by decide) (by decide), ?_⟩
      refine ⟨.ref D, rfl, D, _, 0, 0, rfl, rfl, hD, rfl, _, rfl, .inl ⟨_, rfl, ?_⟩⟩
      exact q _ _ (Int.emod_nonneg _ (by omega)) (Int.emod_lt_of_pos _ n0) (DS.upd _ _ _)
    · rw [decide_eq_false c]
      refine iteF ⟨.ref D, rfl, D, _, 2, .int z, rfl, rfl, sqL_at hD, e2, z, 1, rfl, rfl, .ref D, rfl, D, _, 2, 2, rfl, rfl, hD, rfl, ?_⟩
      have hD2 : (upd H D (.lst [.int x, .int y, .int (z + 1)])) D = some (.lst [.int x, .int y, .int (z + 1)]) := upd_same
      refine ⟨.ref D, rfl, D, _, 1, .int y, rfl, rfl, sqL_at hD2, e1, .ref D, rfl, D, _, 2, .int (z + 1), rfl, rfl, sqL_at hD2, e2, 1000427, z + 1, rfl, rfl, .inl ⟨by decide, by decide⟩, y, _, rfl, rfl, _, 2305843009213693951, rfl, rfl, (by show (0 : Int) < 2305843009213693951; decide), ?_⟩
      have b1 : ∀ u m : Int, 0 < m → m ≤ 2305843009213693951 → -(2 ^ 64) < u % m ∧ u % m < 2 ^ 64 := fun u m h1 h2 => by
        have z1 := Int.emod_nonneg u (show m ≠ 0 by omega)
        have z2 := Int.emod_lt_of_pos u h1
        omega
      refine ⟨_, rfl, _, rfl, _, _, rfl, rfl, .inl (b1 _ _ (by decide) (by decide)), _, 2305843009213693921, rfl, rfl, (by show (0 : Int) < 2305843009213693921; decide), _, rfl, _, _, rfl, rfl, .inl (b1 _ _ (by decide) (by decide)), .ref D, rfl, D, _, 2, .int (z + 1), rfl, rfl, sqL_at hD2, e2, 9539, z + 1, rfl, rfl, .inl ⟨by decide, by decide⟩, _, _, rfl, rfl, ?_⟩
      refine ⟨_, rfl, _, 2305843009213693907, rfl, rfl, (by show (0 : Int) < 2305843009213693907; decide), ?_⟩
      refine ⟨_, rfl, _, 4096, rfl, rfl, ⟨by decide, by decide⟩, .int n, rfl, _, n, rfl, rfl, n0, .inl ⟨_, rfl, ?_⟩⟩
      exact q _ _ (Int.emod_nonneg _ (by omega)) (Int.emod_lt_of_pos _ n0) (DS.upd _ _ _)
def spOneOf (K : PySem.W.Frag) : Sp := fun vs H Q _ => ∃ (D p : Addr) (xs : List V), vs = [.ref D, .ref p] ∧ H p = some (.lst xs) ∧ p ≠ D ∧ 0 < xs.length ∧ xs.length ≤ 1000 ∧ Dice H D ∧ ∀ (x : V) H', x ∈ xs → DS D H H' → Q x H'
theorem cal_one_of (T : Txt K mg CS CI CL) : Cal P w K mg base CX0 2 "_law_one_of" ["_law_dice_here", "_law_items"] (spOneOf K) := by
  refine T.d_Lone_of.cal0 sc_Lone_of (fun vs H Q E h => ?_) (fun _ _ _ _ _ _ us hl => match us, hl with | [_, _], _ => rfl) (fun f cdv A outer s H vs Q E hr h => ?_)
  · obtain ⟨_, _, _, rfl, _⟩ := h
    rfl
  · obtain ⟨D, p, xs, rfl, hp, ne, l0, l1, hD, q⟩ := h
    refine ⟨_, pss_one (ps_ret (pe_ix ix_list (pv 1) (pe_cal (cal_roll T) hr (by rfl) pass0 (pa_cons (pv 0) (pa_cons (pe_callB call_len_seq (by rfl) T.b.len PySem.boot_len (pa_cons (pv 1) pa_nil)) pa_nil))) (fun _ _ => rfl))), ?_⟩
    refine ⟨.ref p, rfl, .ref D, rfl, .ref p, rfl, p, xs, rfl, .inl (sqL_at hp), D, (xs.length : Nat), rfl, by omega, by omega, hD, fun r H' r0 r1 ds => ?_⟩
    have hr : r.toNat < xs.length := by omega
    refine ⟨p, xs, r, xs[r.toNat], rfl, rfl, sqL_at (ds.b _ _ hp ne), ?_, q _ _ (List.getElem_mem hr) ds⟩
    exact at_of (show r = (r.toNat : Int) by omega) (List.getElem?_eq_getElem hr)
def spTwoTo : Sp := fun vs H Q _ => ∃ n : Nat, vs = [.int (n : Nat)] ∧ n ≤ 64 ∧ Q (.int (2 ^ n)) H
theorem cal_two_to (T : Txt K mg CS CI CL) : Cal P w K mg base CX0 1 "_law_two_to" ["_law_bits"] spTwoTo := by
  refine T.d_Ltwo_to.cal0 sc_Ltwo_to (fun vs H Q E h => ?_) (fun _ _ _ _ _ _ us hl => match us, hl with | [_], _ => rfl) (fun f cdv A outer s H vs Q E hr h => ?_)
  · obtain ⟨_, rfl, _⟩ := h
    rfl
  · obtain ⟨n, rfl, hn, q⟩ := h
    refine ⟨_, pss_cons (ps_set (i := 1) sc_Ltwo_to.nd rfl (.inl rfl) pe_int)
      (pss_cons (ps_for PassesOwn.never rfl (pi_range1 (by rfl) T.b.range (pa_cons (pv 0) pa_nil)) (pg_name (i := 2) sc_Ltwo_to.nd rfl (.inl rfl)) (pss_one (ps_set (i := 1) sc_Ltwo_to.nd rfl (.inl rfl) (pe_op op_mul pe_int (pv 1)))))
      (pss_one (ps_ret (pv 1)))), ?_⟩
    refine ⟨_, rfl, (n : Nat), rfl, by omega, by omega, for_range (n := ((n : Nat) : Int).toNat) (fun i σ H' => ∃ y, σ = [some (.int (n : Nat)), some (.int (2 ^ i)), y] ∧ H' = H) ⟨none, rfl, rfl⟩ (fun i σ H' hi h => ?_) (fun σ H' h => ?_)⟩
    · obtain ⟨y, rfl, rfl⟩ := h
      refine ⟨_, rfl, 2, _, rfl, rfl, .inl ⟨by decide, by decide⟩, some (.int (0 + (i : Nat))), ?_, rfl⟩
      have : (2 : Int) * 2 ^ i = 2 ^ (i + 1) := by rw [Int.pow_succ, Int.mul_comm]
      rw [← this]
      rfl
    · obtain ⟨y, rfl, rfl⟩ := h
      refine ⟨_, rfl, ?_⟩
      have e : ((n : Nat) : Int).toNat = n := by omega
      rw [e]
      exact q
def spStepWord : Sp := fun vs H Q _ => ∃ op a b c : Int, vs = [.int op, .int a, .int b, .int c] ∧ Q (.int (4096 * op + 512 * (a % 8) + 64 * (b % 8) + c % 64)) H
theorem cal_step_word (T : Txt K mg CS CI CL) : Cal P w K mg base CX0 1 "_law_step_word" ["_law_op", "_law_a", "_law_b", "_law_c"] spStepWord := by
  refine T.d_Lstep_word.cal0 sc_Lstep_word (fun vs H Q E h => ?_) (fun _ _ _ _ _ _ us hl => match us, hl with | [_, _, _, _], _ => rfl) (fun f cdv A outer s H vs Q E hr h => ?_)
  · obtain ⟨_, _, _, _, rfl, _⟩ := h
    rfl
  · obtain ⟨op, a, b, c, rfl, q⟩ := h
    refine ⟨_, pss_one (ps_ret (pe_op op_add (pe_op op_add (pe_op op_add (pe_op op_mul pe_int (pv 0)) (pe_op op_mul pe_int (pe_op op_mod (pv 1) pe_int))) (pe_op op_mul pe_int (pe_op op_mod (pv 2) pe_int))) (pe_op op_mod (pv 3) pe_int))), ?_⟩
    exact ⟨_, rfl, 4096, op, rfl, rfl, .inl ⟨by decide, by decide⟩, _, rfl, a, 8, rfl, rfl, (by show (0 : Int) < 8; decide), 512, _, rfl, rfl, .inl ⟨by decide, by decide⟩, _, _, rfl, rfl, _, rfl, b, 8, rfl, rfl, (by show (0 : Int) < 8; decide), 64, _, rfl, rfl, .inl ⟨by decide, by decide⟩, _, _, rfl, rfl, _, rfl, c, 64, rfl, rfl, (by show (0 : Int) < 64; decide), _, _, rfl, rfl, q⟩
/-- a word drawn -/
def wordOk (n : Int) : Prop := 0 ≤ n ∧ n ≤ 65535
def spStepDrawn : Sp := fun vs H Q _ => ∃ D : Addr, vs = [.ref D] ∧ Dice H D ∧ ∀ (n : Int) H', wordOk n → DS D H H' → Q (.int n) H'
theorem word_ok {op a b c : Int} (h0 : 0 ≤ op) (h1 : op ≤ 15) : wordOk (4096 * op + 512 * (a % 8) + 64 * (b % 8) + c % 64) := by
  have h2 := Int.emod_nonneg a (show (8 : Int) ≠ 0 by decide)
  have h3 := Int.emod_lt_of_pos a (show (0 : Int) < 8 by decide)
  have h4 := Int.emod_nonneg b (show (8 : Int) ≠ 0 by decide)
  have h5 := Int.emod_lt_of_pos b (show (0 : Int) < 8 by decide)
  have h6 := Int.emod_nonneg c (show (64 : Int) ≠ 0 by decide)
  have h7 := Int.emod_lt_of_pos c (show (0 : Int) < 64 by decide)
  unfold wordOk
  omega
theorem cal_step_drawn (T : Txt K mg CS CI CL) : Cal P w K mg base CX0 3 "_law_step_drawn" ["_law_dice_here"] spStepDrawn := by
  refine T.d_Lstep_drawn.cal0 sc_Lstep_drawn (fun vs H Q E h => ?_) (fun _ _ _ _ _ _ us hl => match us, hl with | [_], _ => rfl) (fun f cdv A outer s H vs Q E hr h => ?_)
  · obtain ⟨_, rfl, _⟩ := h
    rfl
  · obtain ⟨D, rfl, hD, q⟩ := h
    have hr1 : Room 1 _ := hr.mono (by decide)
    refine ⟨_, pss_cons (ps_asg (pe_tup (pa_cons (pe_cal (cal_roll T) hr1 (by rfl) pass0 (pa_cons (pv 0) (pa_cons pe_int pa_nil))) (pa_cons (pe_cal (cal_roll T) hr1 (by rfl) pass0 (pa_cons (pv 0) (pa_cons pe_int pa_nil))) (pa_cons (pe_cal (cal_roll T) hr1 (by rfl) pass0 (pa_cons (pv 0) (pa_cons pe_int pa_nil))) (pa_cons (pe_cal (cal_roll T) hr1 (by rfl) pass0 (pa_cons (pv 0) (pa_cons pe_int pa_nil))) pa_nil)))))
        (pg_tup rfl (pgs_cons (pg_name (i := 1) sc_Lstep_drawn.nd rfl (.inl rfl)) (pgs_cons (pg_name (i := 2) sc_Lstep_drawn.nd rfl (.inl rfl)) (pgs_cons (pg_name (i := 3) sc_Lstep_drawn.nd rfl (.inl rfl)) (pgs_cons (pg_name (i := 4) sc_Lstep_drawn.nd rfl (.inl rfl)) pgs_nil))))))
      (pss_cons (ps_if (pt_cmpR op_lt (pv 1) pe_int (nomark _)) (pss_one (ps_ret (pe_cal (cal_step_word T) hr1 (by rfl) pass0 (pa_cons (pe_cal (cal_roll T) hr1 (by rfl) pass0 (pa_cons (pv 0) (pa_cons pe_int pa_nil))) (pa_cons (pv 2) (pa_cons (pv 3) (pa_cons (pv 4) pa_nil))))))) pss_nil)
      (pss_cons (ps_if (pt_cmpR op_lt (pv 1) pe_int (nomark _)) (pss_one (ps_ret (pe_cal (cal_step_word T) hr1 (by rfl) pass0 (pa_cons (pe_cal (cal_one_of T) hr (by rfl) pass0 (pa_cons (pv 0) (pa_cons (pe_lst (pa_cons pe_int (pa_cons pe_int pa_nil))) pa_nil))) (pa_cons (pv 2) (pa_cons (pv 3) (pa_cons (pe_cal (cal_one_of T) hr (by rfl) pass0 (pa_cons (pv 0) (pa_cons (pe_lst (pa_cons (pv 4) (pa_cons pe_int (pa_cons pe_int (pa_cons pe_int pa_nil))))) pa_nil))) pa_nil))))))) pss_nil)
      (pss_cons (ps_if (pt_cmpR op_lt (pv 1) pe_int (nomark _)) (pss_one (ps_ret (pe_cal (cal_step_word T) hr1 (by rfl) pass0 (pa_cons (pe_cal (cal_one_of T) hr (by rfl) pass0 (pa_cons (pv 0) (pa_cons (pe_lst (pa_cons pe_int (pa_cons pe_int (pa_cons pe_int pa_nil)))) pa_nil))) (pa_cons (pv 2) (pa_cons (pe_cal (cal_one_of T) hr (by rfl) pass0 (pa_cons (pv 0) (pa_cons (pe_lst (pa_cons pe_int (pa_cons pe_int (pa_cons (pv 3) pa_nil)))) pa_nil))) (pa_cons (pe_cal (cal_roll T) hr1 (by rfl) pass0 (pa_cons (pv 0) (pa_cons pe_int pa_nil))) pa_nil))))))) pss_nil)
      (pss_cons (ps_if (pt_cmpR op_lt (pv 1) pe_int (nomark _)) (pss_one (ps_ret (pe_cal (cal_step_word T) hr1 (by rfl) pass0 (pa_cons pe_int (pa_cons (pv 2) (pa_cons (pv 3) (pa_cons (pe_cal (cal_one_of T) hr (by rfl) pass0 (pa_cons (pv 0) (pa_cons (pe_lst (pa_cons pe_int (pa_cons pe_int (pa_cons pe_int (pa_cons pe_int (pa_cons pe_int (pa_cons pe_int (pa_cons pe_int (pa_cons pe_int (pa_cons pe_int (pa_cons pe_int (pa_cons pe_int (pa_cons pe_int pa_nil))))))))))))) pa_nil))) pa_nil))))))) pss_nil)
      (pss_one (ps_ret (pe_ifExp (pt_cmpR op_lt (pv 1) pe_int (nomark _)) (pe_cal (cal_step_word T) hr1 (by rfl) pass0 (pa_cons pe_int (pa_cons (pv 2) (pa_cons (pv 3) (pa_cons pe_int pa_nil))))) (pe_cal (cal_step_word T) hr1 (by rfl) pass0 (pa_cons (pe_cal (cal_roll T) hr1 (by rfl) pass0 (pa_cons (pv 0) (pa_cons pe_int pa_nil))) (pa_cons (pv 2) (pa_cons (pv 3) (pa_cons (pv 4) pa_nil)))))))))))), ?_⟩
    refine ⟨_, rfl, D, 20, rfl, by decide, by decide, hD, fun way H1 w0 w1 d1 => ⟨_, rfl, D, 8, rfl, by decide, by decide, d1.d, fun a H2 a0 a1 d2 => ⟨_, rfl, D, 8, rfl, by decide, by decide, d2.d, fun b H3 b0 b1 d3 => ⟨_, rfl, D, 64, rfl, by decide, by decide, d3.d, fun c H4 c0 c1 d4 => ?_⟩⟩⟩⟩
    have d04 := ((d1.trans d2).trans d3).trans d4
    refine ⟨by show 4 ≤ sizeLine; decide, fun t nt => ?_⟩
    have d5 := d04.same (same_upd (o := .tup [.int way, .int a, .int b, .int c]) nt)
    refine ⟨t, _, rfl, sqT_at upd_same, rfl, _, _, rfl, _, _, rfl, _, _, rfl, _, _, rfl, rfl, ?_⟩
    generalize (upd H4 t (.tup [.int way, .int a, .int b, .int c])) = H5 at d5 ⊢
    have one : ∀ {H6 : Hp} (d : DS D H H6) (p : Addr) (np : H6 p = none) (xs : List V), DS D H (upd H6 p (.lst xs)) ∧ (upd H6 p (.lst xs)) p = some (.lst xs) ∧ p ≠ D := fun {H6} d p np xs => ⟨d.same (same_upd np), upd_same, DS.ne d.d np⟩
    refine ⟨_, rfl, way, 6, rfl, rfl, _, rfl, ?_⟩
    by_cases c1 : way < 6
    · rw [decide_eq_true c1]
      refine iteT ⟨_, rfl, D, 8, rfl, by decide, by decide, d5.d, fun r H6 r0 r1 d6 => ⟨_, rfl, _, rfl, _, rfl, r, a, b, c, rfl, q _ _ (word_ok r0 (by omega)) (d5.trans d6)⟩⟩
    rw [decide_eq_false c1]
    refine iteF ⟨_, rfl, way, 9, rfl, rfl, _, rfl, ?_⟩
    by_cases c2 : way < 9
    · rw [decide_eq_true c2]
      refine iteT ⟨_, rfl, by show 2 ≤ sizeLine; decide, fun p np => ?_⟩
      obtain ⟨z1, z2, z3⟩ := one d5 p np [.int 8, .int 9]
      refine ⟨D, p, _, rfl, z2, z3, by show 0 < 2; decide, by show 2 ≤ 1000; decide, z1.d, fun x H6 hx d6 => ?_⟩
      have hop : ∃ i : Int, x = .int i ∧ 0 ≤ i ∧ i ≤ 15 := by
        simp only [List.mem_cons, List.not_mem_nil, or_false] at hx
        rcases hx with rfl | rfl <;> exact ⟨_, rfl, by decide, by decide⟩
      obtain ⟨i, rfl, i0, i1⟩ := hop
      refine ⟨_, rfl, _, rfl, _, rfl, _, rfl, by show 4 ≤ sizeLine; decide, fun p2 np2 => ?_⟩
      obtain ⟨y1, y2, y3⟩ := one (z1.trans d6) p2 np2 [.int c, .int 1, .int 63, .int 2]
      refine ⟨D, p2, _, rfl, y2, y3, by show 0 < 4; decide, by show 4 ≤ 1000; decide, y1.d, fun x H7 hx d7 => ?_⟩
      have hx2 : ∃ j : Int, x = .int j := by
        simp only [List.mem_cons, List.not_mem_nil, or_false] at hx
        rcases hx with rfl | rfl | rfl | rfl <;> exact ⟨_, rfl⟩
      obtain ⟨j, rfl⟩ := hx2
      exact ⟨i, a, b, j, rfl, q _ _ (word_ok i0 i1) (y1.trans d7)⟩
    rw [decide_eq_false c2]
    refine iteF ⟨_, rfl, way, 15, rfl, rfl, _, rfl, ?_⟩
    by_cases c3 : way < 15
    · rw [decide_eq_true c3]
      refine iteT ⟨_, rfl, by show 3 ≤ sizeLine; decide, fun p np => ?_⟩
      obtain ⟨z1, z2, z3⟩ := one d5 p np [.int 10, .int 10, .int 11]
      refine ⟨D, p, _, rfl, z2, z3, by show 0 < 3; decide, by show 3 ≤ 1000; decide, z1.d, fun x H6 hx d6 => ?_⟩
      have hop : ∃ i : Int, x = .int i ∧ 0 ≤ i ∧ i ≤ 15 := by
        simp only [List.mem_cons, List.not_mem_nil, or_false] at hx
        rcases hx with rfl | rfl | rfl <;> exact ⟨_, rfl, by decide, by decide⟩
      obtain ⟨i, rfl, i0, i1⟩ := hop
      refine ⟨_, rfl, _, rfl, _, rfl, by show 3 ≤ sizeLine; decide, fun p2 np2 => ?_⟩
      obtain ⟨y1, y2, y3⟩ := one (z1.trans d6) p2 np2 [.int 0, .int 0, .int b]
      refine ⟨D, p2, _, rfl, y2, y3, by show 0 < 3; decide, by show 3 ≤ 1000; decide, y1.d, fun x H7 hx d7 => ?_⟩
      have hx2 : ∃ j : Int, x = .int j := by
        simp only [List.mem_cons, List.not_mem_nil, or_false] at hx
        rcases hx with rfl | rfl | rfl <;> exact ⟨_, rfl⟩
      obtain ⟨j, rfl⟩ := hx2
      refine ⟨_, rfl, D, 4, rfl, by decide, by decide, d7.d, fun r H8 r0 r1 d8 => ?_⟩
      exact ⟨i, a, j, r, rfl, q _ _ (word_ok i0 i1) ((y1.trans d7).trans d8)⟩
    rw [decide_eq_false c3]
    refine iteF ⟨_, rfl, way, 18, rfl, rfl, _, rfl, ?_⟩
    by_cases c4 : way < 18
    · rw [decide_eq_true c4]
      refine iteT ⟨_, rfl, _, rfl, _, rfl, by show 12 ≤ sizeLine; decide, fun p np => ?_⟩
      obtain ⟨z1, z2, z3⟩ := one d5 p np [.int 1, .int 1, .int 1, .int 4, .int 4, .int 4, .int 3, .int 1, .int 4, .int 1, .int 5, .int 6]
      refine ⟨D, p, _, rfl, z2, z3, by show 0 < 12; decide, by show 12 ≤ 1000; decide, z1.d, fun x H6 hx d6 => ?_⟩
      have hx2 : ∃ j : Int, x = .int j := by
        simp only [List.mem_cons, List.not_mem_nil, or_false] at hx
        rcases hx with rfl | rfl | rfl | rfl | rfl | rfl | rfl | rfl | rfl | rfl | rfl | rfl <;> exact ⟨_, rfl⟩
      obtain ⟨j, rfl⟩ := hx2
      exact ⟨15, a, b, j, rfl, q _ _ (word_ok (by decide) (by decide)) (z1.trans d6)⟩
    rw [decide_eq_false c4]
    refine iteF ⟨_, rfl, way, 19, rfl, rfl, _, rfl, ?_⟩
    by_cases c5 : way < 19
    · rw [decide_eq_true c5]
      exact iteT ⟨_, rfl, _, rfl, 15, a, b, 1, rfl, q _ _ (word_ok (by decide) (by decide)) d5⟩
    · rw [decide_eq_false c5]
      exact iteF ⟨_, rfl, D, 12, rfl, by decide, by decide, d5.d, fun r H6 r0 r1 d6 => ⟨_, rfl, _, rfl, _, rfl, r, a, b, c, rfl, q _ _ (word_ok r0 (by omega)) (d5.trans d6)⟩⟩
end
end K80
set_option Elab.async false
set_option linter.all false
set_option maxRecDepth 100000
set_option maxHeartbeats 4000000
/-! _law_shuffled; drawn lines. -/
namespace K80
open PySem PySem.Spec PyProof.Rows L2
/-! ### drawn lines -/
structure Drawn (ls : List Line) : Prop where
  ok : ls.all okLine = true
  lo : labsOk ls = true
  br : ∃ l ∈ ls, l.isBr = true
  few : (ls.filterMap Line.labN).length ≤ 4
  one : 1 ≤ (ls.filterMap Line.labN).length
theorem all_perm {α : Type} {p : α → Bool} {a b : List α} (h : a.Perm b) : a.all p = b.all p := by
  rw [Bool.eq_iff_iff, List.all_eq_true, List.all_eq_true]
  exact ⟨fun z x hx => z x (h.mem_iff.mpr hx), fun z x hx => z x (h.mem_iff.mp hx)⟩
theorem labsOk_iff {ls : List Line} : labsOk ls = true ↔ (ls.filterMap Line.labN).Nodup ∧ ∀ l ∈ ls, l.isW = false → l.nm ∈ ls.filterMap Line.labN := by
  unfold labsOk
  rw [Bool.and_eq_true, decide_eq_true_eq, List.all_eq_true]
  refine and_congr Iff.rfl ⟨fun h l hl n => ?_, fun h l hl => ?_⟩
  · have := h l hl
    rw [n, Bool.false_or] at this
    exact of_decide_eq_true this
  · cases c : l.isW with
    | true => rfl
    | false => rw [Bool.false_or]; exact decide_eq_true (h l hl c)
theorem Drawn.perm {a b : List Line} (h : a.Perm b) (d : Drawn a) : Drawn b := by
  have hl := h.filterMap Line.labN
  refine ⟨(all_perm h).symm.trans d.ok, ?_, ?_, by rw [← hl.length_eq]; exact d.few, by rw [← hl.length_eq]; exact d.one⟩
  · obtain ⟨h1, h2⟩ := labsOk_iff.mp d.lo
    exact labsOk_iff.mpr ⟨hl.nodup_iff.mp h1, fun l hm n => hl.mem_iff.mp (h2 l (h.mem_iff.mpr hm) n)⟩
  · obtain ⟨l, hm, hb⟩ := d.br
    exact ⟨l, h.mem_iff.mp hm, hb⟩
theorem filter_labs (ls : List Line) : (ls.filter fun l => !l.isW).filterMap Line.labN = ls.filterMap Line.labN := by
  induction ls with
  | nil => rfl
  | cons l ls ih =>
    cases l with
    | w n => exact ih
    | lab x =>
      show x :: _ = x :: _
      rw [ih]
    | br u a b x => exact ih
    | pl a x => exact ih
theorem Drawn.filter {ls : List Line} (hw : ∀ l ∈ ls, l.isW = true → okLine l = true) (d : Drawn (ls.filter fun l => !l.isW)) : Drawn ls := by
  have e := filter_labs ls
  have mem : ∀ l ∈ ls, l.isW = false → l ∈ ls.filter fun l => !l.isW := fun l hl n => List.mem_filter.mpr ⟨hl, by rw [n]; rfl⟩
  refine ⟨?_, ?_, ?_, by rw [← e]; exact d.few, by rw [← e]; exact d.one⟩
  · rw [List.all_eq_true]
    intro l hl
    cases c : l.isW with
    | true => exact hw l hl c
    | false => exact List.all_eq_true.mp d.ok l (mem l hl c)
  · obtain ⟨h1, h2⟩ := labsOk_iff.mp d.lo
    rw [e] at h1 h2
    exact labsOk_iff.mpr ⟨h1, fun l hl n => h2 l (mem l hl n) n⟩
  · obtain ⟨l, hm, hb⟩ := d.br
    exact ⟨l, (List.mem_filter.mp hm).1, hb⟩
theorem Drawn.insert {ls : List Line} (d : Drawn ls) {a : Int} {x : Str} (ha : okReg a = true) (hx : x ∈ ls.filterMap Line.labN) (k : Nat) : Drawn (ls.take k ++ [.pl a x] ++ ls.drop k) := by
  have p : (Line.pl a x :: ls).Perm (ls.take k ++ [.pl a x] ++ ls.drop k) := by
    have h1 : (ls.take k ++ [.pl a x] ++ ls.drop k) = ls.take k ++ (.pl a x :: ls.drop k) := by simp
    rw [h1]
    have h2 := (List.perm_middle (a := Line.pl a x) (l₁ := ls.take k) (l₂ := ls.drop k)).symm
    rw [List.take_append_drop] at h2
    exact h2
  refine Drawn.perm p ?_
  have e : (Line.pl a x :: ls).filterMap Line.labN = ls.filterMap Line.labN := rfl
  obtain ⟨h1, h2⟩ := labsOk_iff.mp d.lo
  obtain ⟨i, hi, ei⟩ := List.mem_filterMap.mp hx
  have hn : okName x = true := by
    have := List.all_eq_true.mp d.ok i hi
    cases i with
    | lab y =>
      have ey : y = x := Option.some.inj ei
      rw [← ey]; exact this
    | _ => cases ei
  refine ⟨?_, labsOk_iff.mpr ⟨h1, fun l hl n => ?_⟩, ?_, d.few, d.one⟩
  · rw [List.all_cons, d.ok, Bool.and_true]
    show (okReg a && okName x) = true
    rw [ha, hn]
    rfl
  · rcases List.mem_cons.mp hl with rfl | hl
    · exact hx
    · exact h2 l hl n
  · obtain ⟨l, hm, hb⟩ := d.br
    exact ⟨l, List.mem_cons_of_mem _ hm, hb⟩
/-! ### lists of lines -/
section
variable {K : PySem.W.Frag} {H : Hp}
theorem LinesV.take {vs : List V} {ls : List Line} (h : LinesV K H vs ls) (k : Nat) : LinesV K H (vs.take k) (ls.take k) := by
  refine ⟨by rw [List.length_take, List.length_take, h.1], fun i v l h1 h2 => ?_⟩
  rw [List.getElem?_take] at h1 h2
  by_cases c : i < k
  · rw [if_pos c] at h1 h2
    exact h.2 i v l h1 h2
  · rw [if_neg c] at h1
    cases h1
theorem LinesV.drop {vs : List V} {ls : List Line} (h : LinesV K H vs ls) (k : Nat) : LinesV K H (vs.drop k) (ls.drop k) := by
  refine ⟨by rw [List.length_drop, List.length_drop, h.1], fun i v l h1 h2 => ?_⟩
  rw [List.getElem?_drop] at h1 h2
  exact h.2 _ v l h1 h2
theorem eraseIdx_td {α : Type} (l : List α) (k : Nat) : l.eraseIdx k = l.take k ++ l.drop (k + 1) := List.eraseIdx_eq_take_drop_succ l k
theorem LinesV.erase {vs : List V} {ls : List Line} (h : LinesV K H vs ls) (k : Nat) : LinesV K H (vs.eraseIdx k) (ls.eraseIdx k) := by
  rw [eraseIdx_td, eraseIdx_td]
  exact (h.take k).append (h.drop (k + 1))
theorem erase_perm {α : Type} {l : List α} {k : Nat} {x : α} (h : l[k]? = some x) : (x :: l.eraseIdx k).Perm l := by
  rw [eraseIdx_td]
  have hk := (List.getElem?_eq_some_iff.mp h).1
  have e : l = l.take k ++ x :: l.drop (k + 1) := by
    have e1 : l.drop k = x :: l.drop (k + 1) := by
      rw [List.drop_eq_getElem_cons hk]
      congr 1
      exact (List.getElem?_eq_some_iff.mp h).2
    rw [← e1, List.take_append_drop]
  conv => rhs; rw [e]
  exact List.perm_middle.symm
theorem line_dp {v : V} {l : Line} (ok : okLine l = true) (h : LineV K H v l) : ∃ d, Dp K H v d ∧ PyData.canLay0 d = true ∧ PyData.depth d ≤ 1 := by
  have flat : ∀ p xs, v = .ref p → SqT K H p xs → (∀ x ∈ xs, Plain x) → ∃ d, Dp K H v d ∧ PyData.canLay0 d = true ∧ PyData.depth d ≤ 1 := fun p xs e hs hp => by
    obtain ⟨ds, d1, d2, d3, _⟩ := plain_dp (K := K) (H := H) hp
    exact ⟨.tuple ds, e ▸ .tup hs d1, by unfold PyData.canLay0; exact d2, by unfold PyData.depth; rw [d3]; exact Nat.le_refl _⟩
  have nm : ∀ x, okName x = true → Plain (.str x) := fun x hx => .inr (.inr ⟨x, rfl, (Bool.and_eq_true_iff.mp hx).2⟩)
  have st : ∀ x : Str, PyData.canLay0 (.str x) = true → Plain (.str x) := fun x hx => .inr (.inr ⟨x, rfl, hx⟩)
  cases l with
  | w n => exact ⟨.int n, by rw [show v = .int n from h]; exact .int n, rfl, Nat.zero_le _⟩
  | lab x =>
    obtain ⟨p, e, q⟩ := h
    refine flat p _ e q fun z hz => ?_
    simp only [Line.items, List.mem_cons, List.not_mem_nil, or_false] at hz
    rcases hz with rfl | rfl
    · exact st _ (by decide +kernel)
    · exact nm _ ok
  | pl a x =>
    obtain ⟨p, e, q⟩ := h
    refine flat p _ e q fun z hz => ?_
    simp only [Line.items, List.mem_cons, List.not_mem_nil, or_false] at hz
    rcases hz with rfl | rfl | rfl
    · exact st _ (by decide +kernel)
    · exact .inl ⟨a, rfl⟩
    · exact nm _ (Bool.and_eq_true_iff.mp ok).2
  | br u a b x =>
    obtain ⟨p, e, q⟩ := h
    refine flat p _ e q fun z hz => ?_
    simp only [Line.items, List.mem_cons, List.not_mem_nil, or_false] at hz
    rcases hz with rfl | rfl | rfl | rfl
    · exact st _ (by cases u <;> decide +kernel)
    · exact .inl ⟨a, rfl⟩
    · exact .inl ⟨b, rfl⟩
    · exact nm _ (Bool.and_eq_true_iff.mp (Bool.and_eq_true_iff.mp ok).2).2
theorem lines_dp : ∀ {vs : List V} {ls : List Line}, ls.all okLine = true → LinesV K H vs ls → ∃ ds, DpAll K H vs ds ∧ PyData.canLayAll0 ds = true ∧ PyData.depthAll ds ≤ 1 ∧ ds.length = vs.length
  | [], ls, _, h => ⟨[], .nil, rfl, Nat.zero_le _, rfl⟩
  | v :: vs, [], _, h => by have := h.1; cases this
  | v :: vs, l :: ls, ok, h => by
    rw [List.all_cons] at ok
    obtain ⟨ok1, ok2⟩ := Bool.and_eq_true_iff.mp ok
    obtain ⟨d, d1, d2, d3⟩ := line_dp ok1 (h.2 0 v l rfl rfl)
    obtain ⟨ds, e1, e2, e3, e4⟩ := lines_dp (vs := vs) (ls := ls) ok2 ⟨by have := h.1; simpa using this, fun i v' l' a b => h.2 (i + 1) v' l' (by simpa using a) (by simpa using b)⟩
    refine ⟨d :: ds, .cons d1 e1, by unfold PyData.canLayAll0; rw [d2, e2]; rfl, ?_, congrArg Nat.succ e4⟩
    unfold PyData.depthAll
    exact Nat.max_le.mpr ⟨d3, e3⟩
theorem shaped_lines {ds : List PyData} (h1 : PyData.canLayAll0 ds = true) (h2 : PyData.depthAll ds ≤ 1) : SeqAt.shaped (.list ds) = true := by
  unfold SeqAt.shaped
  have e1 : PyData.canLay0 (.list ds) = true := by unfold PyData.canLay0; exact h1
  have e2 : PyData.depth (.list ds) ≤ 64 := by unfold PyData.depth; omega
  rw [e1, decide_eq_true e2]
  rfl
end
section
variable {P : Program} {w : World} {K : PySem.W.Frag} {mg : Str → Option Value} {base : Heap} {CS CI CL CM CR : Addr}
def spShuffled (K : PySem.W.Frag) : Sp := fun vs H Q _ => ∃ (D p : Addr) (xs : List V) (ls : List Line), vs = [.ref D, .ref p] ∧ H p = some (.lst xs) ∧ p ≠ D ∧ xs.length ≤ 100 ∧ LinesV K H xs ls ∧ ls.all okLine = true ∧ Dice H D ∧
  ∀ (q : Addr) (ys : List V) (ms : List Line) H', ms.Perm ls → DS D H H' → H q = none → H' q = some (.lst ys) → LinesV K H' ys ms → Q (.ref q) H'
theorem cal_shuffled (T : Txt K mg CS CI CL) : Cal P w K mg base CX0 2 "_law_shuffled" ["_law_dice_here", "_law_items"] (spShuffled K) := by
  refine T.d_Lshuffled.cal0 sc_Lshuffled (fun vs H Q E h => ?_) (fun _ _ _ _ _ _ us hl => match us, hl with | [_, _], _ => rfl) (fun f cdv A outer s H vs Q E hr h => ?_)
  · obtain ⟨_, _, _, _, rfl, _⟩ := h
    rfl
  · obtain ⟨D, p, xs, ls, rfl, hp, ne, hlen, hL, hok, hD, q⟩ := h
    refine ⟨_, pss_cons (ps_par (i := 2) (j := 3) rfl sc_Lshuffled.nd rfl rfl (by decide) rfl rfl (pa_cons (pe_callTy call_list_of (by rfl) T.b.list (by decide +kernel) (pa_cons (pv 1) pa_nil)) (pa_cons (pe_lst pa_nil) pa_nil)) rfl)
      (pss_cons (ps_while PassesOwn.never (pt_cmpR (op_neD hr.units) (pv 2) (pe_lst pa_nil) (nomark _))
        (pss_one (ps_expr (pe_bm PySem.F.plainAttrs_list PySem.F.slot_list_append PySem.F.type_list_append mt_append (pv 3) (pa_cons (pe_bm PySem.F.plainAttrs_list PySem.F.slot_list_pop PySem.F.type_list_pop mt_popAt (pv 2) (pa_cons (pe_cal (cal_roll T) hr (by rfl) pass0 (pa_cons (pv 0) (pa_cons (pe_callB call_len_seq (by rfl) T.b.len PySem.boot_len (pa_cons (pv 2) pa_nil)) pa_nil))) pa_nil)) pa_nil)))))
      (pss_one (ps_ret (pv 3)))), ?_⟩
    refine ⟨.ref p, rfl, p, xs, rfl, .inl (sqL_at hp), fun a na => ⟨Nat.zero_le _, fun b nb => ⟨_, _, rfl, ?_⟩⟩⟩
    have sa := same_upd (o := .lst xs) na
    have sb := same_upd (o := .lst []) nb
    have aD : a ≠ D := DS.ne hD na
    have ab : a ≠ b := ne_of_none (upd_same (H := H) (a := a) (o := .lst xs)) nb
    have d0 : DS D H (upd (upd H a (.lst xs)) b (.lst [])) := (DS.of hD sa).same sb
    have bD : b ≠ D := DS.ne (hD.same sa) nb
    have nbH : H b = none := sa.free nb
    have kT : ∀ {H'}, DS D H H' → KeepT K H H' := fun d => DS.keepT hD d
    refine ⟨fun m σ H' => ∃ as bs la lb, σ = [some (.ref D), some (.ref p), some (.ref a), some (.ref b)] ∧ m = as.length ∧ H' a = some (.lst as) ∧ H' b = some (.lst bs) ∧ LinesV K H' as la ∧ LinesV K H' bs lb ∧ (lb ++ la).Perm ls ∧ DS D H H',
      ⟨_, xs, [], ls, [], rfl, rfl, by rw [upd_ne ab, upd_same], upd_same, hL.keep (kT d0), LinesV.nil, List.Perm.refl _, d0⟩, fun m σ H' hW => ?_⟩
    obtain ⟨as, bs, la, lb, rfl, rfl, ha, hb, hla, hlb, hper, ds⟩ := hW
    have hokA : la.all okLine = true := by
      rw [List.all_eq_true]
      intro l hl
      exact List.all_eq_true.mp hok l (hper.mem_iff.mp (List.mem_append_right _ hl))
    refine ⟨.ref a, rfl, Nat.zero_le _, fun u nu => ?_⟩
    have su := same_upd (o := .lst []) nu
    obtain ⟨dd, e1, e2, e3, e4⟩ := lines_dp hokA (hla.keep (keepT_same su))
    refine ⟨_, _, .lst (sqL_at (su _ _ ha)) e1, .lst (sqL_at upd_same) .nil, shaped_lines e2 e3, by decide +kernel, _, rfl, ?_⟩
    rw [eqv_nilL]
    have ds2 := ds.same su
    by_cases c : as = []
    · have : dd = [] := List.length_eq_zero_iff.mp (by rw [e4, c]; rfl)
      rw [decide_eq_true this]
      subst c
      have hla0 : la = [] := List.length_eq_zero_iff.mp hla.1.symm
      rw [hla0, List.append_nil] at hper
      refine iteF ⟨.ref b, rfl, q b bs lb _ hper ds2 nbH (su _ _ hb) (hlb.keep (keepT_same su))⟩
    · have : dd ≠ [] := fun z => c (List.length_eq_zero_iff.mp (by rw [← e4, z]; rfl))
      rw [decide_eq_false this]
      have hpos : 0 < as.length := List.length_pos_iff.mpr c
      have hlenA : as.length ≤ 100 := by
        have h1 := hper.length_eq
        rw [List.length_append] at h1
        have h2 := hla.1
        have h3 := hL.1
        omega
      refine iteT ⟨fun σ' H'' => ∃ m', m' < as.length ∧ ∃ as bs la lb, σ' = [some (.ref D), some (.ref p), some (.ref a), some (.ref b)] ∧ m' = as.length ∧ H'' a = some (.lst as) ∧ H'' b = some (.lst bs) ∧ LinesV K H'' as la ∧ LinesV K H'' bs lb ∧ (lb ++ la).Perm ls ∧ DS D H H'', fun σ' H'' h => h, ?_⟩
      refine ⟨.ref b, rfl, .inl ⟨rfl, _, sqL_at (su _ _ hb)⟩, .ref a, rfl, .inl ⟨rfl, _, sqL_at (su _ _ ha)⟩, .ref D, rfl, .ref a, rfl, a, as, rfl, .inl (sqL_at (su _ _ ha)), D, (as.length : Nat), rfl, by omega, by omega, ds2.d, fun r H3 r0 r1 d3 => ?_⟩
      have hk : r.toNat < as.length := by omega
      have hkl : r.toNat < la.length := by rw [← hla.1]; exact hk
      have ds3 := ds2.trans d3
      have kt3 : KeepT K (upd H' u (.lst [])) H3 := DS.keepT ds2.d d3
      have ha3 : H3 a = some (.lst as) := d3.b _ _ (su _ _ ha) aD
      have hb3 : H3 b = some (.lst bs) := d3.b _ _ (su _ _ hb) bD
      have hla3 := (hla.keep (keepT_same su)).keep kt3
      have hlb3 := (hlb.keep (keepT_same su)).keep kt3
      have hix : seqIndex? r as.length = some r.toNat := by
        unfold seqIndex?
        have e1 : (if r < 0 then r + (as.length : Int) else r) = r := if_neg (by omega)
        show (if (decide (0 ≤ (if r < 0 then r + (as.length : Int) else r)) && decide ((if r < 0 then r + (as.length : Int) else r) < as.length)) = true then some (if r < 0 then r + (as.length : Int) else r).toNat else none) = _
        rw [e1, decide_eq_true r0, decide_eq_true r1]
        rfl
      refine ⟨a, as, r, r.toNat, as[r.toNat], rfl, rfl, ha3, by omega, by omega, hix, List.getElem?_eq_getElem hk, ?_⟩
      have kA : KeepT K H3 (upd H3 a (.lst (as.eraseIdx r.toNat))) := keepT_but ha3 (but_upd a H3 _)
      have hb4 : (upd H3 a (.lst (as.eraseIdx r.toNat))) b = some (.lst bs) := by rw [upd_ne (Ne.symm ab)]; exact hb3
      refine ⟨b, bs, _, rfl, rfl, hb4, small1000 (by
        have h1 := hper.length_eq
        rw [List.length_append] at h1
        have h2 := hlb.1
        have h3 := hL.1
        omega), ?_⟩
      have kB : KeepT K (upd H3 a (.lst (as.eraseIdx r.toNat))) (upd (upd H3 a (.lst (as.eraseIdx r.toNat))) b (.lst (bs ++ [as[r.toNat]]))) := keepT_but hb4 (but_upd b _ _)
      have kAB := kA.trans kB
      refine ⟨_, ?_, as.eraseIdx r.toNat, bs ++ [as[r.toNat]], la.eraseIdx r.toNat, lb ++ [la[r.toNat]], rfl, rfl, by rw [upd_ne ab, upd_same], upd_same, (hla3.erase _).keep kAB, (hlb3.append (LinesV.one (hla3.2 _ _ _ (List.getElem?_eq_getElem hk) (List.getElem?_eq_getElem hkl)))).keep kAB, ?_, ?_⟩
      · rw [List.length_eraseIdx, if_pos hk]
        omega
      · refine List.Perm.trans ?_ hper
        rw [List.append_assoc]
        exact List.Perm.append_left lb (erase_perm (List.getElem?_eq_getElem hkl))
      · refine ⟨fun b' o' h' n' => ?_, ?_⟩
        · have z1 : b' ≠ b := ne_of_none h' nbH
          have z2 : b' ≠ a := ne_of_none h' na
          rw [upd_ne z1, upd_ne z2]
          exact ds3.b _ _ h' n'
        · obtain ⟨x, y, z, h'⟩ := ds3.d
          exact ⟨x, y, z, by rw [upd_ne (Ne.symm bD), upd_ne (Ne.symm aD)]; exact h'⟩
end
end K80
set_option Elab.async false
set_option linter.all false
set_option maxRecDepth 100000
set_option maxHeartbeats 4000000
/-! _law_lines_drawn, _law_with_places. -/
namespace K80
open PySem PySem.Spec PyProof.Rows L2
theorem cut_take (xs : List V) {i : Int} (h : 0 ≤ i) : cutV xs none (some i) = xs.take i.toNat := by
  unfold cutV
  have e : HT.sIx xs.length xs.length (some i) = min i.toNat xs.length := if_neg (by omega)
  rw [HT.sIx_none, e]
  show (xs.drop 0).take (min i.toNat xs.length - 0) = _
  rw [Nat.sub_zero, List.drop_zero]
  by_cases c : i.toNat ≤ xs.length
  · rw [Nat.min_eq_left c]
  · rw [Nat.min_eq_right (by omega), List.take_of_length_le (Nat.le_refl _), List.take_of_length_le (by omega)]
theorem cut_drop (xs : List V) {i : Int} (h : 0 ≤ i) : cutV xs (some i) none = xs.drop i.toNat := by
  unfold cutV
  have e : HT.sIx xs.length 0 (some i) = min i.toNat xs.length := if_neg (by omega)
  rw [HT.sIx_none, e]
  by_cases c : i.toNat ≤ xs.length
  · rw [Nat.min_eq_left c, List.take_of_length_le]
    rw [List.length_drop]
    exact Nat.le_refl _
  · rw [Nat.min_eq_right (by omega), List.drop_of_length_le (Nat.le_refl _), List.drop_of_length_le (by omega)]
    exact List.take_nil
def names4 : List Str := ["a", "b", "loop", "zz"]
structure BrsOk (ns : List Str) (bs : List Line) : Prop where
  all : ∀ l ∈ bs, ∃ u a b x, l = .br u a b x ∧ okReg a = true ∧ okReg b = true ∧ x ∈ ns
theorem BrsOk.labs {ns : List Str} {bs : List Line} (h : BrsOk ns bs) : bs.filterMap Line.labN = [] := by
  rw [List.filterMap_eq_nil_iff]
  intro l hl
  obtain ⟨u, a, b, x, rfl, _⟩ := h.all l hl
  rfl
theorem labs_map (ns : List Str) : (ns.map Line.lab).filterMap Line.labN = ns := by
  induction ns with
  | nil => rfl
  | cons n ns ih =>
    show n :: _ = n :: ns
    rw [ih]
theorem names_ok : ∀ x ∈ names4, okName x = true := by decide +kernel
theorem drawn_of {k : Nat} {bs : List Line} (h1 : 1 ≤ k) (hb : BrsOk (names4.take k) bs) (hl : 1 ≤ bs.length) : Drawn ((names4.take k).map Line.lab ++ bs) := by
  have e : ((names4.take k).map Line.lab ++ bs).filterMap Line.labN = names4.take k := by
    rw [List.filterMap_append, labs_map, hb.labs, List.append_nil]
  have sub : ∀ x ∈ names4.take k, okName x = true := fun x hx => names_ok x (List.mem_of_mem_take hx)
  refine ⟨?_, labsOk_iff.mpr ⟨?_, fun l hl n => ?_⟩, ?_, ?_, ?_⟩
  · rw [List.all_eq_true]
    intro l hl
    rcases List.mem_append.mp hl with hl | hl
    · obtain ⟨x, hx, rfl⟩ := List.mem_map.mp hl
      exact sub x hx
    · obtain ⟨u, a, b, x, rfl, ha, hb', hx⟩ := hb.all l hl
      show (okReg a && (okReg b && okName x)) = true
      rw [ha, hb', sub x hx]
      rfl
  · rw [e]
    exact (show names4.Nodup by decide).sublist (List.take_sublist k names4)
  · rw [e]
    rcases List.mem_append.mp hl with hl | hl
    · obtain ⟨x, hx, rfl⟩ := List.mem_map.mp hl
      exact hx
    · obtain ⟨u, a, b, x, rfl, _, _, hx⟩ := hb.all l hl
      exact hx
  · cases bs with
    | nil => cases hl
    | cons l bs =>
      obtain ⟨u, a, b, x, rfl, _⟩ := hb.all l List.mem_cons_self
      exact ⟨_, List.mem_append_right _ List.mem_cons_self, rfl⟩
  · rw [e, List.length_take]
    exact Nat.min_le_right _ _
  · rw [e, List.length_take]
    show 1 ≤ min k 4
    omega
section
variable {P : Program} {w : World} {K : PySem.W.Frag} {mg : Str → Option Value} {base : Heap} {CS CI CL CM CR : Addr}
def spLinesDrawn (K : PySem.W.Frag) : Sp := fun vs H Q _ => ∃ (D F : Addr) (room : Int) (fs : List Int), vs = [.ref D, .int room, .ref F, .int 5] ∧ 44 ≤ room ∧ room ≤ 255 ∧ H F = some (.lst (fs.map V.int)) ∧ F ≠ D ∧ 0 < fs.length ∧ fs.length ≤ 1000 ∧ (∀ n ∈ fs, wordOk n) ∧ Dice H D ∧
  ∀ (t : Addr) (ls : List Line) H', Drawn ls → ls.length ≤ 249 → DS D H H' → H t = none → LinesT K H' t ls → Q (.ref t) H'
theorem cal_lines_drawn (T : Txt K mg CS CI CL) : Cal P w K mg base CX0 3 "_law_lines_drawn" ["_law_dice_here", "_law_room", "_law_fill", "_law_most"] (spLinesDrawn K) := by
  refine T.d_Llines_drawn.cal0 sc_Llines_drawn (fun vs H Q E h => ?_) (fun _ _ _ _ _ _ us hl => match us, hl with | [_, _, _, _], _ => rfl) (fun f cdv A outer s H vs Q E hr h => ?_)
  · obtain ⟨_, _, _, _, rfl, _⟩ := h
    rfl
  · obtain ⟨D, F, room, fs, rfl, rm0, rm1, hF, nF, f0, f1, hfs, hD, q⟩ := h
    have hr1 : Room 1 _ := hr.mono (by decide)
    refine ⟨_, pss_cons (ps_set (i := 4) sc_Llines_drawn.nd rfl (.inl rfl) (pe_slice sl_list (pe_lst (pa_cons pe_str (pa_cons pe_str (pa_cons pe_str (pa_cons pe_str pa_nil))))) po_none (po_some (pe_op op_add pe_int (pe_cal (cal_roll T) hr1 (by rfl) pass0 (pa_cons (pv 0) (pa_cons pe_int pa_nil)))))))
      (pss_cons (ps_setLc (i := 5) (own := [("_law_name", 13)]) (g := gName 13) (tt := tYes) rfl sc_Llines_drawn.nd rfl rfl (sw_true rfl rfl rfl (by decide +kernel)) (pi_list (pv 4)) (blkOk_by (own := [("_law_name", 13)]) (N := n_Llines_drawn) (sc := defScope s_Llines_drawn) (by decide +kernel))
        (fun _ _ _ _ _ => pg_name (i := 13) sc_Llines_drawn.nd rfl (.inl rfl)) (fun _ _ _ _ _ => pts_nil) (fun _ _ _ _ _ => pe_tup (pa_cons pe_str (pa_cons (pv 13) pa_nil))))
      (pss_cons (ps_for PassesOwn.never rfl (pi_range1 (by rfl) T.b.range (pa_cons (pe_op op_add pe_int (pe_cal (cal_roll T) hr1 (by rfl) pass0 (pa_cons (pv 0) (pa_cons (pv 3) pa_nil)))) pa_nil)) (pg_name (i := 6) sc_Llines_drawn.nd rfl (.inl rfl))
        (pss_cons (ps_par (i := 7) (j := 8) rfl sc_Llines_drawn.nd rfl rfl (by decide) rfl rfl (pa_cons (pe_cal (cal_roll T) hr1 (by rfl) pass0 (pa_cons (pv 0) (pa_cons pe_int pa_nil))) (pa_cons (pe_cal (cal_roll T) hr1 (by rfl) pass0 (pa_cons (pv 0) (pa_cons pe_int pa_nil))) pa_nil)) rfl)
        (pss_one (ps_expr (pe_bm PySem.F.plainAttrs_list PySem.F.slot_list_append PySem.F.type_list_append mt_append (pv 5) (pa_cons (pe_tup (pa_cons (pe_cal (cal_one_of T) hr (by rfl) pass0 (pa_cons (pv 0) (pa_cons (pe_lst (pa_cons pe_str (pa_cons pe_str pa_nil))) pa_nil))) (pa_cons (pv 7) (pa_cons (pv 8) (pa_cons (pe_cal (cal_one_of T) hr (by rfl) pass0 (pa_cons (pv 0) (pa_cons (pv 4) pa_nil))) pa_nil))))) pa_nil))))))
      (pss_cons (ps_par (i := 9) (j := 10) rfl sc_Llines_drawn.nd rfl rfl (by decide) rfl rfl (pa_cons (pe_op op_sub (pv 1) (pe_op op_mul pe_int (pe_callB call_len_seq (by rfl) T.b.len PySem.boot_len (pa_cons (pv 5) pa_nil)))) (pa_cons (pe_lst pa_nil) pa_nil)) rfl)
      (pss_cons (ps_for PassesOwn.never rfl (pi_list (pe_cal (cal_shuffled T) hr (by rfl) pass0 (pa_cons (pv 0) (pa_cons (pv 5) pa_nil)))) (pg_name (i := 11) sc_Llines_drawn.nd rfl (.inl rfl))
        (pss_cons (ps_set (i := 12) sc_Llines_drawn.nd rfl (.inl rfl) (pe_callB (call_max2 rfl) (by rfl) T.b.max (by decide +kernel) (pa_cons pe_int (pa_cons (pe_callB (call_min2 rfl) (by rfl) T.b.min (by decide +kernel) (pa_cons (pv 9) (pa_cons (pe_cal (cal_one_of T) hr (by rfl) pass0 (pa_cons (pv 0) (pa_cons (pe_lst (pa_cons pe_int (pa_cons pe_int (pa_cons pe_int (pa_cons pe_int (pa_cons pe_int (pa_cons pe_int (pa_cons pe_int (pa_cons pe_int (pa_cons pe_int (pa_cons pe_int (pa_cons pe_int pa_nil)))))))))))) pa_nil))) pa_nil))) pa_nil))))
        (pss_cons (ps_set (i := 9) sc_Llines_drawn.nd rfl (.inl rfl) (pe_op op_sub (pv 9) (pv 12)))
        (pss_cons (ps_expr (pe_bm PySem.F.plainAttrs_list PySem.F.slot_list_extend PySem.F.type_list_extend mt_extend (pv 10) (pa_cons (pe_lc (own := [("_law_turn", 6)]) (g := gName 6) (tt := tYes) rfl sc_Llines_drawn.nd (pi_range1 (by rfl) T.b.range (pa_cons (pv 12) pa_nil)) (blkOk_by (own := [("_law_turn", 6)]) (N := n_Llines_drawn) (sc := defScope s_Llines_drawn) (by decide +kernel))
          (fun _ _ _ _ _ => pg_name (i := 6) sc_Llines_drawn.nd rfl (.inl rfl)) (fun _ _ _ _ _ => pts_nil) (fun _ _ _ _ _ => pe_cal (cal_one_of T) hr (by rfl) pass0 (pa_cons (pv 0) (pa_cons (pv 2) pa_nil)))) pa_nil)))
        (pss_one (ps_expr (pe_bm PySem.F.plainAttrs_list PySem.F.slot_list_append PySem.F.type_list_append mt_append (pv 10) (pa_cons (pv 11) pa_nil))))))))
      (pss_one (ps_ret (pe_callTy call_tuple_of (by rfl) T.b.tuple boot_tuple (pa_cons (pv 10) pa_nil)))))))), ?_⟩
    -- names
    refine ⟨by show 4 ≤ sizeLine; decide, fun n0 nn0 => ⟨_, rfl, D, 4, rfl, by decide, by decide, hD.same (same_upd nn0), fun r H1 r0 r1 d1 => ?_⟩⟩
    refine ⟨1, r, rfl, rfl, 1 + r, rfl, n0, _, rfl, sqL_at (d1.b _ _ upd_same (DS.ne hD nn0)), fun N nN => ?_⟩
    rw [cut_take _ (by omega)]
    obtain ⟨k, hk, hk1, hk4⟩ : ∃ k : Nat, (1 + r).toNat = k ∧ 1 ≤ k ∧ k ≤ 4 := ⟨_, rfl, by omega, by omega⟩
    rw [hk]
    have eN : ([V.str "a", .str "b", .str "loop", .str "zz"] : List V).take k = (names4.take k).map V.str := by
      rw [List.map_take]
      rfl
    rw [eN]
    generalize hns : names4.take k = ns
    have hnsl : ns.length = k := by
      rw [← hns, List.length_take]
      exact Nat.min_eq_left hk4
    have dN : DS D H (upd H1 N (.lst (ns.map V.str))) := ((DS.of hD (same_upd nn0)).trans d1).same (same_upd nN)
    have hN : (upd H1 N (.lst (ns.map V.str))) N = some (.lst (ns.map V.str)) := upd_same
    have nND : N ≠ D := DS.ne d1.d nN
    generalize (upd H1 N (.lst (ns.map V.str))) = H2 at dN hN ⊢
    -- some = [('label', name) ..]
    refine ⟨.ref N, rfl, N, rfl, ⟨_, sqL_at hN⟩, fun S nS => lc_it (walk_list (xs := ns.map V.str)) (fun i H' => ∃ ys, Acc H2 S ys H' ∧ LinesV K H' ys ((ns.take i).map Line.lab)) ⟨[], Acc.start nS, LinesV.nil⟩ (fun i H' _ h => ?_) (fun i x H3 H4 hi h y => ?_) (fun H3 h => ?_)⟩
    · obtain ⟨ys, a, _⟩ := h
      exact sqL_at (a.s _ _ hN)
    · obtain ⟨rfl, hx⟩ := y
      obtain ⟨ys, a, hL⟩ := h
      rw [List.getElem?_map] at hx
      obtain ⟨z, ez, rfl⟩ := Option.map_eq_some_iff.mp hx
      have hi2 := (List.getElem?_eq_some_iff.mp ez).1
      refine ⟨rfl, .str z, rfl, by show 2 ≤ sizeLine; decide, fun u nu => ?_⟩
      have su := same_upd (o := .tup [.str "label", .str z]) nu
      have a2 := a.same su
      refine ⟨_, a2.d, ?_, _, a2.to, ?_⟩
      · rw [hL.1, List.length_map, List.length_take]
        exact small1000 (by omega)
      · rw [List.take_add_one, ez, List.map_append]
        exact ((hL.keep (keepT_same su)).append (LinesV.one (l := .lab z) ⟨u, rfl, sqT_at upd_same⟩)).keep (keepT_but a2.d (but_upd _ _ _))
    obtain ⟨ys, a, hL⟩ := h
    rw [List.length_map, List.take_of_length_le (Nat.le_refl _)] at hL
    -- for turn in range(1 + roll)
    have d3 := dN.same a.s
    refine ⟨_, rfl, .int 5, rfl, D, 5, rfl, by decide, by decide, d3.d, fun r5 H4 r50 r51 d4 => ?_⟩
    have dS : S ≠ D := DS.ne dN.d nS
    have nSH : H S = none := dN.free nS
    have NS : N ≠ S := ne_of_none hN nS
    have kT : ∀ {H'}, DS D H H' → KeepT K H H' := fun d => DS.keepT hD d
    refine ⟨1, r5, rfl, rfl, 1 + r5, rfl, by omega, by omega, for_range (fun i σ H' => ∃ y6 y7 y8 ys bs, σ = [some (.ref D), some (.int room), some (.ref F), some (.int 5), some (.ref N), some (.ref S), y6, y7, y8, none, none, none, none, none] ∧ AccB D H S ys H' ∧ LinesV K H' ys (ns.map Line.lab ++ bs) ∧ BrsOk ns bs ∧ bs.length = i ∧ H' N = some (.lst (ns.map V.str)))
      ⟨none, none, none, ys, [], rfl, ⟨nSH, dS, d3.trans d4, d4.b _ _ a.d dS⟩, by rw [List.append_nil]; exact hL.keep (DS.keepT d3.d d4), ⟨fun l hl => by cases hl⟩, rfl, d4.b _ _ (a.s _ _ hN) nND⟩ (fun i σ H5 hi h => ?_) (fun σ H5 h => ?_)⟩
    · obtain ⟨y6, y7, y8, ys, bs, rfl, aS, hL, hB, hbl, hN5⟩ := h
      refine ⟨_, rfl, D, 8, rfl, by decide, by decide, aS.s.d, fun ra H6 a0 a1 d6 => ⟨_, rfl, D, 8, rfl, by decide, by decide, d6.d, fun rb H7 b0 b1 d7 => ⟨_, _, rfl, ?_⟩⟩⟩
      have d67 := d6.trans d7
      have aS7 := aS.go d67
      have hN7 := d67.b _ _ hN5 nND
      have hL7 := hL.keep (DS.keepT aS.s.d d67)
      refine ⟨.ref S, rfl, .inl ⟨rfl, _, sqL_at aS7.d⟩, _, rfl, by show 2 ≤ sizeLine; decide, fun p np => ?_⟩
      have sp := same_upd (o := .lst [.str "same", .str "under"]) np
      have aS8 := aS7.go (DS.of aS7.s.d sp)
      have hN8 := sp _ _ hN7
      have hL8 := hL7.keep (keepT_same sp)
      refine ⟨D, p, _, rfl, upd_same, DS.ne aS7.s.d np, by show 0 < 2; decide, by show 2 ≤ 1000; decide, aS8.s.d, fun x H9 hx d9 => ?_⟩
      obtain ⟨u, rfl⟩ : ∃ u : Bool, x = .str (if u then "under" else "same") := by
        simp only [List.mem_cons, List.not_mem_nil, or_false] at hx
        rcases hx with rfl | rfl
        · exact ⟨false, rfl⟩
        · exact ⟨true, rfl⟩
      have aS9 := aS8.go d9
      have hN9 := d9.b _ _ hN8 nND
      have hL9 := hL8.keep (DS.keepT aS8.s.d d9)
      refine ⟨_, rfl, _, rfl, _, rfl, _, rfl, D, N, _, rfl, hN9, nND, by rw [List.length_map]; omega, by rw [List.length_map]; omega, d9.d, fun x H10 hx d10 => ?_⟩
      obtain ⟨nm, hnm, rfl⟩ := List.mem_map.mp hx
      have aS10 := aS9.go d10
      have hL10 := hL9.keep (DS.keepT d9.d d10)
      refine ⟨by show 4 ≤ sizeLine; decide, fun t nt => ?_⟩
      have st := same_upd (o := .tup [.str (if u then "under" else "same"), .int ra, .int rb, .str nm]) nt
      have aS11 := aS10.go (DS.of aS10.s.d st)
      refine ⟨S, _, _, rfl, rfl, aS11.d, ?_, ?_⟩
      · rw [hL.1, List.length_append, List.length_map, hbl]
        exact small1000 (by omega)
      · refine ⟨_, _, _, _, bs ++ [.br u ra rb nm], rfl, aS11.to, ?_, ⟨fun l hl => ?_⟩, by rw [List.length_append, hbl]; rfl, ?_⟩
        · rw [← List.append_assoc]
          exact ((hL10.keep (keepT_same st)).append (LinesV.one (l := .br u ra rb nm) ⟨t, rfl, sqT_at upd_same⟩)).keep (keepT_but aS11.d (but_upd _ _ _))
        · rcases List.mem_append.mp hl with hl | hl
          · exact hB.all l hl
          · rw [List.mem_singleton] at hl
            exact ⟨u, ra, rb, nm, hl, by unfold okReg; rw [decide_eq_true a0, decide_eq_true (by omega : ra ≤ 7)]; rfl, by unfold okReg; rw [decide_eq_true b0, decide_eq_true (by omega : rb ≤ 7)]; rfl, hnm⟩
        · rw [upd_ne NS]
          exact st _ _ (d10.b _ _ hN9 nND)
    obtain ⟨y6, y7, y8, ys, bs, rfl, aS, hL, hB, hbl, hN5⟩ := h
    have hbl1 : 1 ≤ bs.length ∧ bs.length ≤ 5 := by rw [hbl]; omega
    have hdr : Drawn (ns.map Line.lab ++ bs) := by
      rw [← hns] at hB ⊢
      exact drawn_of hk1 hB hbl1.1
    have hnwS : ∀ l ∈ ns.map Line.lab ++ bs, l.isW = false := fun l hl => by
      rcases List.mem_append.mp hl with hl | hl
      · obtain ⟨x, _, rfl⟩ := List.mem_map.mp hl
        rfl
      · obtain ⟨u, a, b, x, rfl, _⟩ := hB.all l hl
        rfl
    have hlenS : (ns.map Line.lab ++ bs).length = k + bs.length := by rw [List.length_append, List.length_map, hnsl]
    generalize (ns.map Line.lab ++ bs) = sl at hL hdr hlenS hnwS
    have hysl : ys.length = k + bs.length := by rw [hL.1, hlenS]
    -- left, found
    refine ⟨_, rfl, _, rfl, S, _, rfl, .inl (sqL_at aS.d), 4, _, rfl, rfl, .inl ⟨by decide, by decide⟩, room, _, rfl, rfl, Nat.zero_le _, fun Z nZ => ⟨_, _, rfl, ?_⟩⟩
    obtain ⟨lf0, hlf0, lf1, lf2⟩ : ∃ lf0 : Int, room - 4 * ((ys.length : Nat) : Int) = lf0 ∧ 0 ≤ lf0 ∧ lf0 = room - 4 * (sl.length : Nat) := ⟨_, rfl, by omega, by rw [hL.1]⟩
    have sZ := same_upd (o := .lst []) nZ
    have nZH : H Z = none := aS.s.free nZ
    have ZD : Z ≠ D := DS.ne aS.s.d nZ
    have aS2 := aS.go (DS.of aS.s.d sZ)
    refine ⟨_, rfl, _, rfl, D, S, ys, sl, rfl, aS2.d, dS, by omega, hL.keep (keepT_same sZ), hdr.ok, aS2.s.d, fun ev es ms H6 hper d6 nev hev hLe => ?_⟩
    have evD : ev ≠ D := fun z => by
      obtain ⟨x, y, z', hz⟩ := aS2.s.d
      rw [z, hz] at nev
      cases nev
    have evZ : ev ≠ Z := fun z => by
      rw [z, upd_same] at nev
      cases nev
    have hms : ms.length = sl.length := hper.length_eq
    have hes : es.length = ms.length := hLe.1
    have hdm : Drawn ms := hdr.perm hper.symm
    have hnw : ∀ l ∈ ms, l.isW = false := fun l hl => hnwS l (hper.mem_iff.mp hl)
    refine ⟨ev, rfl, ⟨es, sqL_at hev⟩, for_it (walk_list (xs := es)) (fun i σ H' => ∃ y6 y11 y12, ∃ (left : Int) (fd : List V) (lf : List Line), σ = [some (.ref D), some (.int room), some (.ref F), some (.int 5), some (.ref N), some (.ref S), y6, y7, y8, some (.int left), some (.ref Z), y11, y12, none] ∧ AccB D H Z fd H' ∧ LinesV K H' fd lf ∧ lf.filter (fun l => !l.isW) = ms.take i ∧ (∀ l ∈ lf, l.isW = true → okLine l = true) ∧ 0 ≤ left ∧ ((lf.length : Nat) : Int) ≤ i + (lf0 - left) ∧ H' ev = some (.lst es) ∧ LinesV K H' es ms)
      ⟨y6, none, none, lf0, [], [], by rw [← hlf0]; rfl, ⟨nZH, ZD, (aS.s.same sZ).trans d6, d6.b _ _ upd_same ZD⟩, LinesV.nil, rfl, fun l hl => (by cases hl), lf1, by show (0 : Int) ≤ 0 + (lf0 - lf0); omega, hev, hLe⟩ (fun i σ H' _ h => ?_) (fun i x σ H7 H8 hi h y => ?_) (fun σ H7 h => ?_)⟩
    · obtain ⟨_, _, _, _, _, _, _, _, _, _, _, _, _, hev', _⟩ := h
      exact sqL_at hev'
    · obtain ⟨y6, y11, y12, left, fd, lf, rfl, aZ, hLf, hflt, hwd, l0, hll, hev7, hLe7⟩ := h
      obtain ⟨rfl, hx⟩ := y
      obtain ⟨l, el, hlv⟩ := hLe7.at_ hx
      have hil : i < ms.length := (List.getElem?_eq_some_iff.mp el).1
      have dl8 : DS D H H8 := aZ.s
      refine ⟨_, rfl, _, rfl, by show 11 ≤ sizeLine; decide, fun p np => ?_⟩
      have sp := same_upd (o := .lst [V.int 0, .int 1, .int 3, .int 12, .int 24, .int 26, .int 27, .int 29, .int 30, .int 31, .int 32]) np
      refine ⟨D, p, _, rfl, upd_same, DS.ne dl8.d np, by show 0 < 11; decide, by show 11 ≤ 1000; decide, dl8.d.same sp, fun x9 H9 hx9 d9 => ?_⟩
      obtain ⟨j, rfl, j0⟩ : ∃ j : Int, x9 = .int j ∧ 0 ≤ j := by
        simp only [List.mem_cons, List.not_mem_nil, or_false] at hx9
        rcases hx9 with rfl | rfl | rfl | rfl | rfl | rfl | rfl | rfl | rfl | rfl | rfl <;> exact ⟨_, rfl, by decide⟩
      have dp9 : DS D H8 H9 := (DS.of dl8.d sp).trans d9
      obtain ⟨mn, hmn, mn0, mn1⟩ : ∃ mn : Int, (if (if j < left then j else left) > 0 then (if j < left then j else left) else 0) = mn ∧ 0 ≤ mn ∧ mn ≤ left := ⟨_, rfl, by split <;> omega, by split <;> split <;> omega⟩
      refine ⟨left, j, rfl, 0, _, rfl, ?_⟩
      rw [hmn]
      refine ⟨_, rfl, _, rfl, left, mn, rfl, rfl, ?_⟩
      have aZ9 := aZ.go dp9
      have hL9 := hLf.keep (DS.keepT dl8.d dp9)
      have hev9 : H9 ev = some (.lst es) := dp9.b _ _ hev7 evD
      have hLe9 := hLe7.keep (DS.keepT dl8.d dp9)
      refine ⟨.ref Z, rfl, .inl ⟨rfl, _, sqL_at aZ9.d⟩, _, rfl, mn, rfl, by omega, by omega, fun L nL => lc_range (lo := 0) (n := mn.toNat) (fun i H' => ∃ ws : List Int, ws.length = i ∧ (∀ n ∈ ws, wordOk n) ∧ AccB D H9 L (ws.map V.int) H') ⟨[], rfl, fun n hn => (by cases hn), AccB.start aZ9.s.d nL⟩ (fun i' H10 hi' h => ?_) (fun H10 h => ?_)⟩
      · obtain ⟨ws, hwl, hww, aL⟩ := h
        have hF10 : H10 F = some (.lst (fs.map V.int)) := (aZ9.s.trans aL.s).b _ _ hF nF
        refine ⟨rfl, _, rfl, _, rfl, D, F, _, rfl, hF10, nF, by rw [List.length_map]; exact f0, by rw [List.length_map]; exact f1, aL.s.d, fun x H11 hx d11 => ?_⟩
        obtain ⟨n, hn, rfl⟩ := List.mem_map.mp hx
        have aL11 := aL.go d11
        refine ⟨_, aL11.d, by rw [List.length_map, hwl]; exact small1000 (by omega), ws ++ [n], by rw [List.length_append, hwl]; rfl, fun n' hn' => ?_, ?_⟩
        · rcases List.mem_append.mp hn' with hn' | hn'
          · exact hww n' hn'
          · rw [List.mem_singleton] at hn'
            rw [hn']
            exact hfs n hn
        · rw [List.map_append]
          exact aL11.to
      obtain ⟨ws, hwl, hww, aL⟩ := h
      have aZ10 := aZ9.go aL.s
      have LZ : L ≠ Z := fun z => by
        rw [z, aZ9.d] at nL
        cases nL
      have hL10 := hL9.keep (DS.keepT aZ9.s.d aL.s)
      have hev10 := aL.s.b _ _ hev9 evD
      have hLe10 := hLe9.keep (DS.keepT aZ9.s.d aL.s)
      have hfl : fd.length + ws.length ≤ 400 := by rw [hLf.1]; omega
      have hwv : LinesV K H10 (ws.map V.int) (ws.map Line.w) := ⟨by rw [List.length_map, List.length_map], fun i v l h1 h2 => by
        rw [List.getElem?_map] at h1 h2
        obtain ⟨n, e1, rfl⟩ := Option.map_eq_some_iff.mp h1
        rw [e1] at h2
        have : Line.w n = l := Option.some.inj h2
        rw [← this]
        rfl⟩
      refine ⟨Z, L, fd, _, rfl, rfl, aZ10.d, aL.d, by rw [List.length_map]; exact Nat.le_of_lt (small1000 (by omega)), ?_⟩
      have aZ11 : AccB D H Z (fd ++ ws.map V.int) (upd H10 Z (.lst (fd ++ ws.map V.int))) := aZ10.to
      have k11 : KeepT K H10 (upd H10 Z (.lst (fd ++ ws.map V.int))) := keepT_but aZ10.d (but_upd _ _ _)
      have hL11 := (hL10.append hwv).keep k11
      have hev11 : (upd H10 Z (.lst (fd ++ ws.map V.int))) ev = some (.lst es) := by rw [upd_ne evZ]; exact hev10
      have hLe11 := hLe10.keep k11
      refine ⟨.ref Z, rfl, .inl ⟨rfl, _, sqL_at aZ11.d⟩, x, rfl, Z, _, _, rfl, rfl, aZ11.d, by rw [List.length_append, List.length_map]; exact small1000 (by omega), ?_⟩
      have k12 : KeepT K (upd H10 Z (.lst (fd ++ ws.map V.int))) (upd (upd H10 Z (.lst (fd ++ ws.map V.int))) Z (.lst (fd ++ ws.map V.int ++ [x]))) := keepT_but aZ11.d (but_upd _ _ _)
      have hlv11 : LineV K _ x l := hLe11.2 i x l hx el
      have hlw : l.isW = false := hnw l (List.mem_of_getElem? el)
      refine ⟨_, _, _, left - mn, fd ++ ws.map V.int ++ [x], lf ++ ws.map Line.w ++ [l], rfl, aZ11.to, (hL11.append (LinesV.one hlv11)).keep k12, ?_, fun l' hl' hw' => ?_, by omega, ?_, by rw [upd_ne evZ]; exact hev11, hLe11.keep k12⟩
      · have eW : ∀ ws : List Int, (ws.map Line.w).filter (fun l => !l.isW) = [] := fun ws => by
          induction ws with
          | nil => rfl
          | cons n ws ih => exact ih
        rw [List.filter_append, List.filter_append, hflt, eW, List.append_nil, List.take_add_one, el]
        congr 1
        show List.filter (fun l => !l.isW) [l] = [l]
        rw [List.filter_cons, hlw]
        rfl
      · rcases List.mem_append.mp hl' with hl' | hl'
        · rcases List.mem_append.mp hl' with hl' | hl'
          · exact hwd l' hl' hw'
          · obtain ⟨n, hn, rfl⟩ := List.mem_map.mp hl'
            obtain ⟨n0, n1⟩ := hww n hn
            show (decide (0 ≤ n) && decide (n ≤ 65535)) = true
            rw [decide_eq_true n0, decide_eq_true n1]
            rfl
        · rw [List.mem_singleton] at hl'
          rw [hl', hlw] at hw'
          cases hw'
      · rw [List.length_append, List.length_append, List.length_map, hwl]
        show (((lf.length + mn.toNat + 1 : Nat)) : Int) ≤ ((i + 1 : Nat) : Int) + (lf0 - (left - mn))
        omega
    · obtain ⟨y6, y11, y12, left, fd, lf, rfl, aZ, hLf, hflt, hwd, l0, hll, hev7, hLe7⟩ := h
      rw [hes, List.take_of_length_le (Nat.le_refl _)] at hflt
      refine ⟨_, rfl, Z, fd, rfl, .inl ⟨sqL_at aZ.d, fun t nt => ?_⟩⟩
      have st := same_upd (o := .tup fd) nt
      exact q t lf _ (Drawn.filter hwd (by rw [hflt]; exact hdm)) (by omega) (aZ.s.same st) (aZ.s.free nt) ⟨fd, sqT_at upd_same, hLf.keep (keepT_same st)⟩
def spWithPlaces (K : PySem.W.Frag) : Sp := fun vs H Q _ => ∃ (D t : Addr) (ls : List Line), vs = [.ref D, .ref t] ∧ LinesT K H t ls ∧ Drawn ls ∧ ls.length ≤ 249 ∧ Dice H D ∧
  ∀ (t' : Addr) (ls' : List Line) H', Drawn ls' → ls'.length ≤ 252 → DS D H H' → H t' = none → LinesT K H' t' ls' → Q (.ref t') H'
theorem cal_with_places (T : Txt K mg CS CI CL) : Cal P w K mg base CX0 3 "_law_with_places" ["_law_dice_here", "_law_lines"] (spWithPlaces K) := by
  refine T.d_Lwith_places.cal0 sc_Lwith_places (fun vs H Q E h => ?_) (fun _ _ _ _ _ _ us hl => match us, hl with | [_, _], _ => rfl) (fun f cdv A outer s H vs Q E hr h => ?_)
  · obtain ⟨_, _, _, rfl, _⟩ := h
    rfl
  · obtain ⟨D, t, ls, rfl, ⟨xs, hxs, hls⟩, hdr, hlen, hD, q⟩ := h
    have hr1 : Room 1 _ := hr.mono (by decide)
    refine ⟨_, pss_cons (ps_setLc (i := 3) (own := [("_law_line", 2)]) (g := gName 2) rfl sc_Lwith_places.nd rfl rfl (sw_true rfl rfl rfl (by decide +kernel)) (pi_tup (pv 1)) (blkOk_by (own := [("_law_line", 2)]) (N := n_Lwith_places) (sc := defScope s_Lwith_places) (by decide +kernel))
        (fun _ _ _ _ _ => pg_name (i := 2) sc_Lwith_places.nd rfl (.inl rfl))
        (fun _ _ _ _ _ => pts_one (PW.pt (pw_and (pt_val (pe_callB (r := rIsi K) call_isi (by rfl) T.b.isinstance boot_isinstance (pa_cons (pv 2) (pa_cons (pe_bltn (v := .ty "tuple") (by rfl) T.b.tuple boot_tuple rfl) pa_nil)))) (pw_and1 (pt_cmpR op_eq (pe_ix (r := rIxT K) ix_tup (pv 2) pe_int (fun _ _ => rfl)) pe_str (nomark _))))))
        (fun _ _ _ _ _ => pe_ix (r := rIxT K) ix_tup (pv 2) pe_int (fun _ _ => rfl)))
      (pss_cons (ps_set (i := 4) sc_Lwith_places.nd rfl (.inl rfl) (pe_callTy call_list_of (by rfl) T.b.list (by decide +kernel) (pa_cons (pv 1) pa_nil)))
      (pss_cons (ps_for PassesOwn.never rfl (pi_range1 (by rfl) T.b.range (pa_cons (pe_cal (cal_roll T) hr1 (by rfl) pass0 (pa_cons (pv 0) (pa_cons pe_int pa_nil))) pa_nil)) (pg_name (i := 5) sc_Lwith_places.nd rfl (.inl rfl))
        (pss_cons (ps_par (i := 6) (j := 2) rfl sc_Lwith_places.nd rfl rfl (by decide) rfl rfl (pa_cons (pe_cal (cal_roll T) hr1 (by rfl) pass0 (pa_cons (pv 0) (pa_cons (pe_op op_add (pe_callB call_len_seq (by rfl) T.b.len PySem.boot_len (pa_cons (pv 4) pa_nil)) pe_int) pa_nil)))
          (pa_cons (pe_tup (pa_cons pe_str (pa_cons (pe_cal (cal_roll T) hr1 (by rfl) pass0 (pa_cons (pv 0) (pa_cons pe_int pa_nil))) (pa_cons (pe_cal (cal_one_of T) hr (by rfl) pass0 (pa_cons (pv 0) (pa_cons (pv 3) pa_nil))) pa_nil)))) pa_nil)) rfl)
        (pss_one (ps_set (i := 4) sc_Lwith_places.nd rfl (.inl rfl) (pe_op op_cat (pe_op op_cat (pe_slice sl_list (pv 4) po_none (po_some (pv 6))) (pe_lst (pa_cons (pv 2) pa_nil))) (pe_slice sl_list (pv 4) (po_some (pv 6)) po_none))))))
      (pss_one (ps_ret (pe_callTy call_tuple_of (by rfl) T.b.tuple boot_tuple (pa_cons (pv 4) pa_nil)))))), ?_⟩
    have kT : ∀ {H'}, DS D H H' → KeepT K H H' := fun d => DS.keepT hD d
    refine ⟨.ref t, rfl, t, rfl, ⟨xs, hxs⟩, fun S nS => lc_tup (xs := xs) (fun i H' => Acc H S (((ls.take i).filterMap Line.labN).map V.str) H') (Acc.start nS) (fun i H' _ a => a.s.sqT hxs) (fun i x H' hx a => ?_) (fun H1 a => ?_)⟩
    · obtain ⟨l, el, hl⟩ := hls.at_ hx
      have hl2 : LineV K H' x l := hl.keep (keepT_same a.s)
      have hi := (List.getElem?_eq_some_iff.mp el).1
      refine ⟨rfl, rd_labT (l := l) hl2 rfl ?_⟩
      have et : (ls.take (i + 1)).filterMap Line.labN = (ls.take i).filterMap Line.labN ++ l.labN.toList := by
        rw [List.take_add_one, el, List.filterMap_append]
        congr 1
      cases c : l.isLab with
      | false =>
        have el2 : l.labN = none := by cases l <;> first | rfl | cases c
        refine iteF ?_
        show Acc H S _ _
        rw [et, el2]
        show Acc H S (List.map V.str (_ ++ [])) _
        rw [List.append_nil]
        exact a
      | true =>
        cases l with
        | lab nm =>
          obtain ⟨p, rfl, hp⟩ := hl2
          refine iteT ⟨.ref p, rfl, p, _, 1, .str nm, rfl, rfl, hp, atI_nat (j := 1) rfl, _, a.d, ?_, ?_⟩
          · rw [List.length_map]
            have h1 := List.length_filterMap_le Line.labN (ls.take i)
            rw [List.length_take] at h1
            exact small1000 (by omega)
          · show Acc H S _ _
            rw [et]
            show Acc H S (List.map V.str (_ ++ [nm])) _
            rw [List.map_append]
            exact a.to
        | _ => cases c
    rw [List.take_of_length_le (Nat.le_of_eq hls.1.symm)] at a
    refine ⟨.ref t, rfl, t, xs, rfl, .inr (a.s.sqT hxs), fun L nL => ?_⟩
    have sL := same_upd (o := .lst xs) nL
    have d1 : DS D H H1 := .of hD a.s
    have d2 : DS D H (upd H1 L (.lst xs)) := d1.same sL
    have SD : S ≠ D := DS.ne hD nS
    have nLH : H L = none := a.s.free nL
    refine ⟨_, rfl, D, 4, rfl, by decide, by decide, d2.d, fun r H2 r0 r1 d3 => ?_⟩
    have hS2 : H2 S = some (.lst ((ls.filterMap Line.labN).map V.str)) := d3.b _ _ (sL _ _ a.d) SD
    have d23 := d2.trans d3
    have LD : L ≠ D := DS.ne d1.d nL
    refine ⟨r, rfl, by omega, by omega, for_range (n := r.toNat) (fun i σ H' => ∃ y2 y5 y6, ∃ (L' : Addr) (fd : List V) (lf : List Line), σ = [some (.ref D), some (.ref t), y2, some (.ref S), some (.ref L'), y5, y6] ∧ H' L' = some (.lst fd) ∧ L' ≠ D ∧ LinesV K H' fd lf ∧ Drawn lf ∧ lf.filterMap Line.labN ≠ [] ∧ (∀ x ∈ ls.filterMap Line.labN, x ∈ lf.filterMap Line.labN) ∧ lf.length = ls.length + i ∧ DS D H H' ∧ H' S = some (.lst ((ls.filterMap Line.labN).map V.str)))
      ⟨none, none, none, L, xs, ls, rfl, d3.b _ _ upd_same LD, LD, hls.keep (kT d23), hdr, fun z => (by have := hdr.one; rw [z] at this; cases this), fun x hx => hx, rfl, d23, hS2⟩ (fun i σ H3 hi h => ?_) (fun σ H3 h => ?_)⟩
    · obtain ⟨y2, y5, y6, L', fd, lf, rfl, hL3, LD', hLf, hdf, hne, hsub, hlf, d3', hS3⟩ := h
      have hfd : fd.length = lf.length := hLf.1
      refine ⟨_, rfl, _, rfl, L', fd, rfl, .inl (sqL_at hL3), _, 1, rfl, rfl, D, _, rfl, by omega, by omega, d3'.d, fun ra H4 a0 a1 d4 => ?_⟩
      refine ⟨_, rfl, D, 8, rfl, by decide, by decide, d4.d, fun rg H5 g0 g1 d5 => ?_⟩
      have d45 := d4.trans d5
      have hS5 := d45.b _ _ hS3 SD
      refine ⟨_, rfl, _, rfl, D, S, _, rfl, hS5, SD, by rw [List.length_map]; exact hdr.one, by rw [List.length_map]; have := hdr.few; omega, d5.d, fun x H6 hx d6 => ?_⟩
      obtain ⟨nm, hnm, rfl⟩ := List.mem_map.mp hx
      have d46 := d45.trans d6
      refine ⟨by show 3 ≤ sizeLine; decide, fun p np => ⟨_, _, rfl, ?_⟩⟩
      have sp := same_upd (o := .tup [.str "place", .int rg, .str nm]) np
      have d7 := d46.same sp
      have hL7 := d7.b _ _ hL3 LD'
      have hLf7 := hLf.keep (DS.keepT d3'.d d7)
      -- found[:at]
      refine ⟨_, rfl, _, rfl, ra, rfl, L', fd, rfl, sqL_at hL7, fun u nu => ?_⟩
      rw [cut_take fd a0]
      have su := same_upd (o := .lst (fd.take ra.toNat)) nu
      refine ⟨_, rfl, by show 1 ≤ sizeLine; decide, fun v nv => ?_⟩
      have sv := same_upd (o := .lst [V.ref p]) nv
      refine ⟨u, v, _, _, rfl, rfl, sv _ _ upd_same, upd_same, ?_, fun z nz => ?_⟩
      · rw [List.length_take]
        exact Nat.le_of_lt (small1000 (show min ra.toNat fd.length + 1 ≤ 1000 by omega))
      have sz' := same_upd (o := .lst (fd.take ra.toNat ++ [V.ref p])) nz
      have s79 := (su.trans sv).trans sz'
      refine ⟨_, rfl, _, rfl, ra, rfl, L', fd, rfl, sqL_at (s79 _ _ hL7), fun c nc => ?_⟩
      rw [cut_drop fd a0]
      have sc := same_upd (o := .lst (fd.drop ra.toNat)) nc
      refine ⟨z, c, _, _, rfl, rfl, sc _ _ upd_same, upd_same, ?_, fun m nm' => ?_⟩
      · rw [List.length_append, List.length_take, List.length_drop]
        exact Nat.le_of_lt (small1000 (show min ra.toNat fd.length + 1 + (fd.length - ra.toNat) ≤ 1000 by omega))
      have sm := same_upd (o := .lst (fd.take ra.toNat ++ [V.ref p] ++ fd.drop ra.toNat)) nm'
      have sall := (s79.trans sc).trans sm
      have hok : okReg rg = true := by
        unfold okReg
        rw [decide_eq_true g0, decide_eq_true (by omega : rg ≤ 7)]
        rfl
      have hnew := hdf.insert hok (hsub nm hnm) ra.toNat
      have eLabs : (lf.take ra.toNat ++ [Line.pl rg nm] ++ lf.drop ra.toNat).filterMap Line.labN = lf.filterMap Line.labN := by
        rw [List.filterMap_append, List.filterMap_append]
        show (lf.take ra.toNat).filterMap Line.labN ++ [] ++ (lf.drop ra.toNat).filterMap Line.labN = _
        rw [List.append_nil, ← List.filterMap_append, List.take_append_drop]
      refine ⟨_, _, _, m, fd.take ra.toNat ++ [V.ref p] ++ fd.drop ra.toNat, lf.take ra.toNat ++ [.pl rg nm] ++ lf.drop ra.toNat, rfl, upd_same, DS.ne ((d7.same s79).same sc).d nm', ?_, hnew, by rw [eLabs]; exact hne, fun x hx => by rw [eLabs]; exact hsub x hx, ?_, d3'.trans (d7.same sall), sall _ _ ((d46.same sp).b _ _ hS3 SD)⟩
      · exact (((hLf7.take _).append (LinesV.one (l := .pl rg nm) ⟨p, rfl, sqT_at upd_same⟩)).append (hLf7.drop _)).keep (keepT_same sall)
      · rw [List.length_append, List.length_append, List.length_take, List.length_drop]
        show min ra.toNat lf.length + 1 + (lf.length - ra.toNat) = ls.length + (i + 1)
        omega
    · obtain ⟨y2, y5, y6, L', fd, lf, rfl, hL3, LD', hLf, hdf, hne, hsub, hlf, d3', hS3⟩ := h
      refine ⟨_, rfl, L', fd, rfl, .inl ⟨sqL_at hL3, fun t' nt => ?_⟩⟩
      have st := same_upd (o := .tup fd) nt
      exact q t' lf _ hdf (by omega) (d3'.same st) (d3'.free nt) ⟨fd, sqT_at upd_same, hLf.keep (keepT_same st)⟩
end
end K80
set_option Elab.async false
set_option linter.all false
set_option maxRecDepth 100000
set_option maxHeartbeats 4000000
/-! _law_branches, _law_least. -/
namespace K80
open PySem PySem.Spec PyProof.Rows L2
def brTo (ls : List Line) (n : Nat) : List Nat := (List.range n).filter fun i => match ls[i]? with
  | some l => l.isBr
  | none => false
theorem brTo_succ (ls : List Line) {n : Nat} {l : Line} (e : ls[n]? = some l) : brTo ls (n + 1) = brTo ls n ++ if l.isBr then [n] else [] := by
  unfold brTo
  rw [List.range_succ, List.filter_append]
  congr 1
  rw [List.filter_cons, List.filter_nil]
  rw [e]
theorem brTo_len (ls : List Line) (n : Nat) : (brTo ls n).length ≤ n := by
  have := List.length_filter_le (fun i => match ls[i]? with | some l => l.isBr | none => false) (List.range n)
  rw [List.length_range] at this
  exact this
theorem small2000 {n : Nat} (h : n ≤ 2000) : n < sizeLine := Nat.lt_of_le_of_lt h (by decide)
theorem pos_le4 (ls : List Line) (far : List Nat) : ∀ i, pos ls far i ≤ 4 * i
  | 0 => Nat.le_refl _
  | i + 1 => by
    have := pos_le4 ls far i
    show pos ls far i + sz ls far i ≤ 4 * (i + 1)
    have : sz ls far i ≤ 4 := by
      unfold sz
      split
      · exact Nat.le_refl _
      · split <;> decide
    omega
section
variable {K : PySem.W.Frag} {H : Hp} {v : V} {l : Line} {σ : L2.St} {i : Nat}
/-- isinstance(line, tuple) and line[0] in ('same', 'under') -/
theorem rd_br {Q : Bool → Hp → Prop} (hv : LineV K H v l) (hs : σ[i]? = some (some v)) (q : ∀ H', Same H H' → Q l.isBr H') :
    tAnd (tB (tCB (rIsi K) (tCons (tVar i) (tCons (tC (.ty "tuple")) tNil)))) (tTest (tOp (rIn K false) (tOp (rIxT K) (tVar i) (tC (.int 0))) (tTup (tCons (tC (.str "same")) (tCons (tC (.str "under")) tNil))))) σ H Q := by
  obtain ⟨t, ht, hk⟩ := line_ty hv
  refine ⟨_, hs, v, .ty "tuple", _, _, _, rfl, .ty _, ht, hk, _, rfl, ?_⟩
  cases c : l.isW with
  | true =>
    have : l.isBr = false := by cases l <;> first | rfl | cases c
    rw [this] at q
    exact q H (Same.refl H)
  | false =>
    obtain ⟨p, rfl, hp⟩ := line_sq hv c
    refine ⟨.ref p, hs, p, _, 0, _, rfl, rfl, hp, items_head l c, by show 2 ≤ sizeLine; decide, fun u nu => ⟨u, _, rfl, .inr (sqT_at upd_same), rfl, rfl, _, rfl, ?_⟩⟩
    show Q (inV (.str l.head) [.str "same", .str "under"]) _
    rw [head_br l c]
    exact q _ (same_upd nu)
end
section
variable {P : Program} {w : World} {K : PySem.W.Frag} {mg : Str → Option Value} {base : Heap} {CS CI CL CM CR : Addr}
def spBranches (K : PySem.W.Frag) : Sp := fun vs H Q _ => ∃ (t : Addr) (ls : List Line), vs = [.ref t] ∧ LinesT K H t ls ∧ ls.length ≤ 256 ∧ ∀ p H', Same H H' → H p = none → H' p = some (.lst ((brs ls).map natV)) → Q (.ref p) H'
theorem cal_branches (T : Txt K mg CS CI CL) : Cal P w K mg base CX0 1 "_law_branches" ["_law_lines"] (spBranches K) := by
  refine T.d_Lbranches.cal0 sc_Lbranches (fun vs H Q E h => ?_) (fun _ _ _ _ _ _ us hl => match us, hl with | [_], _ => rfl) (fun f cdv A outer s H vs Q E hr h => ?_)
  · obtain ⟨_, _, rfl, _⟩ := h
    rfl
  · obtain ⟨t, ls, rfl, ⟨xs, hxs, hls⟩, hlen, q⟩ := h
    refine ⟨_, pss_one (ps_ret (pe_lc (own := [("_law_at", 1), ("_law_line", 2)]) (g := gTup K 2 (gCons (gName 1) (gCons (gName 2) gNil))) rfl sc_Lbranches.nd (pi_enumT (by rfl) T.b.enumerate (pa_cons (pv 0) pa_nil)) (blkOk_by (own := [("_law_at", 1), ("_law_line", 2)]) (N := n_Lbranches) (sc := defScope s_Lbranches) (by decide +kernel))
      (fun _ _ _ _ _ => pg_tup rfl (pgs_cons (pg_name (i := 1) sc_Lbranches.nd rfl (.inl rfl)) (pgs_cons (pg_name (i := 2) sc_Lbranches.nd rfl (.inl rfl)) pgs_nil)))
      (fun _ _ _ _ _ => pts_one (PW.pt (pw_and (pt_val (pe_callB (r := rIsi K) call_isi (by rfl) T.b.isinstance boot_isinstance (pa_cons (pv 2) (pa_cons (pe_bltn (v := .ty "tuple") (by rfl) T.b.tuple boot_tuple rfl) pa_nil)))) (pw_and1 (pt_cmpR (r := rIn K false) op_in_seq (pe_ix (r := rIxT K) ix_tup (pv 2) pe_int (fun _ _ => rfl)) (pe_tup (pa_cons pe_str (pa_cons pe_str pa_nil))) rfl)))))
      (fun _ _ _ _ _ => pv 1))), ?_⟩
    refine ⟨.ref t, rfl, t, xs, rfl, hxs, fun M hM => lc_it (walk_enumT (xs := xs)) (fun i H' => Acc H M ((brTo ls i).map natV) H') (Acc.start hM) (fun i H' _ a => a.s.sqT hxs) (fun i x H3 H4 hi a y => ?_) (fun H3 a => ?_)⟩
    · obtain ⟨U, i', x', rfl, nU, rfl, e1, hx⟩ := y
      injection e1 with e1
      subst e1
      have a2 := a.same (same_upd (o := .tup [.int (i : Nat), x']) nU)
      obtain ⟨l, el, hl⟩ := hls.at_ hx
      have hl2 : LineV K _ x' l := hl.keep (keepT_same a2.s)
      have hi2 := (List.getElem?_eq_some_iff.mp el).1
      refine ⟨U, _, rfl, sqT_at upd_same, rfl, _, _, rfl, _, _, rfl, rfl, rfl, rd_br (l := l) hl2 rfl fun H5 s5 => ?_⟩
      have a3 := a2.same s5
      have eb := brTo_succ ls el
      cases c : l.isBr with
      | false =>
        refine iteF ?_
        rw [c] at eb
        show Acc H M ((brTo ls (i + 1)).map natV) _
        rw [eb]
        show Acc H M (List.map natV (_ ++ [])) _
        rw [List.append_nil]
        exact a3
      | true =>
        refine iteT ⟨_, rfl, _, a3.d, ?_, ?_⟩
        · rw [List.length_map]
          exact Nat.lt_of_le_of_lt (brTo_len ls i) (small1000 (by omega))
        · rw [c] at eb
          show Acc H M ((brTo ls (i + 1)).map natV) _
          rw [eb]
          show Acc H M (List.map natV (_ ++ [i])) _
          rw [List.map_append]
          exact a3.to
    · rw [hls.1] at a
      exact q M H3 a.s hM a.d
theorem fits_of {ls : List Line} {far : List Nat} (h : ∀ b ∈ brs ls, misses ls far b = false) : Fits ls far := fun i => by
  cases c : misses ls far i with
  | false => rfl
  | true =>
    obtain ⟨u, a, b, x, e, _⟩ := misses_br c
    rw [h i (brs_mem.mpr ⟨u, a, b, x, e⟩)] at c
    cases c
def spLeast (K : PySem.W.Frag) : Sp := fun vs H Q _ => ∃ (t : Addr) (ls : List Line), vs = [.ref t] ∧ LinesT K H t ls ∧ ls.length ≤ 256 ∧ labsOk ls = true ∧ ∀ p f H', Same H H' → H p = none → H' p = some (.lst (f.map natV)) → Least ls f → Q (.ref p) H'
theorem cal_least (T : Txt K mg CS CI CL) : Cal P w K mg base CX0 3 "_law_least" ["_law_lines"] (spLeast K) := by
  refine T.d_Lleast.cal0 sc_Lleast (fun vs H Q E h => ?_) (fun _ _ _ _ _ _ us hl => match us, hl with | [_], _ => rfl) (fun f cdv A outer s H vs Q E hr h => ?_)
  · obtain ⟨_, _, rfl, _⟩ := h
    rfl
  · obtain ⟨t, ls, rfl, hL, hlen, hlo, q⟩ := h
    refine ⟨_, pss_cons (ps_par (i := 1) (j := 2) rfl sc_Lleast.nd rfl rfl (by decide) rfl rfl (pa_cons (pe_lst pa_nil) (pa_cons (pe_cal (cal_branches T) (hr.mono (by decide)) (by rfl) pass0 (pa_cons (pv 0) pa_nil)) pa_nil)) rfl)
      (pss_cons (ps_for PassesOwn.never rfl (pi_range1 (by rfl) T.b.range (pa_cons (pe_op op_add pe_int (pe_callB call_len_seq (by rfl) T.b.len PySem.boot_len (pa_cons (pv 2) pa_nil))) pa_nil)) (pg_name (i := 3) sc_Lleast.nd rfl (.inl rfl))
        (pss_one (ps_for PassesOwn.never rfl (pi_list (pv 2)) (pg_name (i := 4) sc_Lleast.nd rfl (.inl rfl))
          (pss_cons (ps_set (i := 5) sc_Lleast.nd rfl (.inl rfl) (pe_cal (cal_Lplaces T) hr (by rfl) pass0 (pa_cons (pv 0) (pa_cons (pv 1) pa_nil))))
          (pss_one (ps_if (pw_and (pt_cmpR (r := rIn K true) op_notIn_seq (pv 4) (pv 1) rfl) (pw_and1 (pt_not (pt_chain op_le op_le (pe_un un_neg pe_int) (pe_op op_sub (pe_dget (hu_of hr) (pe_cal (cal_Llabel_table T) hr (by rfl) pass0 (pa_cons (pv 0) (pa_cons (pv 5) pa_nil))) (pe_ix ix_tup (pe_ix ix_tup (pv 0) (pv 4) (fun _ _ => rfl)) pe_int (fun _ _ => rfl)) (fun _ _ => rfl)) (pe_ix ix_list (pv 5) (pv 4) (fun _ _ => rfl))) pe_int)))).pt
            (pss_one (ps_expr (pe_bm PySem.F.plainAttrs_list PySem.F.slot_list_append PySem.F.type_list_append mt_append (pv 1) (pa_cons (pv 4) pa_nil)))) pss_nil))))))
      (pss_one (ps_ret (pv 1)))), ?_⟩
    refine ⟨Nat.zero_le _, fun o no => ?_⟩
    have s1 := same_upd (o := .lst []) no
    refine ⟨_, rfl, t, ls, rfl, hL.same s1, hlen, fun B H1 s2 nB hB => ⟨_, _, rfl, ?_⟩⟩
    have hbl : (brs ls).length ≤ 256 := Nat.le_trans (brs_len ls) hlen
    have oB : B ≠ o := fun z => by
      rw [z, upd_same] at nB
      cases nB
    refine ⟨_, rfl, B, _, rfl, .inl (sqL_at hB), 1, _, rfl, rfl, _, rfl, by rw [List.length_map]; omega, by rw [List.length_map]; omega, ?_⟩
    have en : (1 + (((brs ls).map natV).length : Nat) : Int).toNat = 1 + (brs ls).length := by rw [List.length_map]; omega
    rw [en]
    refine for_range (fun i σ H' => ∃ y3 y4 y5, ∃ far : List Nat, σ = [some (.ref t), some (.ref o), some (.ref B), y3, y4, y5] ∧ Acc H o (far.map natV) H' ∧ H' B = some (.lst ((brs ls).map natV)) ∧ Grown ls far ∧ (Fits ls far ∨ i ≤ far.length))
      ⟨none, none, none, [], rfl, ⟨no, s1.trans s2, s2 _ _ upd_same⟩, hB, Grown.nil ls, .inr (Nat.le_refl _)⟩ (fun i σ H2 hi h => ?_) (fun σ H2 h => ?_)
    · obtain ⟨y3, y4, y5, far0, rfl, a0, hB2, g0, c0⟩ := h
      refine ⟨_, rfl, B, rfl, ⟨_, sqL_at hB2⟩, for_list (xs := (brs ls).map natV) (fun j σ H' => ∃ y4 y5, ∃ far : List Nat, σ = [some (.ref t), some (.ref o), some (.ref B), some (.int (0 + (i : Nat))), y4, y5] ∧ Acc H o (far.map natV) H' ∧ H' B = some (.lst ((brs ls).map natV)) ∧ Grown ls far ∧ (i + 1 ≤ far.length ∨ ((∀ b ∈ (brs ls).take j, misses ls far b = false) ∧ (Fits ls far ∨ i ≤ far.length))))
        ⟨y4, y5, far0, rfl, a0, hB2, g0, .inr ⟨fun b hb => (by cases hb), c0⟩⟩ (fun j σ H' _ h => ?_) (fun j x σ H3 hx h => ?_) (fun σ H3 h => ?_)⟩
      · obtain ⟨_, _, _, _, _, hB', _⟩ := h
        exact sqL_at hB'
      · obtain ⟨y4, y5, far, rfl, a, hB3, g, c⟩ := h
        rw [List.getElem?_map] at hx
        obtain ⟨b, eb, rfl⟩ := Option.map_eq_some_iff.mp hx
        have hbm : b ∈ brs ls := List.mem_of_getElem? eb
        obtain ⟨u, ra, rb, nm, el⟩ := brs_mem.mp hbm
        have hb := (List.getElem?_eq_some_iff.mp el).1
        refine ⟨_, rfl, _, rfl, t, .ref o, ls, far, rfl, hL.same a.s, ⟨o, rfl, .inl (sqL_at a.d)⟩, hlen, fun pl H4 s4 npl hpl => ?_⟩
        have a4 := a.same s4
        have hB4 := s4 _ _ hB3
        have ets : ∀ b' ∈ (brs ls).take (j + 1), b' ∈ (brs ls).take j ∨ b' = b := fun b' hb' => by
          rw [List.take_add_one, eb] at hb'
          rcases List.mem_append.mp hb' with z | z
          · exact .inl z
          · exact .inr (by simpa using z)
        -- what follows when nothing is appended
        have stay : ∀ {H5 : Hp} (s5 : Same H4 H5) (hm : misses ls far b = false), ∃ y4 y5, ∃ far' : List Nat, ([some (.ref t), some (.ref o), some (.ref B), some (.int (0 + (i : Nat))), some (natV b), some (.ref pl)] : L2.St) = [some (.ref t), some (.ref o), some (.ref B), some (.int (0 + (i : Nat))), y4, y5] ∧ Acc H o (far'.map natV) H5 ∧ H5 B = some (.lst ((brs ls).map natV)) ∧ Grown ls far' ∧ (i + 1 ≤ far'.length ∨ ((∀ b ∈ (brs ls).take (j + 1), misses ls far' b = false) ∧ (Fits ls far' ∨ i ≤ far'.length))) := fun s5 hm =>
          ⟨_, _, far, rfl, a4.same s5, s5 _ _ hB4, g, c.imp id fun ⟨c1, c2⟩ => ⟨fun b' hb' => by
            rcases ets b' hb' with z | z
            · exact c1 b' z
            · rw [z]; exact hm, c2⟩⟩
        refine ⟨_, rfl, _, rfl, o, _, rfl, .inl (sqL_at a4.d), rfl, flat_nats far, _, rfl, ?_⟩
        show if (!inV (natV b) (far.map natV)) = true then _ else _
        rw [inV_nats]
        by_cases cf : b ∈ far
        · rw [decide_eq_true cf]
          refine iteF (stay (Same.refl _) ?_)
          unfold misses
          rw [el]
          show (decide (b ∉ far) && _) = false
          rw [decide_eq_false (fun z => z cf)]
          rfl
        rw [decide_eq_false cf]
        have em := misses_val el cf
        have hnm : nm ∈ ls.filterMap Line.labN := labs_has hlo el rfl
        refine iteT ⟨32, rfl, _, rfl, _, rfl, t, pl, ls, far, rfl, hL.same (a.s.trans s4), sqL_at hpl, hlen, hlo, fun tb H5 s5 ntb htb => ?_⟩
        have hget : DGet H5 tb (.str nm) (some (natV (pos ls far (labIx ls nm)))) := by
          have z := DGet.k (k := Sum.inr nm) htb
          rw [tabV_get far hlo hnm] at z
          exact z
        obtain ⟨xs, hxs, hls⟩ := hL
        obtain ⟨v, ev, hv⟩ := hls.on el
        have s05 := (a.s.trans s4).trans s5
        obtain ⟨p, rfl, hp⟩ := line_sq (hv.keep (keepT_same s05)) (l := .br u ra rb nm) rfl
        have a5 := a4.same s5
        refine ⟨_, rfl, _, rfl, t, xs, (b : Nat), .ref p, rfl, rfl, s05.sqT hxs, atI_nat ev, p, _, 3, .str nm, rfl, rfl, hp, atI_nat (j := 3) rfl, tb, _, rfl, hget, ?_⟩
        refine ⟨_, rfl, _, rfl, pl, _, (b : Nat), natV (pos ls far b), rfl, rfl, sqL_at (s5 _ _ hpl), atI_nat (plTo_get ls far (by omega)), (pos ls far (labIx ls nm) : Nat), (pos ls far b : Nat), rfl, rfl, -32, _, rfl, rfl, _, rfl, ?_⟩
        have app : misses ls far b = true → ∃ y4 y5, ∃ far' : List Nat, ([some (.ref t), some (.ref o), some (.ref B), some (.int (0 + (i : Nat))), some (natV b), some (.ref pl)] : L2.St) = [some (.ref t), some (.ref o), some (.ref B), some (.int (0 + (i : Nat))), y4, y5] ∧ Acc H o (far'.map natV) (upd H5 o (.lst (far.map natV ++ [natV b]))) ∧ (upd H5 o (.lst (far.map natV ++ [natV b]))) B = some (.lst ((brs ls).map natV)) ∧ Grown ls far' ∧ (i + 1 ≤ far'.length ∨ ((∀ b ∈ (brs ls).take (j + 1), misses ls far' b = false) ∧ (Fits ls far' ∨ i ≤ far'.length))) := fun hm => by
          refine ⟨_, _, far ++ [b], rfl, ?_, by rw [upd_ne oB]; exact s5 _ _ hB4, g.one hm, .inl ?_⟩
          · rw [List.map_append]
            exact a5.to
          · rw [List.length_append]
            show i + 1 ≤ far.length + 1
            rcases c with c | ⟨_, c | c⟩
            · omega
            · rw [c b] at hm
              cases hm
            · omega
        have hfl : far.length ≤ 256 := Nat.le_trans g.len hbl
        cases c1 : decide ((-32 : Int) ≤ (pos ls far (labIx ls nm) : Int) - (pos ls far b : Int)) with
        | false =>
          rw [c1] at em
          refine iteF ⟨false, rfl, iteT ⟨_, rfl, .inl ⟨rfl, _, sqL_at a5.d⟩, _, rfl, o, _, _, rfl, rfl, a5.d, by rw [List.length_map]; exact small1000 (by omega), app (by rw [em]; rfl)⟩⟩
        | true =>
          refine iteT ⟨_, 31, rfl, rfl, _, rfl, ?_⟩
          cases c2 : decide ((pos ls far (labIx ls nm) : Int) - (pos ls far b : Int) ≤ 31) with
          | true =>
            rw [c1, c2] at em
            exact iteF (stay s5 (by rw [em]; rfl))
          | false =>
            rw [c1, c2] at em
            exact iteT ⟨_, rfl, .inl ⟨rfl, _, sqL_at a5.d⟩, _, rfl, o, _, _, rfl, rfl, a5.d, by rw [List.length_map]; exact small1000 (by omega), app (by rw [em]; rfl)⟩
      · obtain ⟨y4, y5, far, rfl, a, hB3, g, c⟩ := h
        rw [List.length_map, List.take_of_length_le (Nat.le_refl _)] at c
        exact ⟨_, _, _, far, rfl, a, hB3, g, c.elim .inr fun c => .inl (fits_of c.1)⟩
    · obtain ⟨y3, y4, y5, far, rfl, a, hB2, g, c⟩ := h
      have hf : Fits ls far := c.elim id fun c => by
        have := g.len
        omega
      exact ⟨_, rfl, q o far H2 a.s no a.d ⟨g, hf⟩⟩
end
end K80
set_option Elab.async false
set_option linter.all false
set_option maxRecDepth 100000
set_option maxHeartbeats 4000000
/-! _law_program. -/
namespace K80
open PySem PySem.Spec PyProof.Rows L2
section
variable {P : Program} {w : World} {K : PySem.W.Frag} {mg : Str → Option Value} {base : Heap} {CS CI CL CM CR : Addr}
theorem dgetV {H : Hp} {tb : Addr} {ls : List Line} (far : List Nat) (hlo : labsOk ls = true) {x : Str} (hx : x ∈ ls.filterMap Line.labN) (h : H tb = some (.dK (tabV ls far))) : DGet H tb (.str x) (some (natV (pos ls far (labIx ls x)))) := by
  have z := DGet.k (k := Sum.inr x) h
  rw [tabV_get far hlo hx] at z
  exact z
def spProgram (K : PySem.W.Frag) : Sp := fun vs H Q _ => ∃ (sh t : Addr) (fv : V) (wd rg : Int) (ls : List Line) (far : List Nat), vs = [.ref sh, .ref t, fv] ∧ SqT K H sh [.int wd, .int rg] ∧ LinesT K H t ls ∧ FarV K H fv far ∧ ls.length ≤ 256 ∧ labsOk ls = true ∧ ls.all okLine = true ∧ regOk rg ∧ (∀ j ∈ far, ∃ u a b x, ls[j]? = some (.br u a b x)) ∧
  ∀ p H', Same H H' → H p = none → H' p = some (.lst ((prog rg ls far).map V.int)) → Q (.ref p) H'
theorem cal_program (T : Txt K mg CS CI CL) : Cal P w K mg base CX0 3 "_law_program" ["_law_shape", "_law_lines", "_law_far"] (spProgram K) := by
  refine T.d_Lprogram.cal0 sc_Lprogram (fun vs H Q E h => ?_) (fun _ _ _ _ _ _ us hl => match us, hl with | [_, _, _], _ => rfl) (fun f cdv A outer s H vs Q E hr h => ?_)
  · obtain ⟨_, _, _, _, _, _, _, rfl, _⟩ := h
    rfl
  · obtain ⟨sh, t, fv, wd, rg, ls, far, rfl, hsh, hL, hf, hlen, hlo, hok, hrg, hfar, q⟩ := h
    have hr1 : Room 1 _ := hr.mono (by decide)
    refine ⟨_, pss_cons (ps_par (i := 3) (j := 4) rfl sc_Lprogram.nd rfl rfl (by decide) rfl rfl (pa_cons (pe_cal (cal_Lplaces T) hr (by rfl) pass0 (pa_cons (pv 1) (pa_cons (pv 2) pa_nil))) (pa_cons (pe_lst pa_nil) pa_nil)) rfl)
      (pss_cons (ps_set (i := 5) sc_Lprogram.nd rfl (.inl rfl) (pe_cal (cal_Llabel_table T) hr (by rfl) pass0 (pa_cons (pv 1) (pa_cons (pv 3) pa_nil))))
      (pss_cons (ps_set (i := 6) sc_Lprogram.nd rfl (.inl rfl) (pe_op op_sub (pe_ix ix_tup (pv 0) pe_int (fun _ _ => rfl)) pe_int))
      (pss_cons (ps_for PassesOwn.never rfl (pi_enumT (by rfl) T.b.enumerate (pa_cons (pv 1) pa_nil)) (pg_tup rfl (pgs_cons (pg_name (i := 7) sc_Lprogram.nd rfl (.inl rfl)) (pgs_cons (pg_name (i := 8) sc_Lprogram.nd rfl (.inl rfl)) pgs_nil)))
        (pss_one (ps_if (pt_not (pt_val (pe_callB (r := rIsi K) call_isi (by rfl) T.b.isinstance boot_isinstance (pa_cons (pv 8) (pa_cons (pe_bltn (v := .ty "tuple") (by rfl) T.b.tuple boot_tuple rfl) pa_nil)))))
          (pss_one (ps_expr (pe_bm PySem.F.plainAttrs_list PySem.F.slot_list_append PySem.F.type_list_append mt_append (pv 4) (pa_cons (pv 8) pa_nil))))
          (pss_one (ps_if (pt_cmpR op_eq (pe_ix ix_tup (pv 8) pe_int (fun _ _ => rfl)) pe_str (nomark _))
            (pss_one (ps_expr (pe_bm PySem.F.plainAttrs_list PySem.F.slot_list_append PySem.F.type_list_append mt_append (pv 4) (pa_cons (pe_op op_add (pe_op op_add (pe_op op_mul pe_int pe_int) (pe_op op_mul pe_int (pe_ix ix_tup (pv 8) pe_int (fun _ _ => rfl)))) (pe_dget (hu_of hr) (pv 5) (pe_ix ix_tup (pv 8) pe_int (fun _ _ => rfl)) (fun _ _ => rfl))) pa_nil))))
            (pss_one (ps_if (pt_cmpR op_ne (pe_ix ix_tup (pv 8) pe_int (fun _ _ => rfl)) pe_str (nomark _))
              (C8.pss_cut (ps_set (i := 9) sc_Lprogram.nd rfl (.inl rfl) (pe_ifExp (pt_cmpR op_eq (pe_ix ix_tup (pv 8) pe_int (fun _ _ => rfl)) pe_str (nomark _)) pe_int pe_int))
              (pss_one (ps_if (pt_cmpR (r := rIn K false) op_in_seq (pv 7) (pv 2) rfl)
                (pss_cons (ps_set (i := 4) sc_Lprogram.nd rfl (.inl rfl) (pe_op op_cat (pv 4) (pe_lst (pa_cons (pe_cal (cal_step_word T) hr1 (by rfl) pass0 (pa_cons (pv 9) (pa_cons (pe_ix ix_tup (pv 8) pe_int (fun _ _ => rfl)) (pa_cons (pe_ix ix_tup (pv 8) pe_int (fun _ _ => rfl)) (pa_cons pe_int pa_nil))))) (pa_cons (pe_cal (cal_step_word T) hr1 (by rfl) pass0 (pa_cons pe_int (pa_cons pe_int (pa_cons pe_int (pa_cons pe_int pa_nil))))) pa_nil)))))
                (pss_one (ps_set (i := 4) sc_Lprogram.nd rfl (.inl rfl) (pe_op op_cat (pv 4) (pe_lst (pa_cons (pe_op op_add (pe_op op_add (pe_op op_mul pe_int pe_int) (pe_op op_mul pe_int (pv 6))) (pe_dget (hu_of hr) (pv 5) (pe_ix ix_tup (pv 8) pe_int (fun _ _ => rfl)) (fun _ _ => rfl))) (pa_cons (pe_cal (cal_step_word T) hr1 (by rfl) pass0 (pa_cons pe_int (pa_cons pe_int (pa_cons (pv 6) (pa_cons pe_int pa_nil))))) pa_nil)))))))
                (pss_one (ps_expr (pe_bm PySem.F.plainAttrs_list PySem.F.slot_list_append PySem.F.type_list_append mt_append (pv 4) (pa_cons (pe_cal (cal_step_word T) hr1 (by rfl) pass0 (pa_cons (pv 9) (pa_cons (pe_ix ix_tup (pv 8) pe_int (fun _ _ => rfl)) (pa_cons (pe_ix ix_tup (pv 8) pe_int (fun _ _ => rfl)) (pa_cons (pe_op op_sub (pe_dget (hu_of hr) (pv 5) (pe_ix ix_tup (pv 8) pe_int (fun _ _ => rfl)) (fun _ _ => rfl)) (pe_ix ix_list (pv 3) (pv 7) (fun _ _ => rfl))) pa_nil))))) pa_nil)))))))
              pss_nil)))))))
      (pss_one (ps_ret (pv 4)))))), ?_⟩
    refine ⟨_, rfl, fv, rfl, t, fv, ls, far, rfl, hL, hf, hlen, fun pl H1 s1 npl hpl => ⟨Nat.zero_le _, fun Z0 nZ0 => ⟨_, _, rfl, ?_⟩⟩⟩
    have sZ := same_upd (o := .lst []) nZ0
    have s1z := s1.trans sZ
    refine ⟨_, rfl, _, rfl, t, pl, ls, far, rfl, hL.same s1z, sqL_at (sZ _ _ hpl), hlen, hlo, fun tb H2 s2 ntb htb => ?_⟩
    have s02 := s1z.trans s2
    refine ⟨_, rfl, sh, _, 1, .int rg, rfl, rfl, s02.sqT hsh, atI_nat (j := 1) rfl, rg, 1, rfl, rfl, ?_⟩
    have hr8 : 1 ≤ rg - 1 ∧ rg - 1 ≤ 7 := by rcases hrg with rfl | rfl | rfl <;> decide
    obtain ⟨xs, hxs, hls⟩ := hL
    refine ⟨_, rfl, t, xs, rfl, s02.sqT hxs, for_it (walk_enumT (xs := xs)) (fun i σ H' => ∃ y7 y8 y9, ∃ Z : Addr, σ = [some (.ref sh), some (.ref t), some fv, some (.ref pl), some (.ref Z), some (.ref tb), some (.int (rg - 1)), y7, y8, y9] ∧ Acc H Z ((progTo rg ls far i).map V.int) H' ∧ H' pl = some (.lst (placesV ls far)) ∧ H' tb = some (.dK (tabV ls far)) ∧ Z ≠ pl ∧ Z ≠ tb)
      ⟨none, none, none, Z0, rfl, ⟨s1.free nZ0, s02, s2 _ _ upd_same⟩, s2 _ _ (sZ _ _ hpl), htb, (ne_of_none hpl nZ0).symm, fun z => by rw [← z, upd_same] at ntb; cases ntb⟩ (fun i σ H' _ h => ?_) (fun i x σ H3 H4 hi h y => ?_) (fun σ H3 h => ?_)⟩
    · obtain ⟨_, _, _, _, _, a, _⟩ := h
      exact a.s.sqT hxs
    · obtain ⟨y7, y8, y9, Z, rfl, a0, hpl3, htb3, Zpl, Ztb⟩ := h
      obtain ⟨U, i', x', rfl, nU, rfl, e1, hx⟩ := y
      injection e1 with e1
      subst e1
      have sU := same_upd (o := .tup [.int (i : Nat), x']) nU
      have a := a0.same sU
      have hpl4 := sU _ _ hpl3
      have htb4 := sU _ _ htb3
      obtain ⟨l, el, hl⟩ := hls.at_ hx
      have hv : LineV K _ x' l := hl.keep (keepT_same a.s)
      have hi2 := (List.getElem?_eq_some_iff.mp el).1
      have hokl : okLine l = true := List.all_eq_true.mp hok l (List.mem_of_getElem? el)
      have hpl' : (progTo rg ls far i).length ≤ 1024 := by
        rw [progTo_len hfar i (Nat.le_of_lt hi2)]
        have := pos_le4 ls far i
        omega
      have hps : ((progTo rg ls far i).map V.int).length < sizeLine := by
        rw [List.length_map]
        exact small2000 (by omega)
      have eprog : ∀ ws, wordsAt rg ls far i = ws → progTo rg ls far (i + 1) = progTo rg ls far i ++ ws := fun ws e => by
        show progTo rg ls far i ++ wordsAt rg ls far i = _
        rw [e]
      refine ⟨U, _, rfl, sqT_at upd_same, rfl, _, _, rfl, _, _, rfl, rfl, ?_⟩
      generalize (upd H3 U (.tup [.int (i : Nat), x'])) = H5 at a hpl4 htb4 hv ⊢
      obtain ⟨ty, ht, hk⟩ := line_ty hv
      refine ⟨x', rfl, x', .ty "tuple", _, _, _, rfl, .ty _, ht, hk, _, rfl, ?_⟩
      cases l with
      | w n =>
        obtain rfl : x' = .int n := hv
        refine iteT ⟨_, rfl, .inl ⟨rfl, _, sqL_at a.d⟩, _, rfl, Z, _, _, rfl, rfl, a.d, hps, _, _, _, Z, rfl, ?_, by rw [upd_ne Zpl.symm]; exact hpl4, by rw [upd_ne Ztb.symm]; exact htb4, Zpl, Ztb⟩
        rw [eprog [n] (by unfold wordsAt; rw [el]), List.map_append]
        exact a.to
      | lab nm =>
        obtain ⟨p, rfl, hp⟩ := hv
        refine iteF ⟨_, rfl, p, _, 0, .str "label", rfl, rfl, hp, atI_nat (j := 0) rfl, rfl, _, rfl, ?_⟩
        rw [show decide (V.str "label" = V.str "place") = false from strNe (by decide)]
        refine iteF ⟨_, rfl, p, _, 0, .str "label", rfl, rfl, hp, atI_nat (j := 0) rfl, rfl, _, rfl, ?_⟩
        refine iteNS rfl ⟨_, _, _, Z, rfl, ?_, hpl4, htb4, Zpl, Ztb⟩
        rw [eprog [] (by unfold wordsAt; rw [el]), List.append_nil]
        exact a
      | pl ra nm =>
        obtain ⟨p, rfl, hp⟩ := hv
        have hnm : nm ∈ ls.filterMap Line.labN := labs_has hlo el rfl
        have hget : DGet H5 tb (.str nm) (some (natV (pos ls far (labIx ls nm)))) := by
          have z := DGet.k (k := Sum.inr nm) htb4
          rw [tabV_get far hlo hnm] at z
          exact z
        refine iteF ⟨_, rfl, p, _, 0, .str "place", rfl, rfl, hp, atI_nat (j := 0) rfl, rfl, _, rfl, ?_⟩
        rw [show decide (V.str "place" = V.str "place") = true from decide_eq_true rfl]
        refine iteT ⟨_, rfl, .inl ⟨rfl, _, sqL_at a.d⟩, 4096, 9, rfl, rfl, .inl ⟨by decide, by decide⟩, .ref p, rfl, p, _, 1, .int ra, rfl, rfl, hp, atI_nat (j := 1) rfl, 512, ra, rfl, rfl, .inl ⟨by decide, by decide⟩, _, _, rfl, rfl, ?_⟩
        refine ⟨_, rfl, .ref p, rfl, p, _, 2, .str nm, rfl, rfl, hp, atI_nat (j := 2) rfl, tb, _, rfl, hget, _, (pos ls far (labIx ls nm) : Nat), rfl, rfl, Z, _, _, rfl, rfl, a.d, hps, _, _, _, Z, rfl, ?_, by rw [upd_ne Zpl.symm]; exact hpl4, by rw [upd_ne Ztb.symm]; exact htb4, Zpl, Ztb⟩
        rw [eprog [36864 + 512 * ra + (pos ls far (labIx ls nm) : Int)] (by unfold wordsAt; rw [el]), List.map_append]
        exact a.to
      | br u ra rb nm =>
        obtain ⟨p, rfl, hp⟩ := hv
        have hnm : nm ∈ ls.filterMap Line.labN := labs_has hlo el rfl
        obtain ⟨ha, hok'⟩ := Bool.and_eq_true_iff.mp (show (okReg ra && (okReg rb && okName nm)) = true from hokl)
        obtain ⟨hb, _⟩ := Bool.and_eq_true_iff.mp hok'
        obtain ⟨a0', a7⟩ := okReg_le ha
        obtain ⟨b0, b7⟩ := okReg_le hb
        have hget : DGet H5 tb (.str nm) (some (natV (pos ls far (labIx ls nm)))) := by
          have z := DGet.k (k := Sum.inr nm) htb4
          rw [tabV_get far hlo hnm] at z
          exact z
        have at0 : atI (Line.br u ra rb nm).items 0 = some (.str (if u then "under" else "same")) := atI_nat (j := 0) rfl
        have at1 : atI (Line.br u ra rb nm).items 1 = some (.int ra) := atI_nat (j := 1) rfl
        have at2 : atI (Line.br u ra rb nm).items 2 = some (.int rb) := atI_nat (j := 2) rfl
        have at3 : atI (Line.br u ra rb nm).items 3 = some (.str nm) := atI_nat (j := 3) rfl
        refine iteF ⟨_, rfl, p, _, 0, _, rfl, rfl, hp, at0, rfl, _, rfl, ?_⟩
        rw [show decide (V.str (if u then "under" else "same") = V.str "place") = false by cases u; exact strNe (a := "same") (by decide); exact strNe (a := "under") (by decide)]
        refine iteF ⟨_, rfl, p, _, 0, _, rfl, rfl, hp, at0, rfl, _, rfl, ?_⟩
        rw [show decide (V.str (if u then "under" else "same") = V.str "label") = false by cases u; exact strNe (a := "same") (by decide); exact strNe (a := "under") (by decide)]
        -- op
        refine iteT ⟨fun σ' H' => (∃ op : Int, op = (if u then 13 else 12) ∧ σ' = [some (.ref sh), some (.ref t), some fv, some (.ref pl), some (.ref Z), some (.ref tb), some (.int (rg - 1)), some (.int (i : Nat)), some (.ref p), some (.int op)]) ∧ H' = H5, ?_, fun σ' H' hM => ?_⟩
        · refine ⟨_, rfl, p, _, 0, _, rfl, rfl, hp, at0, rfl, _, rfl, ?_⟩
          cases u with
          | false =>
            rw [show decide (V.str (if false = true then "under" else "same") = V.str "same") = true from decide_eq_true rfl]
            exact iteT ⟨⟨12, rfl, rfl⟩, rfl⟩
          | true =>
            rw [show decide (V.str (if true = true then "under" else "same") = V.str "same") = false from strNe (a := "under") (by decide)]
            exact iteF ⟨⟨13, rfl, rfl⟩, rfl⟩
        obtain ⟨⟨op, eop, rfl⟩, rfl⟩ := hM
        obtain ⟨pf, rfl, hf5⟩ := hf.same a.s
        have rest : (i ∈ far → wordsAt rg ls far i = [4096 * op + 512 * ra + 64 * rb + 2, 49155, 36864 + 512 * (rg - 1) + (pos ls far (labIx ls nm) : Int), 57344 + 64 * (rg - 1)]) ∧
            (i ∉ far → wordsAt rg ls far i = [4096 * op + 512 * ra + 64 * rb + ((pos ls far (labIx ls nm) : Int) - (pos ls far i : Int)) % 64]) := by
          rw [eop]
          unfold wordsAt
          rw [el]
          exact ⟨fun h => if_pos h, fun h => if_neg h⟩
        have er : ra % 8 = ra := Int.emod_eq_of_lt a0' (by omega)
        have eb : rb % 8 = rb := Int.emod_eq_of_lt b0 (by omega)
        have eg : (rg - 1) % 8 = rg - 1 := Int.emod_eq_of_lt (by omega) (by omega)
        refine ⟨_, rfl, _, rfl, pf, _, rfl, hf5, rfl, flat_nats far, _, rfl, ?_⟩
        show if (inV (natV i) (far.map natV)) = true then _ else _
        rw [inV_nats]
        by_cases c : i ∈ far
        · rw [decide_eq_true c]
          refine iteT ⟨_, rfl, _, rfl, .ref p, rfl, p, _, 1, .int ra, rfl, rfl, hp, at1, .ref p, rfl, p, _, 2, .int rb, rfl, rfl, hp, at2, op, ra, rb, 2, rfl, 12, 0, 0, 3, rfl, by show 2 ≤ sizeLine; decide, fun m nm' => ?_⟩
          have sm := same_upd (o := .lst [.int (4096 * op + 512 * (ra % 8) + 64 * (rb % 8) + 2 % 64), .int (4096 * 12 + 512 * (0 % 8) + 64 * (0 % 8) + 3 % 64)]) nm'
          have am := a.same sm
          refine ⟨Z, m, _, _, rfl, rfl, am.d, upd_same, by rw [List.length_map]; exact Nat.le_of_lt (small2000 (show (progTo rg ls far i).length + 2 ≤ 2000 by omega)), fun Z2 nZ2 => ?_⟩
          have sZ2 := same_upd (o := .lst ((progTo rg ls far i).map V.int ++ [.int (4096 * op + 512 * (ra % 8) + 64 * (rb % 8) + 2 % 64), .int (4096 * 12 + 512 * (0 % 8) + 64 * (0 % 8) + 3 % 64)])) nZ2
          have htb7 := sZ2 _ _ (sm _ _ htb4)
          have hget7 := dgetV far hlo hnm htb7
          have s57 := sm.trans sZ2
          refine ⟨_, rfl, 4096, 9, rfl, rfl, .inl ⟨by decide, by decide⟩, _, rfl, 512, rg - 1, rfl, rfl, .inl ⟨by decide, by decide⟩, _, _, rfl, rfl, .ref tb, rfl, .ref p, rfl, p, _, 3, .str nm, rfl, rfl, s57.sqT hp, at3, tb, _, rfl, hget7, _, (pos ls far (labIx ls nm) : Nat), rfl, rfl, _, rfl, 14, 0, rg - 1, 0, rfl, by show 2 ≤ sizeLine; decide, fun m2 nm2 => ?_⟩
          have sm2 := same_upd (o := .lst [.int (4096 * 9 + 512 * (rg - 1) + (pos ls far (labIx ls nm) : Nat)), .int (4096 * 14 + 512 * (0 % 8) + 64 * ((rg - 1) % 8) + 0 % 64)]) nm2
          refine ⟨Z2, m2, _, _, rfl, rfl, sm2 _ _ upd_same, upd_same, by rw [List.length_append, List.length_map]; exact Nat.le_of_lt (small2000 (show (progTo rg ls far i).length + 2 + 2 ≤ 2000 by omega)), fun Z3 nZ3 => ?_⟩
          have sZ3 := same_upd (o := .lst (((progTo rg ls far i).map V.int ++ [.int (4096 * op + 512 * (ra % 8) + 64 * (rb % 8) + 2 % 64), .int (4096 * 12 + 512 * (0 % 8) + 64 * (0 % 8) + 3 % 64)]) ++ [.int (4096 * 9 + 512 * (rg - 1) + (pos ls far (labIx ls nm) : Nat)), .int (4096 * 14 + 512 * (0 % 8) + 64 * ((rg - 1) % 8) + 0 % 64)])) nZ3
          have sall := s57.trans (sm2.trans sZ3)
          have hplf := sall _ _ hpl4
          have htbf := sall _ _ htb4
          refine ⟨_, _, _, Z3, rfl, ⟨(a.s.trans (s57.trans sm2)).free nZ3, a.s.trans sall, ?_⟩, hplf, htbf, (ne_of_none ((s57.trans sm2) _ _ hpl4) nZ3).symm, (ne_of_none ((s57.trans sm2) _ _ htb4) nZ3).symm⟩
          rw [upd_same, eprog _ (rest.1 c), er, eb, eg, List.map_append, List.append_assoc]
          rw [show (4096 * 14 + 512 * (0 % 8) + 64 * (rg - 1) + 0 % 64 : Int) = 57344 + 64 * (rg - 1) by omega]
          rfl
        · rw [decide_eq_false c]
          refine iteF ⟨_, rfl, .inl ⟨rfl, _, sqL_at a.d⟩, _, rfl, .ref p, rfl, p, _, 1, .int ra, rfl, rfl, hp, at1, .ref p, rfl, p, _, 2, .int rb, rfl, rfl, hp, at2, .ref tb, rfl, .ref p, rfl, p, _, 3, .str nm, rfl, rfl, hp, at3, tb, _, rfl, hget, .ref pl, rfl, _, rfl, pl, _, (i : Nat), natV (pos ls far i), rfl, rfl, sqL_at hpl4, atI_nat (plTo_get ls far (by omega)), (pos ls far (labIx ls nm) : Nat), (pos ls far i : Nat), rfl, rfl, op, ra, rb, _, rfl, Z, _, _, rfl, rfl, a.d, hps, ?_⟩
          refine ⟨_, _, _, Z, rfl, ?_, by rw [upd_ne Zpl.symm]; exact hpl4, by rw [upd_ne Ztb.symm]; exact htb4, Zpl, Ztb⟩
          rw [eprog _ (rest.2 c), er, eb, List.map_append]
          exact a.to
    · obtain ⟨y7, y8, y9, Z, rfl, a, _⟩ := h
      rw [hls.1] at a
      exact ⟨_, rfl, q Z H3 a.s a.n a.d⟩
end
end K80
set_option Elab.async false
set_option linter.all false
set_option maxRecDepth 100000
set_option maxHeartbeats 4000000
/-! Lambdas handed to _law_told and _law_heard. -/
namespace K80
open PySem PySem.Spec PyProof.Rows L2
/-- a def whose code object stands at c -/
def DefAtC (K : PySem.W.Frag) (mg : Str → Option Value) (x : Str) (st : Stmt) (c : Addr) : Prop := ∃ (f : Addr) (fd : FuncData), FnP K x st f fd ∧ mg x = some (.ref f) ∧ fd.code = .ref c
section
variable {P : Program} {w : World} {K : PySem.W.Frag} {mg : Str → Option Value} {base : Heap}
theorem DefAtC.fn {x : Str} {st : Stmt} {N ps : List Str} {k : Nat} {sp : Sp} {c f : Addr} {fd : FuncData} (F : FnP K x st f fd) (hc : fd.code = .ref c) (S : FnScope N ps (defScope st)) (len : ∀ vs H Q E, sp vs H Q E → vs.length = ps.length)
    (hbody : ∀ (f : Addr) (A : Around) (outer : List Env) (s : Shared) (H : Hp) (vs : List V) (Q : VK) (E : XK), Room k (A.deeper (envOfC x (defScope st) s.heap.objs.size f (.ref c))) → sp vs H Q E →
      ∃ t, PSs (cxOf CX0 P w K mg base N x (defScope st) f (.ref c) A outer s H E).nox (defBody st) t ∧ t { nx := fun _ H' => Q .non H', rt := Q } (start N vs) H) : FnOk P w K mg base CX0 (k + 1) f fd ps sp := by
  obtain ⟨oc, od, dV, kV, doc, pm, an, cdv, ct, osl, rfl, lk, hcd, _, _⟩ := F.ex
  have e : cdv = .ref c := hc
  subst e
  refine fn_of lk hcd S len fun A outer s H vs Q E hr hsp => ?_
  obtain ⟨t, h1, h2⟩ := hbody f A outer s H vs Q E hr hsp
  exact ⟨t, h1.nox, h2⟩
theorem DefAtC.cal {x : Str} {st : Stmt} {N ps : List Str} {k : Nat} {sp : Sp} {c : Addr} (D : DefAtC K mg x st c) (S : FnScope N ps (defScope st)) (len : ∀ vs H Q E, sp vs H Q E → vs.length = ps.length) (b : BindsAs x st ps)
    (hbody : ∀ (f : Addr) (A : Around) (outer : List Env) (s : Shared) (H : Hp) (vs : List V) (Q : VK) (E : XK), Room k (A.deeper (envOfC x (defScope st) s.heap.objs.size f (.ref c))) → sp vs H Q E →
      ∃ t, PSs (cxOf CX0 P w K mg base N x (defScope st) f (.ref c) A outer s H E).nox (defBody st) t ∧ t { nx := fun _ H' => Q .non H', rt := Q } (start N vs) H) : Cal P w K mg base CX0 (k + 1) x ps sp := by
  obtain ⟨f, fd, F, g, hc⟩ := D
  exact ⟨f, fd, DefAtC.fn F hc S len hbody, g, F.kp, F.bindsN b⟩
end
theorem takes_len {X : Cx} {W : WX} (t : Takes X W) : Takes X (fun cls d σ H => σ.length = X.N.length → W cls d σ H) := fun u s' ⟨a, B, sI, pins, σ, H, cls, d, e, I, nb, up, sky, na, os, ag, w⟩ =>
  t u s' ⟨a, B, sI, pins, σ, H, cls, d, e, I, nb, up, sky, na, os, ag, w I.len⟩
/-- what _law_told makes of an exception -/
def EchT (CM CR : Addr) (Q : VK) : XK := fun cls d H' => (∃ (dd : Addr) (v : V), cls = .ref CM ∧ d = some dd ∧ H' dd = some (.xd [("limit", v)]) ∧ ∀ p, H' p = none → Q (.ref p) (upd H' p (.tup [.str "refused", .str "many", v]))) ∨
  ∃ (dd : Addr) (v : V), cls = .ref CR ∧ d = some dd ∧ H' dd = some (.xd [("reason", v)]) ∧ ∀ p, H' p = none → Q (.ref p) (upd H' p (.tup [.str "refused", v]))
def TTold (CM CR : Addr) : (XK → Hp → VK → Prop) → Hp → VK → Prop := fun tl H Q => tl (EchT CM CR Q) H (fun v H' => ∀ p, H' p = none → Q (.ref p) (upd H' p (.tup [.str "told", v])))
section
variable {X : Cx} {CI CL CM CR : Addr}
theorem told_gives2 (TX : TxtX X.prog X.K X.mg CI CL CM CR) {q : Str} {g : Addr} {cdg : Value} : LamX.GivesTo X n_Ltold "_law_told" (defScope s_Ltold) g cdg (defBody s_Ltold) "_law_call" q (TTold CM CR) := by
  intro f c' s H Q tl act hc h
  obtain ⟨fM, tm⟩ := TX.tm
  obtain ⟨fR, tr⟩ := TX.tr
  refine ⟨_, pss_one (ps_try_manyAs (X := (cxOf C8.CX0 X.prog X.w X.K X.mg X.base n_Ltold "_law_told" (defScope s_Ltold) g cdg X.A X.stack s H C8.E0).nox) (n := "error") (i := 1)
      (l := [(.ref CM, fun a cls d => tRet (tTup (tCons (tC (.str "refused")) (tCons (tC (.str "many")) (tCons (tXf a cls d CM "limit" (tVar 1)) tNil))))), (.ref CR, fun a cls d => tRet (tTup (tCons (tC (.str "refused")) (tCons (tXf a cls d CR "reason" (tVar 1)) tNil))))])
      (tb := fun W D σ H => ∃ Ech : XK, (∀ cls d σ' H', Ech cls d H' → σ'.length = 2 → W cls d σ' H') ∧ σ[0]? = some (some (.ref f)) ∧ H c' = some (LamX.CodeO c' q) ∧ tl Ech H (fun v H' => ∀ p, H' p = none → D.rt (.ref p) (upd H' p (.tup [.str "told", v]))))
      rfl rfl sc_Ltold.nd rfl rfl takes0 (fun W pn xe tk _ => ?_)
      (.cons ⟨rfl, by decide, .inl tm.gC⟩ (fun a oe cls d pn hz hf => pss_one (ps_ret (pe_tup (pa_cons pe_str (pa_cons pe_str (pa_cons (pe_xf TX.xm TX.nm hz hf (pv 1)) pa_nil))))))
        (.cons ⟨rfl, by decide, .inl tr.gC⟩ (fun a oe cls d pn hz hf => pss_one (ps_ret (pe_tup (pa_cons pe_str (pa_cons (pe_xf TX.xr TX.nr hz hf (pv 1)) pa_nil))))) .nil))), ?_⟩
  · refine ⟨fun pins s' σ H' D I h' => ?_⟩
    obtain ⟨Ech, hW, h1, h2, h3⟩ := h'
    have hp := fun p1 p2 => act (fun cls d σ H => σ.length = 2 → W cls d σ H) pn xe Ech p1 p2 (takes_len tk) hW
    exact PSs.run (pss_one (ps_ret (pe_tup (pa_cons pe_str (pa_cons (hp _ _) pa_nil))))) pins s' σ H' D I ⟨h1, h2, by
      refine Eq.mp ?_ h3
      congr 1
      funext v H''
      exact propext ⟨fun z => ⟨by show 2 ≤ sizeLine; decide, z⟩, fun z => z.2⟩⟩
  · refine ⟨EchT CM CR Q, fun cls d σ' H' hE hl => ?_, rfl, hc, h⟩
    match σ', hl with
    | [σ0, σ1], _ =>
      rcases hE with ⟨dd, v, rfl, rfl, hx, hq⟩ | ⟨dd, v, rfl, rfl, hx, hq⟩
      · exact ⟨true, TX.mm, fun _ a na => ⟨_, rfl, rfl, rfl, dd, _, v, rfl, hx, rfl, by show 3 ≤ sizeLine; decide, hq⟩, fun z => nomatch z⟩
      · exact ⟨false, TX.rm, (fun z => nomatch z), fun _ => ⟨true, TX.rr, fun _ a na => ⟨_, rfl, rfl, rfl, dd, _, v, rfl, hx, rfl, by show 2 ≤ sizeLine; decide, hq⟩, fun z => nomatch z⟩⟩
/-- what _law_heard makes of an exception -/
def EchH (CI CL : Addr) (Q : VK) : XK := fun cls _ H' => (cls = .ref CI ∧ ∀ p, H' p = none → Q (.ref p) (upd H' p (.tup [.str "refused", .str "shape"]))) ∨ (cls = .ref CL ∧ ∀ p, H' p = none → Q (.ref p) (upd H' p (.tup [.str "refused", .str "lines"])))
def THeard (CI CL : Addr) : (XK → Hp → VK → Prop) → Hp → VK → Prop := fun tl H Q => tl (EchH CI CL Q) H (fun _ H' => ∀ p, H' p = none → Q (.ref p) (upd H' p (.tup [.str "told"])))
theorem heard_gives (TX : TxtX X.prog X.K X.mg CI CL CM CR) (gI : X.mg "InvalidShape" = some (.ref CI)) (gL : X.mg "InvalidLines" = some (.ref CL)) {q : Str} {g : Addr} {cdg : Value} : LamX.GivesTo X n_Lheard "_law_heard" (defScope s_Lheard) g cdg (defBody s_Lheard) "_law_call" q (THeard CI CL) := by
  intro f c' s H Q tl act hc h
  refine ⟨_, pss_cons (ps_try_many (X := (cxOf C8.CX0 X.prog X.w X.K X.mg X.base n_Lheard "_law_heard" (defScope s_Lheard) g cdg X.A X.stack s H C8.E0).nox)
      (l := [(.ref CI, fun _ _ _ => tRet (tTup (tCons (tC (.str "refused")) (tCons (tC (.str "shape")) tNil)))), (.ref CL, fun _ _ _ => tRet (tTup (tCons (tC (.str "refused")) (tCons (tC (.str "lines")) tNil))))])
      (tb := fun W D σ H => ∃ Ech : XK, (∀ cls d σ' H', Ech cls d H' → W cls d σ' H') ∧ σ[0]? = some (some (.ref f)) ∧ H c' = some (LamX.CodeO c' q) ∧ tl Ech H (fun _ H' => D.nx σ H'))
      rfl rfl takes0 (fun W pn xe tk _ => ?_)
      (.cons ⟨rfl, by decide, .inl gI⟩ (fun a oe cls d pn hz hf => pss_one (ps_ret (pe_tup (pa_cons pe_str (pa_cons pe_str pa_nil)))))
        (.cons ⟨rfl, by decide, .inl gL⟩ (fun a oe cls d pn hz hf => pss_one (ps_ret (pe_tup (pa_cons pe_str (pa_cons pe_str pa_nil))))) .nil)))
    (pss_one (ps_ret (pe_tup (pa_cons pe_str pa_nil)))), ?_⟩
  · refine ⟨fun pins s' σ H' D I h' => ?_⟩
    obtain ⟨Ech, hW, h1, h2, h3⟩ := h'
    have hp := fun p1 p2 => act W pn xe Ech p1 p2 tk hW
    exact PSs.run (pss_one (ps_expr (hp _ _))) pins s' σ H' D I ⟨h1, h2, h3⟩
  · refine ⟨EchH CI CL Q, fun cls d σ' H' hE => ?_, rfl, hc, ?_⟩
    · rcases hE with ⟨rfl, hq⟩ | ⟨rfl, hq⟩
      · exact ⟨true, TX.ss, fun _ a na => ⟨by show 2 ≤ sizeLine; decide, hq⟩, fun z => nomatch z⟩
      · exact ⟨false, TX.ls, (fun z => nomatch z), fun _ => ⟨true, TX.ll, fun _ a na => ⟨by show 2 ≤ sizeLine; decide, hq⟩, fun z => nomatch z⟩⟩
    · refine Eq.mp ?_ h
      unfold THeard
      congr 1
      funext v H''
      exact propext ⟨fun z => ⟨by show 1 ≤ sizeLine; decide, z⟩, fun z => z.2⟩
/-! ### the two calls as rules -/
theorem pe_told (TX : TxtX X.prog X.K X.mg CI CL CM CR) (Dt : DefAt X.K X.mg "_law_told" s_Ltold) {T : List (Addr × Str)} {c P : Addr} {k : Nat} {params : Arguments} {body : Expr} {scope : Scope} {t : XK → TE} {p lpos pos : Pos} (hg : Gl X "_law_told")
    (TB : LamX.TabB X.base X.mg c P) (hcode : X.env.code = .ref c) (hmT : (P, X.env.qual ++ "<lambda>") ∈ T) (hu : ∀ p ∈ T, p.1 = P → p.2 = X.env.qual ++ "<lambda>") (hr : Room (k + 2) X.A) (L : LamX.LamS X.env.scope scope) (hdef : defaultsOf params X.env = ([], []))
    (hbind : ∀ (q : Str) (cl : List (Str × Addr)) (pm cv ctv : Value), bindArgs (PySem.W.kla_fn "<lambda>" q params body scope cl pm cv ctv) ⟨[], []⟩ = pure [])
    (hbody : ∀ (A : Around) (outer : List Env) (s : Shared) (H : Hp) (E : XK) (f c' : Addr), Room k (A.deeper (LamX.lamEnv X scope s.heap.objs.size f c')) → PE (LamX.lamCx X A outer s H E scope f c') body (t E)) :
    PE X (.Call (.Name "_law_told" p) [.Lambda params body scope lpos] [] pos) (LamX.tLam T (TTold CM CR) t) := by
  obtain ⟨g, fd, F, gm⟩ := Dt
  have hb := F.bindsN (ps := ["_law_call"]) fun _ _ _ _ _ _ us hl => match us, hl with | [_], _ => rfl
  obtain ⟨oc, od, dV, kV, doc, pm, an, cdv, ct, osl, rfl, lk, hcd, _, _⟩ := F.ex
  exact LamX.pe_lamcall hg gm F.kp lk hcd hb sc_Ltold rfl (.inl rfl) (told_gives2 TX) TB hcode hmT hu hr L hdef hbind hbody
theorem pe_heard (TX : TxtX X.prog X.K X.mg CI CL CM CR) (gI : X.mg "InvalidShape" = some (.ref CI)) (gL : X.mg "InvalidLines" = some (.ref CL)) (Dt : DefAt X.K X.mg "_law_heard" s_Lheard) {T : List (Addr × Str)} {c P : Addr} {k : Nat} {params : Arguments} {body : Expr} {scope : Scope} {t : XK → TE} {p lpos pos : Pos} (hg : Gl X "_law_heard")
    (TB : LamX.TabB X.base X.mg c P) (hcode : X.env.code = .ref c) (hmT : (P, X.env.qual ++ "<lambda>") ∈ T) (hu : ∀ p ∈ T, p.1 = P → p.2 = X.env.qual ++ "<lambda>") (hr : Room (k + 2) X.A) (L : LamX.LamS X.env.scope scope) (hdef : defaultsOf params X.env = ([], []))
    (hbind : ∀ (q : Str) (cl : List (Str × Addr)) (pm cv ctv : Value), bindArgs (PySem.W.kla_fn "<lambda>" q params body scope cl pm cv ctv) ⟨[], []⟩ = pure [])
    (hbody : ∀ (A : Around) (outer : List Env) (s : Shared) (H : Hp) (E : XK) (f c' : Addr), Room k (A.deeper (LamX.lamEnv X scope s.heap.objs.size f c')) → PE (LamX.lamCx X A outer s H E scope f c') body (t E)) :
    PE X (.Call (.Name "_law_heard" p) [.Lambda params body scope lpos] [] pos) (LamX.tLam T (THeard CI CL) t) := by
  obtain ⟨g, fd, F, gm⟩ := Dt
  have hb := F.bindsN (ps := ["_law_call"]) fun _ _ _ _ _ _ us hl => match us, hl with | [_], _ => rfl
  obtain ⟨oc, od, dV, kV, doc, pm, an, cdv, ct, osl, rfl, lk, hcd, _, _⟩ := F.ex
  exact LamX.pe_lamcall hg gm F.kp lk hcd hb sc_Lheard rfl (.inl rfl) (heard_gives TX gI gL) TB hcode hmT hu hr L hdef hbind hbody
end
/-! ### heaps in which tables grow -/
/-- but for the dice and the tables all stays -/
structure DT (D : Addr) (T : List (Addr × Str)) (H H' : Hp) : Prop where
  k : ∀ b o, H b = some o → b ≠ D → (∀ ps, o ≠ .tbl ps) → H' b = some o
  d : Dice H' D
  t : LamX.Tabs T H'
section
variable {D : Addr} {T : List (Addr × Str)} {H H' H1 H2 : Hp} {K : PySem.W.Frag}
theorem DT.trans (a : DT D T H H1) (b : DT D T H1 H2) : DT D T H H2 := ⟨fun c o h n m => b.k c o (a.k c o h n m) n m, b.d, b.t⟩
theorem DT.refl (h : Dice H D) (t : LamX.Tabs T H) : DT D T H H := ⟨fun _ _ h _ _ => h, h, t⟩
theorem tabs_but (h : Dice H D) (e : But D H H') (t : LamX.Tabs T H) : LamX.Tabs T H' := fun p hp => by
  obtain ⟨x, y, z, hD⟩ := h
  obtain ⟨ps, h1, h2, h3⟩ := t p hp
  refine ⟨ps, e _ _ h1 (ne_of h1 hD (by intro z; cases z)), h2, fun pos cv hc => ?_⟩
  obtain ⟨c, e1, e2⟩ := h3 pos cv hc
  exact ⟨c, e1, e _ _ e2 (ne_of e2 hD (by intro z; unfold LamX.CodeO at z; cases z))⟩
theorem DT.ds (h : Dice H D) (t : LamX.Tabs T H) (e : DS D H H') : DT D T H H' := ⟨fun b o hb n _ => e.b b o hb n, e.d, tabs_but h e.b t⟩
theorem DT.same (h : Dice H D) (t : LamX.Tabs T H) (e : Same H H') : DT D T H H' := .ds h t (.of h e)
theorem DT.ext (h : Dice H D) (t : LamX.Tabs T H') (e : LamX.ExtN H H') : DT D T H H' := ⟨fun b o hb n m => e b o hb m, by
  obtain ⟨x, y, z, hD⟩ := h
  exact ⟨x, y, z, e _ _ hD (by intro ps z; cases z)⟩, t⟩
theorem DT.thenDS (a : DT D T H H1) (e : DS D H1 H2) : DT D T H H2 := a.trans (.ds a.d a.t e)
theorem DT.thenSame (a : DT D T H H1) (e : Same H1 H2) : DT D T H H2 := a.trans (.same a.d a.t e)
theorem DT.thenExt (a : DT D T H H1) (t : LamX.Tabs T H2) (e : LamX.ExtN H1 H2) : DT D T H H2 := a.trans (.ext a.d t e)
theorem DT.keepT (h : Dice H D) (a : DT D T H H') : KeepT K H H' := fun p xs hs => by
  obtain ⟨x, y, z, hD⟩ := h
  rcases hs with (h | ⟨o, h⟩) | h
  · exact .inl (.inl (a.k _ _ h (ne_of h hD (by intro z; cases z)) (by intro ps z; cases z)))
  · exact .inl (.inr ⟨o, a.k _ _ h (ne_of h hD (by intro z; cases z)) (by intro ps z; cases z)⟩)
  · exact .inr h
theorem DT.free (a : DT D T H H') {p : Addr} (ht : ∀ ps, H p = some (.tbl ps) → ∃ q, (p, q) ∈ T) (n : H' p = none) : H p = none := by
  cases q : H p with
  | none => rfl
  | some o =>
    exfalso
    by_cases e : p = D
    · obtain ⟨x, y, z, h⟩ := a.d
      rw [e, h] at n
      cases n
    · by_cases m : ∃ ps, o = .tbl ps
      · obtain ⟨ps, rfl⟩ := m
        obtain ⟨nm, hm⟩ := ht ps q
        obtain ⟨ps', h1, _⟩ := a.t _ hm
        have h1 : H' p = some (.tbl ps') := h1
        rw [h1] at n
        cases n
      · rw [a.k p o q e (fun ps z => m ⟨ps, z⟩)] at n
        cases n
end
end K80
set_option Elab.async false
set_option linter.all false
set_option maxRecDepth 100000
set_option maxHeartbeats 4000000
/-! Sorted lists of texts are one; equal data. -/
namespace K80
open PySem PySem.Spec PyProof.Rows L2
theorem lt_anti : ∀ a b : List Nat, ltCps a b = false → ltCps b a = false → a = b
  | [], [], _, _ => rfl
  | [], _ :: _, h, _ => by simp [ltCps] at h
  | _ :: _, [], _, h => by simp [ltCps] at h
  | x :: a, y :: b, h1, h2 => by
    simp only [ltCps, Bool.or_eq_false_iff, decide_eq_false_iff_not, Bool.and_eq_false_iff, beq_eq_false_iff_ne] at h1 h2
    have e : x = y := by omega
    subst e
    have h1' : ltCps a b = false := h1.2.resolve_left (fun z => z rfl)
    have h2' : ltCps b a = false := h2.2.resolve_left (fun z => z rfl)
    rw [lt_anti a b h1' h2']
/-- a ≤ b ≤ c -/
theorem lt_trans : ∀ a b c : List Nat, ltCps b a = false → ltCps c b = false → ltCps c a = false
  | _, _, [], _, h => by
    rename_i a b h0
    cases b with
    | nil => exact h0
    | cons y b => simp [ltCps] at h
  | [], _, z :: c, _, _ => by simp [ltCps]
  | x :: a, [], z :: c, h, _ => by simp [ltCps] at h
  | x :: a, y :: b, z :: c, h1, h2 => by
    simp only [ltCps, Bool.or_eq_false_iff, decide_eq_false_iff_not, Bool.and_eq_false_iff, beq_eq_false_iff_ne] at h1 h2 ⊢
    refine ⟨by omega, ?_⟩
    by_cases e : z = x
    · have e1 : y = x := by omega
      have e2 : z = y := by omega
      exact .inr (lt_trans a b c (h1.2.resolve_left fun q => q e1) (h2.2.resolve_left fun q => q e2))
    · exact .inl e
def leS (a b : Str) : Prop := ltCps b.cps.toList a.cps.toList = false
theorem rising_pw : ∀ (l : List Str) (p : Str), risingS p l = true → (p :: l).Pairwise leS
  | [], p, _ => List.pairwise_singleton _ _
  | x :: r, p, h => by
    obtain ⟨h1, h2⟩ := Bool.and_eq_true_iff.mp (show (!ltCps x.cps.toList p.cps.toList && risingS x r) = true from h)
    have ih := rising_pw r x h2
    have h1 : ltCps x.cps.toList p.cps.toList = false := by simpa using h1
    refine List.pairwise_cons.mpr ⟨fun y hy => ?_, ih⟩
    rcases List.mem_cons.mp hy with rfl | hy
    · exact h1
    · exact lt_trans _ _ _ h1 ((List.pairwise_cons.mp ih).1 y hy)
theorem sorted_pw {l : List Str} (h : sortedS l = true) : l.Pairwise leS := by
  cases l with
  | nil => exact .nil
  | cons x r => exact rising_pw r x h
theorem leS_anti {a b : Str} (h1 : leS a b) (h2 : leS b a) : a = b := by
  have e := lt_anti _ _ h2 h1
  obtain ⟨⟨a⟩⟩ := a
  obtain ⟨⟨b⟩⟩ := b
  have e : a = b := e
  rw [e]
theorem pw_uniq : ∀ {a b : List Str}, a.Perm b → a.Pairwise leS → b.Pairwise leS → a = b
  | [], b, h, _, _ => h.symm.eq_nil.symm
  | x :: a, [], h, _, _ => absurd h.eq_nil (by simp)
  | x :: a, y :: b, h, ha, hb => by
    obtain ⟨a1, a2⟩ := List.pairwise_cons.mp ha
    obtain ⟨b1, b2⟩ := List.pairwise_cons.mp hb
    have e : x = y := by
      rcases List.mem_cons.mp (h.mem_iff.mp List.mem_cons_self) with q | q
      · exact q
      · rcases List.mem_cons.mp (h.mem_iff.mpr List.mem_cons_self) with z | z
        · exact z.symm
        · exact leS_anti (a1 y z) (b1 x q)
    subst e
    rw [pw_uniq (List.Perm.cons_inv h) a2 b2]
theorem sortedS_uniq {a b : List Str} (h : a.Perm b) (ha : sortedS a = true) (hb : sortedS b = true) : a = b := pw_uniq h (sorted_pw ha) (sorted_pw hb)
mutual
theorem eqv_self : ∀ d : PyData, PyData.canLay0 d = true → PyData.eqv d d = true
  | .none, _ => by simp only [PyData.eqv]
  | .bool b, _ => by simp [PyData.eqv]
  | .int i, _ => by simp [PyData.eqv]
  | .str x, _ => by simp [PyData.eqv]
  | .list xs, h => by
    simp only [PyData.eqv]
    exact eqvAll_self xs (by simpa only [PyData.canLay0] using h)
  | .tuple xs, h => by
    simp only [PyData.eqv]
    exact eqvAll_self xs (by simpa only [PyData.canLay0] using h)
  | .dict _, h => by simp [PyData.canLay0] at h
theorem eqvAll_self : ∀ ds : List PyData, PyData.canLayAll0 ds = true → PyData.eqvAll ds ds = true
  | [], _ => by simp only [PyData.eqvAll]
  | d :: ds, h => by
    simp only [PyData.canLayAll0, Bool.and_eq_true] at h
    simp only [PyData.eqvAll, Bool.and_eq_true]
    exact ⟨eqv_self d h.1, eqvAll_self ds h.2⟩
end
end K80
set_option Elab.async false
set_option linter.all false
set_option maxRecDepth 100000
set_option maxHeartbeats 4000000
/-! _law_right. -/
namespace K80
open PySem PySem.Spec PyProof.Rows L2
/-! ### values laid anew -/
def MkB (te : TE) (G : Hp → V → Prop) : Prop := ∀ σ H Q, (∀ v H', Same H H' → G H' v → Q v H') → te σ H Q
def MkA (t : TA) (G : Hp → V → Prop) (n : Nat) : Prop := ∀ σ H Q, (∀ vs H', Same H H' → vs.length = n → (∀ v ∈ vs, G H' v) → Q vs H') → t σ H Q
def Mono (G : Hp → V → Prop) : Prop := ∀ H H' v, Same H H' → G H v → G H' v
theorem mk_nil {G : Hp → V → Prop} : MkA tNil G 0 := fun σ H Q q => q [] H (Same.refl H) rfl (fun v hv => by cases hv)
theorem mk_cons {G : Hp → V → Prop} {te : TE} {t : TA} {n : Nat} (m : Mono G) (h1 : MkB te G) (h2 : MkA t G n) : MkA (tCons te t) G (n + 1) := fun σ H Q q =>
  h1 σ H _ fun v H1 s1 g1 => h2 σ H1 _ fun vs H2 s2 hl g2 => q (v :: vs) H2 (s1.trans s2) (congrArg Nat.succ hl) fun u hu => by
    rcases List.mem_cons.mp hu with rfl | hu
    · exact m _ _ _ s2 g1
    · exact g2 u hu
theorem mk_lst {G : Hp → V → Prop} {t : TA} {n : Nat} (m : Mono G) (h : MkA t G n) (hn : n ≤ 1000) {σ : L2.St} {H : Hp} {Q : VK} (q : ∀ l vs H', Same H H' → H l = none → H' l = some (.lst vs) → vs.length = n → (∀ v ∈ vs, G H' v) → Q (.ref l) H') : tLst t σ H Q :=
  h σ H _ fun vs H1 s1 hl g => ⟨by rw [hl]; exact Nat.le_of_lt (small1000 hn), fun l nl => q l vs _ (s1.trans (same_upd nl)) (s1.free nl) upd_same hl fun v hv => m _ _ _ (same_upd nl) (g v hv)⟩
theorem mk_int {G : Hp → V → Prop} (i : Int) (h : ∀ H, G H (.int i)) : MkB (tC (.int i)) G := fun σ H Q q => q _ _ (Same.refl H) (h H)
/-- a pair of numbers -/
theorem mk_pair {G : Hp → V → Prop} (i j : Int) (h : ∀ H p, H p = some (.tup [.int i, .int j]) → G H (.ref p)) : MkB (tTup (tCons (tC (.int i)) (tCons (tC (.int j)) tNil))) G := fun σ H Q q =>
  ⟨by show 2 ≤ sizeLine; decide, fun p np => q _ _ (same_upd np) (h _ p upd_same)⟩
def GoodSh (K : PySem.W.Frag) (H : Hp) (v : V) : Prop := ∃ (p : Addr) (wd : Nat) (rg : Int), v = .ref p ∧ SqT K H p [.int (wd : Nat), .int rg] ∧ 4 ≤ wd ∧ wd ≤ 16 ∧ regOk rg
theorem goodSh_mono (K : PySem.W.Frag) : Mono (GoodSh K) := fun H H' v e ⟨p, wd, rg, h1, h2, h3⟩ => ⟨p, wd, rg, h1, e.sqT h2, h3⟩
theorem mono_ix {K : PySem.W.Frag} {i : Nat} {v w : V} : ∀ σ H (Q Q' : List V → Hp → Prop), (∀ vs H1, Q vs H1 → Q' vs H1) → tCons (tOp (rIxT K) (tVar i) (tC v)) (tCons (tOp (rIxT K) (tVar i) (tC w)) tNil) σ H Q → tCons (tOp (rIxT K) (tVar i) (tC v)) (tCons (tOp (rIxT K) (tVar i) (tC w)) tNil) σ H Q' :=
  fun σ H Q Q' h ⟨x, e1, p, xs, j, y, e2, e3, e4, e5, x', f1, p', xs', j', y', f2, f3, f4, f5, q⟩ => ⟨x, e1, p, xs, j, y, e2, e3, e4, e5, x', f1, p', xs', j', y', f2, f3, f4, f5, h _ _ q⟩
theorem mono_cc {v w : V} : ∀ σ H (Q Q' : List V → Hp → Prop), (∀ vs H1, Q vs H1 → Q' vs H1) → tCons (tC v) (tCons (tC w) tNil) σ H Q → tCons (tC v) (tCons (tC w) tNil) σ H Q' := fun σ H Q Q' h q => h _ _ q
theorem ne_strs {K : PySem.W.Frag} {H : Hp} : ∀ ys : List Str, ∃ ds, DpAll K H (ys.map V.str) ds ∧ ds = ys.map PyData.str
  | [] => ⟨[], .nil, rfl⟩
  | y :: ys => by
    obtain ⟨ds, h1, h2⟩ := ne_strs (K := K) (H := H) ys
    exact ⟨.str y :: ds, .cons (.str y) h1, by rw [h2]; rfl⟩
theorem strs_lay {ys : List Str} (h : ∀ y ∈ ys, PyData.canLay0 (.str y) = true) : PyData.canLayAll0 (ys.map PyData.str) = true ∧ PyData.depthAll (ys.map PyData.str) = 0 := by
  induction ys with
  | nil => exact ⟨rfl, rfl⟩
  | cons y ys ih =>
    obtain ⟨h1, h2⟩ := ih fun z hz => h z (List.mem_cons_of_mem _ hz)
    have h0 := h y List.mem_cons_self
    exact ⟨by rw [List.map_cons]; unfold PyData.canLayAll0; rw [h1, h0]; rfl, by rw [List.map_cons]; unfold PyData.depthAll; rw [h2]; rfl⟩
theorem shaped_of {ds : List PyData} {k : Nat} (h1 : PyData.canLayAll0 ds = true) (h2 : PyData.depthAll ds ≤ k) (hk : k ≤ 60) : SeqAt.shaped (.list ds) = true ∧ SeqAt.shaped (.tuple ds) = true := by
  unfold SeqAt.shaped
  have e1 : PyData.canLay0 (.list ds) = true := by unfold PyData.canLay0; exact h1
  have e2 : PyData.depth (.list ds) ≤ 64 := by unfold PyData.depth; omega
  have e3 : PyData.canLay0 (.tuple ds) = true := by unfold PyData.canLay0; exact h1
  have e4 : PyData.depth (.tuple ds) ≤ 64 := by unfold PyData.depth; omega
  rw [e1, e3, decide_eq_true e2, decide_eq_true e4]
  exact ⟨rfl, rfl⟩
theorem labs_ok {ls : List Line} (h : ls.all okLine = true) {x : Str} (hx : x ∈ ls.filterMap Line.labN) : PyData.canLay0 (.str x) = true := by
  obtain ⟨l, hl, e⟩ := List.mem_filterMap.mp hx
  have := List.all_eq_true.mp h l hl
  cases l with
  | lab y =>
    have ey : y = x := Option.some.inj e
    rw [← ey]
    exact (Bool.and_eq_true_iff.mp this).2
  | _ => cases e
theorem pos_pos {ls : List Line} {far : List Nat} (h : ∃ l ∈ ls, l.isBr = true) : pos ls far ls.length ≠ 0 := by
  obtain ⟨l, hl, hb⟩ := h
  obtain ⟨i, hi, e⟩ := List.mem_iff_getElem.mp hl
  have el : ls[i]? = some l := by rw [List.getElem?_eq_getElem hi, e]
  have h1 := pos_succ ls far el
  have h2 := pos_le ls far (show i + 1 ≤ ls.length by omega)
  have h3 : (if i ∈ far then 4 else if l.isLab then 0 else 1) ≥ 1 := by
    split
    · decide
    · cases l with
      | br => exact Nat.le_refl _
      | _ => cases hb
  omega
theorem lay_int (i : Int) : PyData.canLay0 (.int i) = true := by simp only [PyData.canLay0]
theorem lay_refused : PyData.canLay0 (.str "refused") = true := by decide +kernel
theorem lay_many : PyData.canLay0 (.str "many") = true := by decide +kernel
theorem lay_told : PyData.canLay0 (.str "told") = true := by decide +kernel
theorem lay_empty : PyData.canLay0 (.str "empty") = true := by decide +kernel
theorem lay_lines : PyData.canLay0 (.str "lines") = true := by decide +kernel
theorem lay_shape : PyData.canLay0 (.str "shape") = true := by decide +kernel
def qR : Str := "_law_right" ++ ".<locals>." ++ "<lambda>"
section
variable {P : Program} {w : World} {K : PySem.W.Frag} {mg : Str → Option Value} {base : Heap} {CS CI CL CM CR : Addr}
def spRight (T : List (Addr × Str)) : Sp := fun vs H Q _ => ∃ D : Addr, vs = [.ref D] ∧ Dice H D ∧ LamX.Tabs T H ∧ ∀ H', DT D T H H' → Q (.bl true) H'
theorem cal_right (T : Txt K mg CS CI CL) (TX : TxtX P K mg CI CL CM CR) (Dt : DefAt K mg "_law_told" s_Ltold) {c P0 : Addr} {Ts : List (Addr × Str)} (Dr : DefAtC K mg "_law_right" s_Lright c) (TB : LamX.TabB base mg c P0) (hmT : (P0, qR) ∈ Ts) (hu : ∀ p ∈ Ts, p.1 = P0 → p.2 = qR) :
    Cal P w K mg base CX0 10 "_law_right" ["_law_dice_here"] (spRight Ts) := by
  refine Dr.cal sc_Lright (fun vs H Q E h => ?_) (fun _ _ _ _ _ _ us hl => match us, hl with | [_], _ => rfl) (fun f A outer s H vs Q E hr h => ?_)
  · obtain ⟨_, rfl, _⟩ := h
    rfl
  · obtain ⟨D, rfl, hD, hT, q⟩ := h
    have hr7 : Room 7 _ := hr.mono (by decide)
    have hr4 : Room 4 _ := hr.mono (by decide)
    have hr3 : Room 3 _ := hr.mono (by decide)
    have hr2 : Room 2 _ := hr.mono (by decide)
    have hr1 : Room 1 _ := hr.mono (by decide)
    refine ⟨_, pss_cons (ps_set (i := 9) sc_Lright.nd rfl (.inr rfl) (pe_cal (cal_one_of T) hr2 (by rfl) pass0 (pa_cons (pv 0) (pa_cons (pe_lst (pa_cons (pe_tup (pa_cons pe_int (pa_cons pe_int pa_nil))) (pa_cons (pe_tup (pa_cons pe_int (pa_cons pe_int pa_nil))) (pa_cons (pe_tup (pa_cons pe_int (pa_cons pe_int pa_nil))) (pa_cons (pe_tup (pa_cons pe_int (pa_cons pe_int pa_nil))) (pa_cons (pe_tup (pa_cons pe_int (pa_cons pe_int pa_nil))) (pa_cons (pe_tup (pa_cons pe_int (pa_cons pe_int pa_nil))) (pa_cons (pe_tup (pa_cons pe_int (pa_cons pe_int pa_nil))) pa_nil)))))))) pa_nil))))
      (pss_cons (ps_set (i := 1) sc_Lright.nd rfl (.inl rfl) (pe_cal (cal_one_of T) hr2 (by rfl) pass0 (pa_cons (pv 0) (pa_cons (pe_lst (pa_cons pe_int (pa_cons pe_int (pa_cons pe_int (pa_cons pe_int (pa_cons pe_int pa_nil)))))) pa_nil))))
      (pss_cons (ps_set (i := 8) sc_Lright.nd rfl (.inr rfl) (pe_cal (cal_with_places T) hr3 (by rfl) pass0 (pa_cons (pv 0) (pa_cons (pe_cal (cal_lines_drawn T) hr3 (by rfl) pass0 (pa_cons (pv 0) (pa_cons (pv 1) (pa_cons (pe_lc (own := [("_law_turn", 10)]) (g := gName 10) (tt := tYes) rfl sc_Lright.nd (pi_range1 (by rfl) T.b.range (pa_cons pe_int pa_nil)) (blkOk_by (own := [("_law_turn", 10)]) (N := n_Lright) (sc := defScope s_Lright) (by decide +kernel))
          (fun _ _ _ _ _ => pg_name (i := 10) sc_Lright.nd rfl (.inl rfl)) (fun _ _ _ _ _ => pts_nil) (fun _ _ _ _ _ => pe_cal (cal_step_drawn T) hr3 (by rfl) pass0 (pa_cons (pv 0) pa_nil))) (pa_cons pe_int pa_nil))))) pa_nil))))
      (pss_cons (ps_set (i := 2) sc_Lright.nd rfl (.inl rfl) (pe_cal (cal_least T) hr3 (by rfl) pass0 (pa_cons (pv 8) pa_nil)))
      (pss_cons (ps_par (i := 3) (j := 4) rfl sc_Lright.nd rfl rfl (by decide) rfl rfl (pa_cons (pe_cal (cal_program T) hr3 (by rfl) pass0 (pa_cons (pv 9) (pa_cons (pv 8) (pa_cons (pv 2) pa_nil)))) (pa_cons (pe_callB (call_min2 rfl) (by rfl) T.b.min (by decide +kernel) (pa_cons pe_int (pa_cons (pe_op op_sub (pe_cal (cal_two_to T) hr1 (by rfl) pass0 (pa_cons (pe_ix ix_tup (pv 9) pe_int (fun _ _ => rfl)) pa_nil)) pe_int) pa_nil))) pa_nil)) rfl)
      (C8.pss_cut (ps_set (i := 5) sc_Lright.nd rfl (.inl rfl) (pe_told (k := 7) TX Dt (T := Ts) (by rfl) TB rfl hmT hu hr (LamX.lamS_by (sc := defScope s_Lright) (by decide +kernel)) rfl (fun _ _ _ _ _ => rfl) (fun A outer s H E f c' hr' => pe_cal (cal_assemble T TX) hr' (by rfl) (passes_call (takes_of rfl rfl rfl rfl) (fun _ _ _ _ h => h)) (pa_cons (pe_shape T (hr'.mono (by decide)) (by rfl) (pa_cons (pe_ix (r := rIxT K) ix_tup (pv 9) pe_int (fun _ _ => rfl)) (pa_cons (pe_ix (r := rIxT K) ix_tup (pv 9) pe_int (fun _ _ => rfl)) pa_nil)) mono_ix) (pa_cons (pv 8) pa_nil)))))
      (pss_cons (ps_set (i := 6) sc_Lright.nd rfl (.inl rfl) (pe_cal (cal_Llabel_table T) hr2 (by rfl) pass0 (pa_cons (pv 8) (pa_cons (pe_cal (cal_Lplaces T) hr2 (by rfl) pass0 (pa_cons (pv 8) (pa_cons (pv 2) pa_nil))) pa_nil))))
      (pss_cons (ps_set (i := 7) sc_Lright.nd rfl (.inl rfl) (pe_cal (cal_label_places T) hr7 (by rfl) passL (pa_cons (pe_shape T hr4 (by rfl) (pa_cons (pe_ix (r := rIxT K) ix_tup (pv 9) pe_int (fun _ _ => rfl)) (pa_cons (pe_ix (r := rIxT K) ix_tup (pv 9) pe_int (fun _ _ => rfl)) pa_nil)) mono_ix) (pa_cons (pv 8) pa_nil))))
      (pss_cons (ps_if (PW.pt (pw_or (pt_cmpR (op_ne_dictA hr.units0) (pv 7) (pv 6) (nomark _)) (pw_or1 (pt_cmpR (op_neD hr.units) (pe_callTy (call_list_dK rfl) (by rfl) T.b.list (by decide +kernel) (pa_cons (pv 7) pa_nil)) (pe_callB (call_sortedD rfl) (by rfl) T.b.sorted (by decide +kernel) (pa_cons (pv 6) pa_nil)) (nomark _))))) (pss_one (ps_ret pe_bl)) pss_nil)
      (pss_cons (ps_if (pt_cmpR (op_neD hr.units) (pe_callTy call_list_of (by rfl) T.b.list (by decide +kernel) (pa_cons (pe_cal (cal_far_lot T) hr7 (by rfl) passL (pa_cons (pe_shape T hr4 (by rfl) (pa_cons (pe_ix (r := rIxT K) ix_tup (pv 9) pe_int (fun _ _ => rfl)) (pa_cons (pe_ix (r := rIxT K) ix_tup (pv 9) pe_int (fun _ _ => rfl)) pa_nil)) mono_ix) (pa_cons (pv 8) pa_nil))) pa_nil)) (pe_callB cr_sortedI (by rfl) T.b.sorted (by decide +kernel) (pa_cons (pv 2) pa_nil)) (nomark _)) (pss_one (ps_ret pe_bl)) pss_nil)
      (pss_one (ps_ret (pe_cmpR (op_eqD hr.units) (pv 5) (pe_ifExp (pt_cmpR op_gt (pe_callB call_len_seq (by rfl) T.b.len PySem.boot_len (pa_cons (pv 3) pa_nil)) (pv 4) (nomark _)) (pe_tup (pa_cons pe_str (pa_cons pe_str (pa_cons (pv 4) pa_nil)))) (pe_tup (pa_cons pe_str (pa_cons (pe_callTy call_tuple_of (by rfl) T.b.tuple boot_tuple (pa_cons (pv 3) pa_nil)) pa_nil)))) (nomark _))))))))))))), ?_⟩
    -- shape
    refine ⟨_, rfl, mk_lst (n := 7) (goodSh_mono K) (mk_cons (goodSh_mono K) (mk_pair 5 2 fun H p h => ⟨p, 5, 2, rfl, sqT_at h, by decide, by decide, .inl rfl⟩) (mk_cons (goodSh_mono K) (mk_pair 6 4 fun H p h => ⟨p, 6, 4, rfl, sqT_at h, by decide, by decide, .inr (.inl rfl)⟩) (mk_cons (goodSh_mono K) (mk_pair 7 8 fun H p h => ⟨p, 7, 8, rfl, sqT_at h, by decide, by decide, .inr (.inr rfl)⟩)
      (mk_cons (goodSh_mono K) (mk_pair 8 4 fun H p h => ⟨p, 8, 4, rfl, sqT_at h, by decide, by decide, .inr (.inl rfl)⟩) (mk_cons (goodSh_mono K) (mk_pair 8 2 fun H p h => ⟨p, 8, 2, rfl, sqT_at h, by decide, by decide, .inl rfl⟩) (mk_cons (goodSh_mono K) (mk_pair 12 8 fun H p h => ⟨p, 12, 8, rfl, sqT_at h, by decide, by decide, .inr (.inr rfl)⟩) (mk_cons (goodSh_mono K) (mk_pair 16 2 fun H p h => ⟨p, 16, 2, rfl, sqT_at h, by decide, by decide, .inl rfl⟩) mk_nil))))))) (by decide) (fun l1 vs1 H1 s1 nl1 hl1 hlen1 hg1 => ?_)⟩
    have d1 : DS D H H1 := .of hD s1
    refine ⟨D, l1, vs1, rfl, hl1, DS.ne hD nl1, by rw [hlen1]; decide, by rw [hlen1]; decide, d1.d, fun x H2 hx d2 => ?_⟩
    obtain ⟨shp, wd, rg, rfl, hsh1, w4, w16, hrg⟩ := hg1 x hx
    have hsh2 : SqT K H2 shp [.int (wd : Nat), .int rg] := DS.keepT d1.d d2 _ _ hsh1
    have d12 := d1.trans d2
    -- room
    refine ⟨_, rfl, mk_lst (n := 5) (G := fun _ v => ∃ i : Int, v = .int i ∧ 44 ≤ i ∧ i ≤ 255) (fun _ _ _ _ h => h) (mk_cons (fun _ _ _ _ h => h) (mk_int 44 fun _ => ⟨_, rfl, by decide, by decide⟩) (mk_cons (fun _ _ _ _ h => h) (mk_int 100 fun _ => ⟨_, rfl, by decide, by decide⟩) (mk_cons (fun _ _ _ _ h => h) (mk_int 120 fun _ => ⟨_, rfl, by decide, by decide⟩) (mk_cons (fun _ _ _ _ h => h) (mk_int 200 fun _ => ⟨_, rfl, by decide, by decide⟩) (mk_cons (fun _ _ _ _ h => h) (mk_int 255 fun _ => ⟨_, rfl, by decide, by decide⟩) mk_nil))))) (by decide) (fun l2 vs2 H3 s3 nl2 hl2 hlen2 hg2 => ?_)⟩
    have d13 := d12.same s3
    refine ⟨D, l2, vs2, rfl, hl2, DS.ne d12.d nl2, by rw [hlen2]; decide, by rw [hlen2]; decide, d13.d, fun x H4 hx d4 => ?_⟩
    obtain ⟨room, rfl, rm0, rm1⟩ := hg2 x hx
    have d14 := d13.trans d4
    have hsh4 := DS.keepT d13.d d4 _ _ (s3.sqT hsh2)
    -- lines
    refine ⟨_, rfl, _, rfl, _, rfl, 4, rfl, by decide, by decide, fun F nF => lc_range (lo := 0) (n := 4) (fun i H' => ∃ ws : List Int, ws.length = i ∧ (∀ n ∈ ws, wordOk n) ∧ AccB D H4 F (ws.map V.int) H') ⟨[], rfl, fun n hn => (by cases hn), AccB.start d14.d nF⟩ (fun i H' hi h => ?_) (fun H5 h => ?_)⟩
    · obtain ⟨ws, hwl, hww, aF⟩ := h
      refine ⟨rfl, _, rfl, D, rfl, aF.s.d, fun n H6 hn d6 => ?_⟩
      have aF6 := aF.go d6
      refine ⟨_, aF6.d, by rw [List.length_map, hwl]; exact small1000 (by omega), ws ++ [n], by rw [List.length_append, hwl]; rfl, fun n' hn' => ?_, ?_⟩
      · rcases List.mem_append.mp hn' with hn' | hn'
        · exact hww n' hn'
        · rw [List.mem_singleton] at hn'
          rw [hn']
          exact hn
      · rw [List.map_append]
        exact aF6.to
    obtain ⟨ws, hwl, hww, aF⟩ := h
    have d15 := d14.trans aF.s
    have hsh5 := DS.keepT d14.d aF.s _ _ hsh4
    refine ⟨D, F, room, ws, rfl, rm0, rm1, aF.d, aF.ne, by rw [hwl]; decide, by rw [hwl]; decide, hww, aF.s.d, fun t0 ls0 H6 hdr0 hlen0 d6 nt0 hL0 => ?_⟩
    have d16 := d15.trans d6
    refine ⟨D, t0, ls0, rfl, hL0, hdr0, hlen0, d6.d, fun t ls H7 hdr hlen d7 nt hL => ?_⟩
    have d17 := d16.trans d7
    have hsh7 := DS.keepT d6.d d7 _ _ (DS.keepT d15.d d6 _ _ hsh5)
    have hlen256 : ls.length ≤ 256 := by omega
    -- far
    refine ⟨_, rfl, t, ls, rfl, hL, hlen256, hdr.lo, fun fp fr H8 s8 nfp hfp hLe => ?_⟩
    have d18 := d17.same s8
    -- due, most
    refine ⟨_, rfl, _, rfl, _, rfl, shp, t, .ref fp, (wd : Nat), rg, ls, fr, rfl, s8.sqT hsh7, hL.same s8, ⟨fp, rfl, .inl (sqL_at hfp)⟩, hlen256, hdr.lo, hdr.ok, hrg, hLe.br, fun due H9 s9 ndue hdue => ?_⟩
    have hsh9 := s9.sqT (s8.sqT hsh7)
    have hL9 := (hL.same s8).same s9
    have hfp9 := s9 _ _ hfp
    have d19 := d18.same s9
    have fpD : fp ≠ D := DS.ne d17.d nfp
    have dueD : due ≠ D := DS.ne d18.d ndue
    have at0 : atI [V.int (wd : Nat), .int rg] 0 = some (.int (wd : Nat)) := atI_nat (j := 0) rfl
    have at1 : atI [V.int (wd : Nat), .int rg] 1 = some (.int rg) := atI_nat (j := 1) rfl
    refine ⟨_, rfl, shp, _, 0, .int (wd : Nat), rfl, rfl, hsh9, at0, wd, rfl, by omega, _, 1, rfl, rfl, 255, _, rfl, _, _, rfl, ?_⟩
    have T9 : LamX.Tabs Ts H9 := tabs_but hD d19.b hT
    have t9 : DT D Ts H H9 := .ds hD hT d19
    have hmost : 15 ≤ mostOf (wd : Nat) ∧ mostOf (wd : Nat) ≤ 255 := by
      unfold mostOf
      have : (2 : Int) ^ 4 ≤ 2 ^ ((wd : Nat) : Int).toNat := by
        have h1 : (2 : Nat) ^ 4 ≤ 2 ^ wd := Nat.pow_le_pow_right (by decide) w4
        have h2 : ((wd : Nat) : Int).toNat = wd := by omega
        rw [h2]
        exact_mod_cast h1
      split <;> omega
    have htot : (prog rg ls fr).length = pos ls fr ls.length := prog_len hLe.br
    have hne : pos ls fr ls.length ≠ 0 := pos_pos hdr.br
    have key : ∀ g, Least ls g → pos ls g ls.length = pos ls fr ls.length ∧ prog rg ls g = prog rg ls fr := fun g hg => ⟨pos_congr (hg.same hLe) _, progTo_congr (hg.same hLe) _⟩
    refine ⟨fun σ' H' => ∃ p, σ' = [some (.ref D), some (.int room), some (.ref fp), some (.ref due), some (.int (mostOf (wd : Nat))), some (.ref p), none, none, some (.ref t), some (.ref shp), none] ∧ DT D Ts H9 H' ∧
      ((mostOf (wd : Nat) < (pos ls fr ls.length : Nat) ∧ SqT K H' p [.str "refused", .str "many", .int (mostOf (wd : Nat))]) ∨ (((pos ls fr ls.length : Nat) : Int) ≤ mostOf (wd : Nat) ∧ ∃ u, SqT K H' p [.str "told", .ref u] ∧ SqT K H' u ((prog rg ls fr).map V.int))), ?_, fun σ' H10 hM => ?_⟩
    · refine ⟨T9, fun H10 eN T10 => ?_⟩
      have t10 : DT D Ts H9 H10 := .ext d19.d T10 eN
      have hsh10 := DT.keepT (K := K) d19.d t10 _ _ hsh9
      have hL10 := hL9.keep (DT.keepT (K := K) d19.d t10)
      refine ⟨_, rfl, shp, _, 0, .int (wd : Nat), rfl, rfl, hsh10, at0, _, rfl, shp, _, 1, .int rg, rfl, rfl, hsh10, at1, (wd : Nat), rg, rfl, by omega, by omega, hrg, fun x H11 nx s11 hx => ?_⟩
      have t11 := t10.thenSame s11
      refine ⟨_, rfl, .ref x, .ref t, rfl, .inr (.inr ⟨x, (wd : Nat), rg, ls, rfl, hx, ⟨t, rfl, hL10.same s11, by have := hdr.br; obtain ⟨l, hl, _⟩ := this; exact List.length_pos_of_mem hl, hlen256, hdr.ok, hdr.lo⟩, by omega, by omega, hrg, fun g hg hw => ⟨fun c dd H12 s12 nd hd => ?_, fun c c0 => ?_, fun c c0 p H12 s12 np hp => ?_⟩⟩)⟩
      · rw [(key g hg).1] at c
        refine .inl ⟨dd, _, rfl, rfl, hd, fun p np => ⟨p, rfl, (t11.thenSame s12).thenSame (same_upd np), .inl ⟨c, sqT_at upd_same⟩⟩⟩
      · rw [(key g hg).1] at c0
        exact absurd c0 hne
      · rw [(key g hg).1] at c
        rw [(key g hg).2] at hp
        intro p2 np2
        exact ⟨p2, rfl, (t11.thenSame s12).thenSame (same_upd np2), .inr ⟨c, p, sqT_at upd_same, (same_upd np2).sqT (sqT_at hp)⟩⟩
    obtain ⟨p, rfl, t10, htold⟩ := hM
    have kt10 := DT.keepT (K := K) d19.d t10
    have hsh10 := kt10 _ _ hsh9
    have hL10 := hL9.keep kt10
    have hfp10 : H10 fp = some (.lst (fr.map natV)) := t10.k _ _ hfp9 fpD (by intro ps z; cases z)
    have hdue10 : H10 due = some (.lst ((prog rg ls fr).map V.int)) := t10.k _ _ hdue dueD (by intro ps z; cases z)
    -- table
    refine ⟨_, rfl, _, rfl, _, rfl, t, .ref fp, ls, fr, rfl, hL10, ⟨fp, rfl, .inl (sqL_at hfp10)⟩, hlen256, fun pl H11 s11 npl hpl => ?_⟩
    refine ⟨t, pl, ls, fr, rfl, hL10.same s11, sqL_at hpl, hlen256, hdr.lo, fun tb H12 s12 ntb htb => ?_⟩
    have s1012 := s11.trans s12
    have hsh12 := s1012.sqT hsh10
    have hL12 := hL10.same s1012
    have goodL : ∀ {H'}, LinesT K H' t ls → GoodL K H' (.ref t) ls := fun h => ⟨t, rfl, h, by obtain ⟨l, hl, _⟩ := hdr.br; exact List.length_pos_of_mem hl, hlen256, hdr.ok, hdr.lo⟩
    -- places_here
    refine ⟨_, rfl, shp, _, 0, .int (wd : Nat), rfl, rfl, hsh12, at0, _, rfl, shp, _, 1, .int rg, rfl, rfl, hsh12, at1, (wd : Nat), rg, rfl, by omega, by omega, hrg, fun x H13 nx s13 hx => ?_⟩
    refine ⟨_, rfl, .ref x, .ref t, rfl, .inr (.inr ⟨x, (wd : Nat), rg, ls, rfl, hx, goodL (hL12.same s13), by have := hdr.few; omega, fun lp f2 ys H14 s14 nlp hLe2 hper hsrt hlp => ?_⟩)⟩
    have s1014 := (s1012.trans s13).trans s14
    have htb14 := (s13.trans s14) _ _ htb
    have hkeys : (tabV ls fr).map (·.1) = (ls.filterMap Line.labN).map Sum.inr := by
      have := tabTo_keys ls fr (Nat.le_refl ls.length)
      rw [List.take_of_length_le (Nat.le_refl _)] at this
      exact this
    have hpl2 : ∀ x, pos ls f2 x = pos ls fr x := pos_congr (hLe2.same hLe)
    -- the first test
    refine ⟨_, rfl, _, rfl, lp, tb, _, _, rfl, rfl, hlp, htb14, ?_, fun pr hpr => ?_, _, rfl, iteF ?_⟩
    · have e := congrArg List.length hkeys
      rw [List.length_map, List.length_map] at e
      rw [e]
      unfold labTab
      rw [List.length_map]
      exact hper.length_eq
    · unfold labTab at hpr
      obtain ⟨z, hz, rfl⟩ := List.mem_map.mp hpr
      refine ⟨?_, rfl⟩
      show valV (tabV ls fr) (Sum.inr z) = some (natV (pos ls f2 (labIx ls z)))
      rw [tabV_get fr hdr.lo (hper.mem_iff.mp hz), hpl2]
    refine ⟨_, rfl, lp, _, rfl, hlp, fun a na => ?_⟩
    have sa := same_upd (o := .lst ((labTab ls f2 ys).map fun kv => kV kv.1)) na
    refine ⟨_, rfl, tb, _, _, rfl, .inl (sa _ _ htb14), hkeys, by have := hdr.few; omega, fun ys2 b hper2 hsrt2 nb => ?_⟩
    have sb := same_upd (o := .lst (ys2.map V.str)) nb
    have eys : ys = ys2 := sortedS_uniq (hper.trans hper2.symm) hsrt hsrt2
    have elist : (labTab ls f2 ys).map (fun kv => kV kv.1) = ys.map V.str := by
      unfold labTab
      rw [List.map_map]
      rfl
    have layy := strs_lay (ys := ys) fun y hy => labs_ok hdr.ok (hper.mem_iff.mp hy)
    have shy := (shaped_of layy.1 (Nat.le_of_eq layy.2) (by decide)).1
    have ha : (upd (upd H14 a (.lst ((labTab ls f2 ys).map fun kv => kV kv.1))) b (.lst (ys2.map V.str))) a = some (.lst (ys.map V.str)) := by
      have := sb _ _ (upd_same (H := H14) (a := a) (o := .lst ((labTab ls f2 ys).map fun kv => kV kv.1)))
      rw [this, elist]
    obtain ⟨ds1, e1, e2⟩ := ne_strs (K := K) (H := upd (upd H14 a (.lst ((labTab ls f2 ys).map fun kv => kV kv.1))) b (.lst (ys2.map V.str))) ys
    refine ⟨.list ds1, .list ds1, .lst (sqL_at ha) e1, .lst (sqL_at (by rw [upd_same, ← eys])) e1, by rw [e2]; exact shy, by rw [e2]; exact shy, _, rfl, ?_⟩
    have eself : (!PyData.eqv (.list ds1) (.list ds1)) = false := by
      rw [eqv_self (.list ds1) (by unfold PyData.canLay0; rw [e2]; exact layy.1)]
      rfl
    rw [eself]
    refine iteF ?_
    have s1016 := (s1014.trans sa).trans sb
    generalize (upd (upd H14 a (.lst ((labTab ls f2 ys).map fun kv => kV kv.1))) b (.lst (ys2.map V.str))) = H16 at s1016 ⊢
    have hsh16 := s1016.sqT hsh10
    -- the second test
    refine ⟨_, rfl, shp, _, 0, .int (wd : Nat), rfl, rfl, hsh16, at0, _, rfl, shp, _, 1, .int rg, rfl, rfl, hsh16, at1, (wd : Nat), rg, rfl, by omega, by omega, hrg, fun x2 H17 nx2 s17 hx2 => ?_⟩
    refine ⟨_, rfl, .ref x2, .ref t, rfl, .inr (.inr ⟨x2, (wd : Nat), rg, ls, rfl, hx2, goodL ((hL10.same s1016).same s17), fun fl g H18 s18 nfl hfl hLg hgw => ?_⟩)⟩
    refine ⟨fl, _, rfl, .inr (sqT_at hfl), fun a2 na2 => ?_⟩
    have sa2 := same_upd (o := .lst (g.map natV)) na2
    have s1019 := ((s1016.trans s17).trans s18).trans sa2
    have hfp19 := s1019 _ _ hfp10
    refine ⟨_, rfl, fp, fr.map (fun n => ((n : Nat) : Int)), rfl, by rw [← natV_int]; exact sqL_at hfp19, fun ns b2 hp2 hw2 nb2 => ?_⟩
    obtain ⟨g2, rfl, hg2p⟩ := nats_of_perm hp2
    have Lg2 := hLe.perm hg2p
    have hg2w : g2.Pairwise (· < ·) := by
      have h1 : g2.Pairwise (· ≤ ·) := (List.pairwise_map.mp hw2).imp fun h => by omega
      have h2 : g2.Pairwise (· ≠ ·) := Lg2.nd
      exact (h1.and h2).imp fun ⟨h1, h2⟩ => by omega
    have eg : g = g2 := hLg.uniq Lg2 hgw hg2w
    subst eg
    have sb2 := same_upd (o := .lst ((g.map fun n => ((n : Nat) : Int)).map V.int)) nb2
    have shg : SeqAt.shaped (.list (g.map fun n => PyData.int (n : Nat))) = true := shaped_list fun d hd => by
      obtain ⟨n, _, rfl⟩ := List.mem_map.mp hd
      exact ⟨_, rfl⟩
    refine ⟨.list (g.map fun n => PyData.int (n : Nat)), .list (g.map fun n => PyData.int (n : Nat)), .lst (sqL_at (sb2 _ _ upd_same)) (nats_dp g), .lst (sqL_at (by rw [upd_same, ← natV_int])) (nats_dp g), shg, shg, _, rfl, ?_⟩
    have eself2 : (!PyData.eqv (.list (g.map fun n => PyData.int (n : Nat))) (.list (g.map fun n => PyData.int (n : Nat)))) = false := by
      rw [eqv_self _ (SeqAt.canLay_of_shaped shg)]
      rfl
    rw [eself2]
    refine iteF ?_
    have s1020 := s1019.trans sb2
    generalize (upd (upd H18 a2 (.lst (g.map natV))) b2 (.lst ((g.map fun n => ((n : Nat) : Int)).map V.int))) = H20 at s1020 ⊢
    -- the answer
    have hdue20 := s1020 _ _ hdue10
    have t20 : DT D Ts H H20 := (t9.trans t10).thenSame s1020
    refine ⟨_, rfl, _, rfl, due, _, rfl, .inl (sqL_at hdue20), _, rfl, _, mostOf (wd : Nat), rfl, rfl, _, rfl, ?_⟩
    have edue : ((((prog rg ls fr).map V.int).length : Nat) : Int) = (pos ls fr ls.length : Nat) := by rw [List.length_map, htot]
    rw [edue]
    rcases htold with ⟨c, hp⟩ | ⟨c, u, hp, hu⟩
    · rw [decide_eq_true c]
      refine iteT ⟨_, rfl, by show 3 ≤ sizeLine; decide, fun z nz => ?_⟩
      have sz' := same_upd (o := .tup [.str "refused", .str "many", .int (mostOf (wd : Nat))]) nz
      have dd : ∀ {H'}, DpAll K H' [.str "refused", .str "many", .int (mostOf (wd : Nat))] [.str "refused", .str "many", .int (mostOf (wd : Nat))] := fun {H'} => .cons (.str _) (.cons (.str _) (.cons (.int _) .nil))
      have shd : SeqAt.shaped (.tuple [.str "refused", .str "many", .int (mostOf (wd : Nat))]) = true := (shaped_of (k := 0) (by simp only [PyData.canLayAll0, lay_refused, lay_many, lay_int]; rfl) (by simp [PyData.depthAll, PyData.depth]) (by decide)).2
      refine ⟨_, _, .tup ((s1020.trans sz').sqT hp) dd, .tup (sqT_at upd_same) dd, shd, shd, ?_⟩
      rw [eqv_self _ (SeqAt.canLay_of_shaped shd)]
      exact q _ (t20.thenSame sz')
    · rw [decide_eq_false (show ¬ mostOf (wd : Nat) < ((pos ls fr ls.length : Nat) : Int) by omega)]
      refine iteF ⟨_, rfl, due, _, rfl, .inl ⟨sqL_at hdue20, fun y ny => ⟨by show 2 ≤ sizeLine; decide, fun z nz => ?_⟩⟩⟩
      have sy := same_upd (o := .tup ((prog rg ls fr).map V.int)) ny
      have sz' := same_upd (o := .tup [.str "told", .ref y]) nz
      have lay := ints_lay (ds := (prog rg ls fr).map PyData.int) fun d hd => by
        obtain ⟨n, _, rfl⟩ := List.mem_map.mp hd
        exact ⟨_, rfl⟩
      have shd : SeqAt.shaped (.tuple [.str "told", .tuple ((prog rg ls fr).map PyData.int)]) = true := (shaped_of (k := 1) (by simp only [PyData.canLayAll0, lay_told]; unfold PyData.canLay0; rw [lay.1]; rfl) (by simp [PyData.depthAll, PyData.depth, lay.2]) (by decide)).2
      refine ⟨_, _, .tup (((s1020.trans sy).trans sz').sqT hp) (.cons (.str _) (.cons (.tup (((s1020.trans sy).trans sz').sqT hu) (ints_dp _)) .nil)), .tup (sqT_at upd_same) (.cons (.str _) (.cons (.tup (sz'.sqT (sqT_at upd_same)) (ints_dp _)) .nil)), shd, shd, ?_⟩
      rw [eqv_self _ (SeqAt.canLay_of_shaped shd)]
      exact q _ ((t20.thenSame sy).thenSame sz')
end
end K80
set_option Elab.async false
set_option linter.all false
set_option maxRecDepth 100000
set_option maxHeartbeats 4000000
/-! Bad lines; _law_errors_right. -/
namespace K80
open PySem PySem.Spec PyProof.Rows L2
/-- what is told of values by their kinds stays -/
def Kp (H H' : Hp) : Prop := ∀ b o, H b = some o → (∀ ps, o ≠ .tbl ps) → H' b = some o ∨ ∃ xs ys, o = .lst xs ∧ H' b = some (.lst ys)
theorem kp_same {H H' : Hp} (e : Same H H') : Kp H H' := fun b o h _ => .inl (e b o h)
theorem kp_dt {D : Addr} {T : List (Addr × Str)} {H H' : Hp} (h : Dice H D) (e : DT D T H H') : Kp H H' := fun b o hb m => by
  by_cases c : b = D
  · obtain ⟨x, y, z, hD⟩ := h
    obtain ⟨x', y', z', hD'⟩ := e.d
    subst c
    rw [hD] at hb
    exact .inr ⟨_, _, (Option.some.inj hb).symm, hD'⟩
  · exact .inl (e.k b o hb c m)
section
variable {K : PySem.W.Frag} {H H' : Hp}
theorem kp_one {b : Addr} {o : HO} (k : Kp H H') (h : H b = some o) (h1 : ∀ ps, o ≠ .tbl ps) (h2 : ∀ xs, o ≠ .lst xs) : H' b = some o := by
  rcases k b o h h1 with z | ⟨xs, ys, e, _⟩
  · exact z
  · exact absurd e (h2 xs)
theorem kp_sqT {a : Addr} {xs : List V} (k : Kp H H') (h : SqT K H a xs) : SqT K H' a xs := by
  rcases h with (h | ⟨o, h⟩) | h
  · exact .inl (.inl (kp_one k h (fun _ z => by cases z) (fun _ z => by cases z)))
  · exact .inl (.inr ⟨o, kp_one k h (fun _ z => by cases z) (fun _ z => by cases z)⟩)
  · exact .inr h
theorem kp_tyX {v : V} {t : Value} (k : Kp H H') (h : TyX K H v t) : TyX K H' v t := by
  cases h with
  | base b =>
    cases b with
    | non => exact .base .non
    | bl x => exact .base (.bl x)
    | int i => exact .base (.int i)
    | str x => exact .base (.str x)
    | flt x => exact .base (.flt x)
    | lst e =>
      rcases k _ _ e (fun _ z => by cases z) with z | ⟨_, _, _, z⟩
      · exact .base (.lst z)
      · exact .base (.lst z)
    | frz e => exact .base (.frz (kp_one k e (fun _ z => by cases z) (fun _ z => by cases z)))
    | tup e => exact .base (.tup (kp_one k e (fun _ z => by cases z) (fun _ z => by cases z)))
    | dK e => exact .base (.dK (kp_one k e (fun _ z => by cases z) (fun _ z => by cases z)))
    | dT e => exact .base (.dT (kp_one k e (fun _ z => by cases z) (fun _ z => by cases z)))
    | ins e cl ha hn htk hm => exact .base (.ins (kp_one k e (fun _ z => by cases z) (fun _ z => by cases z)) cl ha hn htk hm)
  | byt b => exact .byt b
  | set e => exact .set (kp_one k e (fun _ z => by cases z) (fun _ z => by cases z))
  | kList e c => exact .kList e c
  | kTuple e c => exact .kTuple e c
  | kDict e c => exact .kDict e c
  | fTuple e => exact .fTuple (kp_one k e (fun _ z => by cases z) (fun _ z => by cases z))
  | fDict e => exact .fDict (kp_one k e (fun _ z => by cases z) (fun _ z => by cases z))
theorem kp_raw {v : V} {r : Raw} (k : Kp H H') (h : RawV K H v r) : RawV K H' v r := by
  cases r with
  | num i => exact h
  | bl b => exact h
  | lst =>
    obtain ⟨p, xs, e, q⟩ := h
    rcases k _ _ q (fun _ z => by cases z) with z | ⟨_, ys, _, z⟩
    · exact ⟨p, xs, e, z⟩
    · exact ⟨p, ys, e, z⟩
  | nil => obtain ⟨p, a, b⟩ := h; exact ⟨p, a, kp_sqT k b⟩
  | tup h' mid z => obtain ⟨p, a, b, c⟩ := h; exact ⟨p, a, kp_sqT k b, c⟩
theorem kp_raws {vs : List V} {rs : List Raw} (k : Kp H H') (h : RawsV K H vs rs) : RawsV K H' vs rs := ⟨h.1, fun i v e => by
  obtain ⟨r, h1, h2⟩ := h.2 i v e
  exact ⟨r, h1, kp_raw k h2⟩⟩
theorem kp_badL {v : V} (k : Kp H H') (h : BadL K H v) : BadL K H' v := by
  rcases h with ⟨t, h1, h2⟩ | ⟨t, xs, h1, h2, h3⟩ | ⟨t, xs, rs, h1, h2, h3, h4, h5, h6⟩ | ⟨t, ls, h1, ⟨xs, h2, h3⟩, h4⟩
  · exact .inl ⟨t, kp_tyX k h1, h2⟩
  · exact .inr (.inl ⟨t, xs, h1, kp_sqT k h2, h3⟩)
  · exact .inr (.inr (.inl ⟨t, xs, rs, h1, kp_sqT k h2, h3, h4, kp_raws k h5, h6⟩))
  · exact .inr (.inr (.inr ⟨t, ls, h1, ⟨xs, kp_sqT k h2, h3.keep fun a xs h => kp_sqT k h⟩, h4⟩))
theorem kp_badS {CS : Addr} {v : V} (k : Kp H H') (h : BadS K CS H v) : BadS K CS H' v := by
  obtain ⟨t, h1, h2⟩ := h
  exact ⟨t, kp_tyX k h1, h2⟩
theorem badL_mono : Mono (BadL K) := fun _ _ _ e h => kp_badL (kp_same e) h
/-! ### bad lines laid anew -/
def MkR (K : PySem.W.Frag) (te : TE) (r : Raw) : Prop := ∀ σ H Q, (∀ v H', Same H H' → RawV K H' v r → Q v H') → te σ H Q
def MkRs (K : PySem.W.Frag) (t : TA) (rs : List Raw) : Prop := ∀ σ H Q, (∀ vs H', Same H H' → RawsV K H' vs rs → Q vs H') → t σ H Q
theorem mkrs_nil : MkRs K tNil [] := fun σ H Q q => q [] H (Same.refl H) ⟨rfl, fun i v h => by simp at h⟩
theorem mkrs_cons {te : TE} {t : TA} {r : Raw} {rs : List Raw} (h1 : MkR K te r) (h2 : MkRs K t rs) : MkRs K (tCons te t) (r :: rs) := fun σ H Q q =>
  h1 σ H _ fun v H1 s1 g1 => h2 σ H1 _ fun vs H2 s2 g2 => q (v :: vs) H2 (s1.trans s2) ⟨congrArg Nat.succ g2.1, fun i u e => by
    cases i with
    | zero =>
      have : v = u := Option.some.inj e
      rw [← this]
      exact ⟨r, rfl, g1.same s2⟩
    | succ i => exact g2.2 i u e⟩
theorem mkr_num (i : Int) : MkR K (tC (.int i)) (.num i) := fun σ H Q q => q _ _ (Same.refl H) rfl
theorem mkr_bl (b : Bool) : MkR K (tC (.bl b)) (.bl b) := fun σ H Q q => q _ _ (Same.refl H) rfl
theorem mkr_nil : MkR K (tTup tNil) .nil := fun σ H Q q => ⟨Nat.zero_le _, fun p np => q _ _ (same_upd np) ⟨p, rfl, sqT_at upd_same⟩⟩
theorem mkr_tup2 (h z : Str) (hh : PyData.canLay0 (.str h) = true) (hz : PyData.canLay0 (.str z) = true) (hl : z.length ≤ 1000) : MkR K (tTup (tCons (tC (.str h)) (tCons (tC (.str z)) tNil))) (.tup h [] z) := fun σ H Q q =>
  ⟨by show 2 ≤ sizeLine; decide, fun p np => q _ _ (same_upd np) ⟨p, rfl, sqT_at upd_same, fun m hm => (by cases hm), Nat.zero_le _, hl, hh, hz⟩⟩
theorem mkr_tup4 (h z : Str) (a b : V) (ha : (∃ i, a = .int i) ∨ ∃ c, a = .bl c) (hb : (∃ i, b = .int i) ∨ ∃ c, b = .bl c) (hh : PyData.canLay0 (.str h) = true) (hz : PyData.canLay0 (.str z) = true) (hl : z.length ≤ 1000) :
    MkR K (tTup (tCons (tC (.str h)) (tCons (tC a) (tCons (tC b) (tCons (tC (.str z)) tNil))))) (.tup h [a, b] z) := fun σ H Q q =>
  ⟨by show 4 ≤ sizeLine; decide, fun p np => q _ _ (same_upd np) ⟨p, rfl, sqT_at upd_same, fun m hm => by
    rcases List.mem_cons.mp hm with rfl | hm
    · exact ha
    · rw [List.mem_singleton] at hm
      rw [hm]; exact hb, by show 2 ≤ 5; decide, hl, hh, hz⟩⟩
theorem bad_raws {t : TA} {rs : List Raw} (h : MkRs K t rs) (l1 : 1 ≤ rs.length) (l2 : rs.length ≤ 256) (hb : rs.all rawOk = false) : MkB (tTup t) (BadL K) := fun σ H Q q =>
  h σ H _ fun vs H1 s1 g => ⟨by rw [g.1]; exact Nat.le_of_lt (small1000 (by omega)), fun p np => q _ _ (s1.trans (same_upd np)) (.inr (.inr (.inl ⟨p, vs, rs, rfl, sqT_at upd_same, by rw [g.1]; exact l1, by rw [g.1]; exact l2, kp_raws (kp_same (same_upd np)) g, hb⟩)))⟩
theorem bad_non : MkB (tC .non) (BadL K) := fun σ H Q q => q _ _ (Same.refl H) (.inl ⟨"NoneType", .base .non, by decide +kernel⟩)
theorem bad_str (z : Str) : MkB (tC (.str z)) (BadL K) := fun σ H Q q => q _ _ (Same.refl H) (.inl ⟨"str", .base (.str z), by decide +kernel⟩)
theorem bad_unit : MkB (tTup tNil) (BadL K) := fun σ H Q q => ⟨Nat.zero_le _, fun p np => q _ _ (same_upd np) (.inr (.inl ⟨p, [], rfl, sqT_at upd_same, by decide⟩))⟩
theorem bad_list : MkB (tLst (tCons (tC (.int 0)) tNil)) (BadL K) := fun σ H Q q => ⟨by show 1 ≤ sizeLine; decide, fun p np => q _ _ (same_upd np) (.inl ⟨"list", .base (.lst upd_same), by decide +kernel⟩)⟩
theorem bad_dict : MkB tDNewK (BadL K) := fun σ H Q q p np => q _ _ (same_upd np) (.inl ⟨"dict", .base (.dK upd_same), by decide +kernel⟩)
theorem bad_two : MkB (tTup (tCons (tTup (tCons (tC (.str "label")) (tCons (tC (.str "a")) tNil))) (tCons (tTup (tCons (tC (.str "label")) (tCons (tC (.str "a")) tNil))) tNil))) (BadL K) := fun σ H Q q =>
  ⟨by show 2 ≤ sizeLine; decide, fun p np => ⟨by show 2 ≤ sizeLine; decide, fun p2 np2 => ⟨by show 2 ≤ sizeLine; decide, fun p3 np3 =>
    q _ _ ((same_upd np).trans ((same_upd np2).trans (same_upd np3))) (.inr (.inr (.inr ⟨p3, [.lab "a", .lab "a"], rfl, ⟨_, sqT_at upd_same,
      (LinesV.one (l := .lab "a") ⟨p, rfl, (same_upd np3).sqT ((same_upd np2).sqT (sqT_at upd_same))⟩).append (LinesV.one (l := .lab "a") ⟨p2, rfl, (same_upd np3).sqT (sqT_at upd_same)⟩)⟩, by decide, by decide, by decide +kernel, by decide +kernel⟩)))⟩⟩⟩
theorem bad_nolab : MkB (tTup (tCons (tTup (tCons (tC (.str "same")) (tCons (tC (.int 0)) (tCons (tC (.int 0)) (tCons (tC (.str "a")) tNil))))) tNil)) (BadL K) := fun σ H Q q =>
  ⟨by show 4 ≤ sizeLine; decide, fun p np => ⟨by show 1 ≤ sizeLine; decide, fun p3 np3 =>
    q _ _ ((same_upd np).trans (same_upd np3)) (.inr (.inr (.inr ⟨p3, [.br false 0 0 "a"], rfl, ⟨_, sqT_at upd_same, LinesV.one (l := .br false 0 0 "a") ⟨p, rfl, (same_upd np3).sqT (sqT_at upd_same)⟩⟩, by decide, by decide, by decide +kernel, by decide +kernel⟩)))⟩⟩
theorem bad_long : MkB (tOp (rRepT K) (tTup (tCons (tC (.int 0)) tNil)) (tC (.int 257))) (BadL K) := fun σ H Q q =>
  ⟨by show 1 ≤ sizeLine; decide, fun p np => ⟨p, 257, _, rfl, rfl, sqT_at upd_same, by simp, by decide, by decide, by decide, fun p2 np2 => q _ _ ((same_upd np).trans (same_upd np2)) (.inr (.inl ⟨p2, _, rfl, sqT_at upd_same, by decide +kernel⟩))⟩⟩
/-- ('label', 'a') and a list -/
theorem mkr_lst4 : MkR K (tLst (tCons (tC (.str "same")) (tCons (tC (.int 0)) (tCons (tC (.int 0)) (tCons (tC (.str "a")) tNil))))) .lst := fun σ H Q q => ⟨by show 4 ≤ sizeLine; decide, fun p np => q _ _ (same_upd np) ⟨p, _, rfl, upd_same⟩⟩
end
/-! ### a local that holds one of the public defs, called -/
structure HeldX (P : Program) (w : World) (K : PySem.W.Frag) (mg : Str → Option Value) (base : Heap) (k : Nat) (f : Addr) (sp : Sp) : Prop where
  ex : ∃ (fd : FuncData) (ps : List Str), FnOk P w K mg base (L2.CX P w) k f fd ps sp ∧ PySem.W.keepIn K (.ref f) = true ∧ Binds K fd ps []
def tCallH (i : Nat) (S : Addr → Prop) (sp : Sp) (E : XK) (t : TA) : TE := fun σ H Q => ∃ f, σ[i]? = some (some (.ref f)) ∧ S f ∧ t σ H fun vs H1 => sp vs H1 Q E
theorem pe_callH {X : Cx} {k i : Nat} {S : Addr → Prop} {sp : Sp} {E : XK} {x : Str} {p pos : Pos} {e : Expr} {es : List Expr} {t : TA} (A : ∀ f, S f → HeldX X.prog X.w X.K X.mg X.base k f sp) (hr : Room k X.A) (hN : X.N[i]? = some x) (hv : Vis X.env.scope x) (hx : Passes (L2.CX X.prog X.w) X E) (ha : PA X (e :: es) t)
    (hdb : (x == ("__debug__" : Str)) = false := by decide) (hcd : (x == ("__classdict__" : Str)) = false := by decide)
    (he : starEach (e :: es) X.env = (false, eval e X.env) :: starEach es X.env := by rfl) (hpl : (backTo pos (starEach es X.env)).any (·.1) = false := by rfl) : PE X (.Call (.Name x p) (e :: es) [] pos) (tCallH i S sp E t) := by
  refine ⟨fun pins s σ H Q I h => ?_⟩
  obtain ⟨f, hs, hS, ht⟩ := h
  obtain ⟨fd, ps, F, hk, hb⟩ := (A f hS).ex
  refine (pe_callL (i := i) (f := f) (sp := sp) (dvs := []) (E := E) F hr hN hv hk hb .nil hx ha hdb hcd he hpl).run pins s σ H Q I ⟨hs, ?_⟩
  have e0 : (fun (vs : List V) (H1 : Hp) => sp (vs ++ []) H1 Q E) = fun vs H1 => sp vs H1 Q E := by
    funext vs H1
    rw [List.append_nil]
  rw [e0]
  exact ht
end K80
set_option Elab.async false
set_option linter.all false
set_option maxRecDepth 100000
set_option maxHeartbeats 4000000
/-! _law_errors_right. -/
namespace K80
open PySem PySem.Spec PyProof.Rows L2
/-! ### plain words -/
def zs (n : Nat) : List Line := List.replicate n (.w 0)
theorem zs_at {n i : Nat} {l : Line} (h : (zs n)[i]? = some l) : l = .w 0 := by
  unfold zs at h
  rw [List.getElem?_replicate] at h
  split at h
  · exact (Option.some.inj h).symm
  · cases h
theorem zs_far {n : Nat} {f : List Nat} (h : Least (zs n) f) : f = [] := by
  cases f with
  | nil => rfl
  | cons i r =>
    obtain ⟨u, a, b, x, e⟩ := h.br i List.mem_cons_self
    cases zs_at e
theorem zs_pos {n : Nat} : ∀ {i : Nat}, i ≤ n → pos (zs n) [] i = i
  | 0, _ => rfl
  | i + 1, h => by
    have e : (zs n)[i]? = some (.w 0) := by
      unfold zs
      rw [List.getElem?_replicate, if_pos (by omega)]
    rw [pos_succ (zs n) [] e, zs_pos (by omega : i ≤ n)]
    rfl
theorem zs_prog {n : Nat} {rg : Int} : ∀ {i : Nat}, i ≤ n → progTo rg (zs n) [] i = List.replicate i 0
  | 0, _ => rfl
  | i + 1, h => by
    have e : (zs n)[i]? = some (.w 0) := by
      unfold zs
      rw [List.getElem?_replicate, if_pos (by omega)]
    show progTo rg (zs n) [] i ++ wordsAt rg (zs n) [] i = _
    rw [zs_prog (by omega : i ≤ n), List.replicate_succ']
    congr 1
    unfold wordsAt
    rw [e]
theorem zs_ok (n : Nat) : (zs n).all okLine = true := by
  rw [List.all_eq_true]
  intro l hl
  rw [List.eq_of_mem_replicate hl]
  decide
theorem zs_lo (n : Nat) : labsOk (zs n) = true := by
  refine labsOk_iff.mpr ⟨?_, fun l hl n => ?_⟩
  · have : (zs n).filterMap Line.labN = [] := by
      rw [List.filterMap_eq_nil_iff]
      intro l hl
      rw [List.eq_of_mem_replicate hl]
      rfl
    rw [this]
    exact List.nodup_nil
  · rw [List.eq_of_mem_replicate hl] at n
    cases n
section
variable {K : PySem.W.Frag} {H : Hp}
theorem zs_lines (n : Nat) : LinesV K H (List.replicate n (V.int 0)) (zs n) := by
  refine ⟨by unfold zs; rw [List.length_replicate, List.length_replicate], fun i v l h1 h2 => ?_⟩
  rw [List.getElem?_replicate] at h1
  split at h1
  · rw [zs_at h2, ← Option.some.inj h1]
    rfl
  · cases h1
theorem zs_good {t : Addr} {n : Nat} (h : SqT K H t (List.replicate n (V.int 0))) (h1 : 1 ≤ n) (h2 : n ≤ 256) : GoodL K H (.ref t) (zs n) :=
  ⟨t, rfl, ⟨_, h, zs_lines n⟩, by unfold zs; rw [List.length_replicate]; exact h1, by unfold zs; rw [List.length_replicate]; exact h2, zs_ok n, zs_lo n⟩
theorem zs_len (n : Nat) : (zs n).length = n := List.length_replicate
theorem tabs_lst {T : List (Addr × Str)} {H H' : Hp} {M : Addr} {ms : List V} (h : H M = some (.lst ms)) (e : But M H H') (t : LamX.Tabs T H) : LamX.Tabs T H' := fun p hp => by
  obtain ⟨ps, h1, h2, h3⟩ := t p hp
  refine ⟨ps, e _ _ h1 (ne_of h1 h (by intro z; cases z)), h2, fun pos cv hc => ?_⟩
  obtain ⟨c, e1, e2⟩ := h3 pos cv hc
  exact ⟨c, e1, e _ _ e2 (ne_of e2 h (by intro z; unfold LamX.CodeO at z; cases z))⟩
theorem DT.store {D M : Addr} {T : List (Addr × Str)} {H0 H : Hp} {ms ms' : List V} (a : DT D T H0 H) (n : H0 M = none) (ne : M ≠ D) (h : H M = some (.lst ms)) : DT D T H0 (upd H M (.lst ms')) :=
  ⟨fun b o hb nb m => by rw [upd_ne (ne_of_none hb n)]; exact a.k b o hb nb m, by
    obtain ⟨x, y, z, q⟩ := a.d
    exact ⟨x, y, z, by rw [upd_ne (Ne.symm ne)]; exact q⟩, tabs_lst h (but_upd M H _) a.t⟩
end
theorem kp_ds {D : Addr} {H H' : Hp} (h : Dice H D) (e : DS D H H') : Kp H H' := fun b o hb m => by
  by_cases c : b = D
  · obtain ⟨x, y, z, hD⟩ := h
    obtain ⟨x', y', z', hD'⟩ := e.d
    subst c
    rw [hD] at hb
    exact .inr ⟨_, _, (Option.some.inj hb).symm, hD'⟩
  · exact .inl (e.b b o hb c)
def TwoT (K : PySem.W.Frag) (H : Hp) (v : V) (s : Str) : Prop := ∃ p, v = .ref p ∧ SqT K H p [.str "refused", .str s]
theorem TwoT.keep {K : PySem.W.Frag} {H H' : Hp} {v : V} {s : Str} (k : KeepT K H H') (h : TwoT K H v s) : TwoT K H' v s := by
  obtain ⟨p, e, q⟩ := h
  exact ⟨p, e, k _ _ q⟩
theorem TwoT.dp {K : PySem.W.Frag} {H : Hp} {v : V} {s : Str} (h : TwoT K H v s) : Dp K H v (.tuple [.str "refused", .str s]) := by
  obtain ⟨p, rfl, q⟩ := h
  exact .tup q (.cons (.str _) (.cons (.str _) .nil))
def qE : Str := "_law_errors_right" ++ ".<locals>." ++ "<lambda>"
section
variable {P : Program} {w : World} {K : PySem.W.Frag} {mg : Str → Option Value} {base : Heap} {CS CI CL CM CR : Addr}
def spErr (K : PySem.W.Frag) (CS CI CL : Addr) : Sp := fun vs H Q E => ∃ v l : V, vs = [v, l] ∧ ((BadS K CS H v ∧ E (.ref CI) none H) ∨ ((∃ (a : Addr) (wd rg : Int), v = .ref a ∧ ShapeV H a CS wd rg) ∧ BadL K H l ∧ ∀ H', Same H H' → E (.ref CL) none H'))
theorem Cal.held {k : Nat} {x : Str} {ps : List Str} {sp sp' : Sp} (C : Cal P w K mg base (L2.CX P w) k x ps sp) (h : ∀ vs H Q E, sp' vs H Q E → sp vs H Q E) : ∃ f, mg x = some (.ref f) ∧ HeldX P w K mg base k f sp' := by
  obtain ⟨f, fd, F, g, kp, b⟩ := C.ex
  exact ⟨f, g, fd, ps, F.imp h, kp, b⟩
theorem rd_set {te : TE} {g : TG} {u : TS} {D : Ends} {σ : L2.St} {H : Hp} (h : te σ H fun x H1 => g x σ H1 (u D)) : tSeq (tAsg te g) u D σ H := h
def okNone (K : PySem.W.Frag) (CS : Addr) (H : Hp) (v : V) : Prop := BadS K CS H v
theorem cal_errors_right (T : Txt K mg CS CI CL) (TX : TxtX P K mg CI CL CM CR) (Dh : DefAt K mg "_law_heard" s_Lheard) {c P0 : Addr} {Ts : List (Addr × Str)} (Dr : DefAtC K mg "_law_errors_right" s_Lerrors_right c) (TB : LamX.TabB base mg c P0) (hmT : (P0, qE) ∈ Ts) (hu : ∀ p ∈ Ts, p.1 = P0 → p.2 = qE) :
    Cal P w K mg base CX0 10 "_law_errors_right" ["_law_dice_here"] (spRight Ts) := by
  obtain ⟨fA, gA, HA⟩ := (cal_assemble (P := P) (w := w) (base := base) T TX).held (sp' := spErr K CS CI CL) fun vs H Q E ⟨v, l, e, h⟩ => ⟨v, l, e, h.imp id fun h => .inl h⟩
  obtain ⟨fF, gF, HF⟩ := (cal_far_lot (P := P) (w := w) (base := base) T).held (sp' := spErr K CS CI CL) fun vs H Q E ⟨v, l, e, h⟩ => ⟨v, l, e, h.imp id fun h => .inl h⟩
  obtain ⟨fL, gL, HL⟩ := (cal_label_places (P := P) (w := w) (base := base) T).held (sp' := spErr K CS CI CL) fun vs H Q E ⟨v, l, e, h⟩ => ⟨v, l, e, h.imp id fun h => .inl h⟩
  have held : ∀ f, (f = fA ∨ f = fF ∨ f = fL) → HeldX P w K mg base 7 f (spErr K CS CI CL) := fun f h => by
    rcases h with rfl | rfl | rfl
    · exact HA
    · exact HF
    · exact HL
  refine Dr.cal sc_Lerrors_right (fun vs H Q E h => ?_) (fun _ _ _ _ _ _ us hl => match us, hl with | [_], _ => rfl) (fun f A outer s H vs Q E hr h => ?_)
  · obtain ⟨_, rfl, _⟩ := h
    rfl
  · obtain ⟨D, rfl, hD, hT, q⟩ := h
    have hr7 : Room 7 _ := hr.mono (by decide)
    have hr4 : Room 4 _ := hr.mono (by decide)
    have hr2 : Room 2 _ := hr.mono (by decide)
    refine ⟨_, pss_cons (ps_set (i := 1) sc_Lerrors_right.nd rfl (.inl rfl) (pe_lst (pa_cons pe_non (pa_cons (pe_tup pa_nil) (pa_cons (pe_lst (pa_cons pe_int pa_nil)) (pa_cons (pe_tup (pa_cons pe_int pa_nil)) (pa_cons (pe_tup (pa_cons pe_bl pa_nil)) (pa_cons (pe_tup (pa_cons (pe_tup (pa_cons pe_str (pa_cons pe_str pa_nil))) pa_nil)) (pa_cons (pe_tup (pa_cons (pe_tup (pa_cons pe_str (pa_cons pe_str pa_nil))) (pa_cons (pe_tup (pa_cons pe_str (pa_cons pe_str pa_nil))) pa_nil))) (pa_cons pe_str (pa_cons pe_dnewK pa_nil)))))))))))
      (pss_cons (ps_set (i := 1) sc_Lerrors_right.nd rfl (.inl rfl) (pe_op op_cat (pv 1) (pe_lst (pa_cons (pe_tup (pa_cons (pe_tup (pa_cons pe_str (pa_cons pe_int (pa_cons pe_int (pa_cons pe_str pa_nil))))) pa_nil)) (pa_cons (pe_tup (pa_cons (pe_tup (pa_cons pe_str (pa_cons pe_str pa_nil))) (pa_cons (pe_tup (pa_cons pe_str (pa_cons pe_int (pa_cons pe_int (pa_cons pe_str pa_nil))))) pa_nil))) (pa_cons (pe_tup (pa_cons (pe_tup (pa_cons pe_str (pa_cons pe_str pa_nil))) (pa_cons (pe_tup (pa_cons pe_str (pa_cons pe_str pa_nil))) pa_nil))) pa_nil))))))
      (pss_cons (ps_set (i := 1) sc_Lerrors_right.nd rfl (.inl rfl) (pe_op op_cat (pv 1) (pe_lst (pa_cons (pe_tup (pa_cons (pe_tup (pa_cons pe_str (pa_cons pe_str pa_nil))) pa_nil)) (pa_cons (pe_tup (pa_cons (pe_tup pa_nil) pa_nil)) (pa_cons (pe_op op_repT (pe_tup (pa_cons pe_int pa_nil)) pe_int) (pa_cons (pe_tup (pa_cons (pe_tup (pa_cons pe_str (pa_cons pe_str pa_nil))) pa_nil)) pa_nil)))))))
      (pss_cons (ps_set (i := 1) sc_Lerrors_right.nd rfl (.inl rfl) (pe_op op_cat (pv 1) (pe_lst (pa_cons (pe_tup (pa_cons (pe_tup (pa_cons pe_str (pa_cons pe_str pa_nil))) (pa_cons (pe_tup (pa_cons pe_str (pa_cons pe_int (pa_cons pe_int (pa_cons pe_str pa_nil))))) pa_nil))) (pa_cons (pe_tup (pa_cons (pe_tup (pa_cons pe_str (pa_cons pe_str pa_nil))) (pa_cons (pe_lst (pa_cons pe_str (pa_cons pe_int (pa_cons pe_int (pa_cons pe_str pa_nil))))) pa_nil))) pa_nil)))))
      (pss_cons (ps_set (i := 3) sc_Lerrors_right.nd rfl (.inr rfl) (pe_cal (cal_one_of T) hr2 (by rfl) pass0 (pa_cons (pv 0) (pa_cons (pe_op op_cat (pv 1) (pe_lst (pa_cons (pe_tup (pa_cons (pe_tup (pa_cons pe_str (pa_cons pe_str pa_nil))) (pa_cons (pe_tup (pa_cons pe_str (pa_cons pe_int (pa_cons pe_bl (pa_cons pe_str pa_nil))))) pa_nil))) pa_nil))) pa_nil))))
      (pss_cons (ps_asg (pe_tup (pa_cons (pe_cal (cal_one_of T) hr2 (by rfl) pass0 (pa_cons (pv 0) (pa_cons (pe_lst (pa_cons pe_non (pa_cons pe_int (pa_cons (pe_tup (pa_cons pe_int (pa_cons pe_int pa_nil))) (pa_cons pe_str pa_nil))))) pa_nil))) (pa_cons (pe_lst pa_nil) pa_nil))) (pg_tup rfl (pgs_cons (pg_name (i := 5) sc_Lerrors_right.nd rfl (.inr rfl)) (pgs_cons (pg_name (i := 2) sc_Lerrors_right.nd rfl (.inl rfl)) pgs_nil))))
      (pss_cons (ps_for PassesOwn.never rfl (pi_tup (pe_tup (pa_cons (pe_glob (v := .ref fA) (by rfl) gA rfl) (pa_cons (pe_glob (v := .ref fF) (by rfl) gF rfl) (pa_cons (pe_glob (v := .ref fL) (by rfl) gL rfl) pa_nil))))) (pg_name (i := 4) sc_Lerrors_right.nd rfl (.inr rfl))
        (pss_cons (ps_expr (pe_bm PySem.F.plainAttrs_list PySem.F.slot_list_append PySem.F.type_list_append mt_append (pv 2) (pa_cons (pe_heard (k := 7) TX T.invS.g T.invL.g Dh (T := Ts) (by rfl) TB rfl hmT hu hr (LamX.lamS_by (sc := defScope s_Lerrors_right) (by decide +kernel)) rfl (fun _ _ _ _ _ => rfl)
            (fun A outer s H E f c' hr' => pe_callH (i := 4) (S := fun f => f = fA ∨ f = fF ∨ f = fL) (sp := spErr K CS CI CL) held hr' rfl (.inr (.inr rfl)) (passes_call (takes_of rfl rfl rfl rfl) (fun _ _ _ _ h => h)) (pa_cons (pe_shape T (hr'.mono (by decide)) (by rfl) (pa_cons pe_int (pa_cons pe_int pa_nil)) mono_cc) (pa_cons (pv 3) pa_nil)))) pa_nil)))
        (pss_one (ps_expr (pe_bm PySem.F.plainAttrs_list PySem.F.slot_list_append PySem.F.type_list_append mt_append (pv 2) (pa_cons (pe_heard (k := 7) TX T.invS.g T.invL.g Dh (T := Ts) (by rfl) TB rfl hmT hu hr (LamX.lamS_by (sc := defScope s_Lerrors_right) (by decide +kernel)) rfl (fun _ _ _ _ _ => rfl)
            (fun A outer s H E f c' hr' => pe_callH (i := 4) (S := fun f => f = fA ∨ f = fF ∨ f = fL) (sp := spErr K CS CI CL) held hr' rfl (.inr (.inr rfl)) (passes_call (takes_of rfl rfl rfl rfl) (fun _ _ _ _ h => h)) (pa_cons (pv 5) (pa_cons (pv 3) pa_nil)))) pa_nil))))))
      (pss_one (ps_ret (pe_and (pe_cmpR (op_eqD hr.units) (pv 2) (pe_op op_rep (pe_lst (pa_cons (pe_tup (pa_cons pe_str (pa_cons pe_str pa_nil))) (pa_cons (pe_tup (pa_cons pe_str (pa_cons pe_str pa_nil))) pa_nil))) pe_int) (nomark _)) (pe_one (pe_cmpR (op_eqD hr.units) (pe_cal (cal_assemble T TX) hr7 (by rfl) passL (pa_cons (pe_shape T hr4 (by rfl) (pa_cons pe_int (pa_cons pe_int pa_nil)) mono_cc) (pa_cons (pe_tup (pa_cons pe_int pa_nil)) pa_nil))) (pe_tup (pa_cons pe_int pa_nil)) (nomark _)))))))))))), ?_⟩
    have la : PyData.canLay0 (.str "label") = true := by decide +kernel
    have ls : PyData.canLay0 (.str "same") = true := by decide +kernel
    have lu : PyData.canLay0 (.str "under") = true := by decide +kernel
    have lp : PyData.canLay0 (.str "place") = true := by decide +kernel
    have le : PyData.canLay0 (.str "equal") = true := by decide +kernel
    have l1 : PyData.canLay0 (.str "a") = true := by decide +kernel
    have ra : MkR K (tTup (tCons (tC (.str "label")) (tCons (tC (.str "a")) tNil))) (.tup "label" [] "a") := mkr_tup2 "label" "a" la l1 (by decide)
    -- the first nine
    refine rd_set (mk_lst (n := 9) (G := BadL K) badL_mono (mk_cons badL_mono bad_non (mk_cons badL_mono bad_unit (mk_cons badL_mono bad_list (mk_cons badL_mono (bad_raws (rs := [.num 65536]) (mkrs_cons (mkr_num _) mkrs_nil) (by decide) (by decide) (by decide)) (mk_cons badL_mono (bad_raws (rs := [.bl true]) (mkrs_cons (mkr_bl _) mkrs_nil) (by decide) (by decide) (by decide))
      (mk_cons badL_mono (bad_raws (rs := [.tup "label" [] "A"]) (mkrs_cons (mkr_tup2 "label" "A" la (by decide +kernel) (by decide)) mkrs_nil) (by decide) (by decide) (by decide +kernel)) (mk_cons badL_mono bad_two (mk_cons badL_mono (bad_str _) (mk_cons badL_mono bad_dict mk_nil))))))))) (by decide) (fun l9 v9 H1 s1 n9 h9 len9 g9 => ?_))
    -- + 3
    refine ⟨_, rfl, mk_lst (n := 3) (G := BadL K) badL_mono (mk_cons badL_mono bad_nolab (mk_cons badL_mono (bad_raws (rs := [.tup "label" [] "a", .tup "same" [.int 0, .int 8] "a"]) (mkrs_cons ra (mkrs_cons (mkr_tup4 "same" "a" (.int 0) (.int 8) (.inl ⟨_, rfl⟩) (.inl ⟨_, rfl⟩) ls l1 (by decide)) mkrs_nil)) (by decide) (by decide) (by decide +kernel))
      (mk_cons badL_mono (bad_raws (rs := [.tup "label" [] "a", .tup "place" [] "a"]) (mkrs_cons ra (mkrs_cons (mkr_tup2 "place" "a" lp l1 (by decide)) mkrs_nil)) (by decide) (by decide) (by decide +kernel)) mk_nil))) (by decide) (fun l3 v3 H2 s2 n3 h3 len3 g3 => ⟨l9, l3, v9, v3, rfl, rfl, s2 _ _ h9, h3, by rw [len9, len3]; decide, fun la2 nla2 => ?_⟩)⟩
    have sc2 := same_upd (o := .lst (v9 ++ v3)) nla2
    have g12 : ∀ v ∈ v9 ++ v3, BadL K (upd H2 la2 (.lst (v9 ++ v3))) v := fun v hv => by
      rcases List.mem_append.mp hv with hv | hv
      · exact badL_mono _ _ _ (s2.trans sc2) (g9 v hv)
      · exact badL_mono _ _ _ sc2 (g3 v hv)
    -- + 4
    refine ⟨_, rfl, mk_lst (n := 4) (G := BadL K) badL_mono (mk_cons badL_mono (bad_raws (rs := [.tup "label" [] ""]) (mkrs_cons (mkr_tup2 "label" "" la (by decide +kernel) (by decide)) mkrs_nil) (by decide) (by decide) (by decide +kernel)) (mk_cons badL_mono (bad_raws (rs := [.nil]) (mkrs_cons mkr_nil mkrs_nil) (by decide) (by decide) (by decide)) (mk_cons badL_mono bad_long
      (mk_cons badL_mono (bad_raws (rs := [.tup "label" [] "abcdefghi"]) (mkrs_cons (mkr_tup2 "label" "abcdefghi" la (by decide +kernel) (by decide)) mkrs_nil) (by decide) (by decide) (by decide +kernel)) mk_nil)))) (by decide) (fun l4 v4 H3 s3 n4 h4 len4 g4 => ⟨la2, l4, v9 ++ v3, v4, rfl, rfl, s3 _ _ upd_same, h4, by rw [List.length_append, len9, len3, len4]; decide, fun la3 nla3 => ?_⟩)⟩
    have sc3 := same_upd (o := .lst (v9 ++ v3 ++ v4)) nla3
    have g16 : ∀ v ∈ v9 ++ v3 ++ v4, BadL K (upd H3 la3 (.lst (v9 ++ v3 ++ v4))) v := fun v hv => by
      rcases List.mem_append.mp hv with hv | hv
      · exact badL_mono _ _ _ (s3.trans sc3) (g12 v hv)
      · exact badL_mono _ _ _ sc3 (g4 v hv)
    -- + 2
    refine ⟨_, rfl, mk_lst (n := 2) (G := BadL K) badL_mono (mk_cons badL_mono (bad_raws (rs := [.tup "label" [] "a", .tup "equal" [.int 0, .int 0] "a"]) (mkrs_cons ra (mkrs_cons (mkr_tup4 "equal" "a" (.int 0) (.int 0) (.inl ⟨_, rfl⟩) (.inl ⟨_, rfl⟩) le l1 (by decide)) mkrs_nil)) (by decide) (by decide) (by decide +kernel))
      (mk_cons badL_mono (bad_raws (rs := [.tup "label" [] "a", .lst]) (mkrs_cons ra (mkrs_cons mkr_lst4 mkrs_nil)) (by decide) (by decide) (by decide +kernel)) mk_nil)) (by decide) (fun l2 v2 H4 s4 n2 h2 len2 g2 => ⟨la3, l2, v9 ++ v3 ++ v4, v2, rfl, rfl, s4 _ _ upd_same, h2, by rw [List.length_append, List.length_append, len9, len3, len4, len2]; decide, fun la4 nla4 => ?_⟩)⟩
    have sc4 := same_upd (o := .lst (v9 ++ v3 ++ v4 ++ v2)) nla4
    have g18 : ∀ v ∈ v9 ++ v3 ++ v4 ++ v2, BadL K (upd H4 la4 (.lst (v9 ++ v3 ++ v4 ++ v2))) v := fun v hv => by
      rcases List.mem_append.mp hv with hv | hv
      · exact badL_mono _ _ _ (s4.trans sc4) (g16 v hv)
      · exact badL_mono _ _ _ sc4 (g2 v hv)
    -- bad
    refine ⟨_, rfl, _, rfl, mk_lst (n := 1) (G := BadL K) badL_mono (mk_cons badL_mono (bad_raws (rs := [.tup "label" [] "a", .tup "under" [.int 0, .bl true] "a"]) (mkrs_cons ra (mkrs_cons (mkr_tup4 "under" "a" (.int 0) (.bl true) (.inl ⟨_, rfl⟩) (.inr ⟨_, rfl⟩) lu l1 (by decide)) mkrs_nil)) (by decide) (by decide) (by decide +kernel)) mk_nil) (by decide)
      (fun lz vz H5 s5 nz hz lenz gz => ⟨la4, lz, v9 ++ v3 ++ v4 ++ v2, vz, rfl, rfl, s5 _ _ upd_same, hz, by rw [List.length_append, List.length_append, List.length_append, len9, len3, len4, len2, lenz]; decide, fun la5 nla5 => ?_⟩)⟩
    have sc5 := same_upd (o := .lst (v9 ++ v3 ++ v4 ++ v2 ++ vz)) nla5
    have g19 : ∀ v ∈ v9 ++ v3 ++ v4 ++ v2 ++ vz, BadL K (upd H5 la5 (.lst (v9 ++ v3 ++ v4 ++ v2 ++ vz))) v := fun v hv => by
      rcases List.mem_append.mp hv with hv | hv
      · exact badL_mono _ _ _ (s5.trans sc5) (g18 v hv)
      · exact badL_mono _ _ _ sc5 (gz v hv)
    have sAll : Same H (upd H5 la5 (.lst (v9 ++ v3 ++ v4 ++ v2 ++ vz))) := s1.trans (s2.trans (sc2.trans (s3.trans (sc3.trans (s4.trans (sc4.trans (s5.trans sc5)))))))
    have len19 : (v9 ++ v3 ++ v4 ++ v2 ++ vz).length = 19 := by rw [List.length_append, List.length_append, List.length_append, List.length_append, len9, len3, len4, len2, lenz]
    have nD5 : la5 ≠ D := fun z => by
      have hD5 : Dice H5 D := hD.same (s1.trans (s2.trans (sc2.trans (s3.trans (sc3.trans (s4.trans (sc4.trans s5)))))))
      exact DS.ne hD5 nla5 z
    generalize hvv : v9 ++ v3 ++ v4 ++ v2 ++ vz = vv at g19 sAll len19
    generalize hHv : upd H5 la5 (.lst vv) = Hv at g19 sAll
    have hla5 : Hv la5 = some (.lst vv) := by rw [← hHv]; exact upd_same
    have dv : DS D H Hv := .of hD sAll
    refine ⟨D, la5, vv, rfl, hla5, nD5, by rw [len19]; decide, by rw [len19]; decide, dv.d, fun bad H6 hbad d6 => ?_⟩
    have hb6 : BadL K H6 bad := kp_badL (kp_ds dv.d d6) (g19 bad hbad)
    have d06 := dv.trans d6
    -- none, met
    refine ⟨_, rfl, mk_lst (n := 4) (G := BadS K CS) (fun _ _ _ e h => kp_badS (kp_same e) h) (mk_cons (fun _ _ _ e h => kp_badS (kp_same e) h) (fun σ H Q q => q _ _ (Same.refl H) ⟨"NoneType", .base .non, T.shape.non⟩) (mk_cons (fun _ _ _ e h => kp_badS (kp_same e) h) (mk_int 8 fun _ => ⟨"int", .base (.int 8), T.shape.int⟩)
      (mk_cons (fun _ _ _ e h => kp_badS (kp_same e) h) (mk_pair 8 4 fun _ p h => ⟨"tuple", ty_sqT (sqT_at h), T.shape.tup⟩) (mk_cons (fun _ _ _ e h => kp_badS (kp_same e) h) (fun σ H Q q => q _ _ (Same.refl H) ⟨"str", .base (.str _), T.shape.str⟩) mk_nil)))) (by decide) (fun ln vn H7 s7 nln hln lenn gn => ?_)⟩
    have d07 := d06.same s7
    refine ⟨D, ln, vn, rfl, hln, DS.ne d06.d nln, by rw [lenn]; decide, by rw [lenn]; decide, d07.d, fun nv H8 hnv d8 => ?_⟩
    have d08 := d07.trans d8
    have hn8 : BadS K CS H8 nv := kp_badS (kp_ds d07.d d8) (gn nv hnv)
    have hb8 : BadL K H8 bad := kp_badL (kp_ds d07.d d8) (kp_badL (kp_same s7) hb6)
    have T8 : LamX.Tabs Ts H8 := tabs_but hD d08.b hT
    refine ⟨Nat.zero_le _, fun M nM => ⟨by show 2 ≤ sizeLine; decide, fun tp ntp => ⟨tp, _, rfl, sqT_at upd_same, rfl, _, _, rfl, _, _, rfl, rfl, ?_⟩⟩⟩
    have sM := same_upd (o := .lst []) nM
    have sT := same_upd (o := .tup [nv, .ref M]) ntp
    have MD : M ≠ D := DS.ne d08.d nM
    refine ⟨by show 3 ≤ sizeLine; decide, fun ct nct => ?_⟩
    have sC := same_upd (o := .tup [.ref fA, .ref fF, .ref fL]) nct
    have hMc : (upd (upd (upd H8 M (.lst [])) tp (.tup [nv, .ref M])) ct (.tup [.ref fA, .ref fF, .ref fL])) M = some (.lst []) := sC _ _ (sT _ _ upd_same)
    refine ⟨ct, rfl, ⟨_, sqT_at upd_same⟩, for_tup (xs := [.ref fA, .ref fF, .ref fL]) (fun i σ H' => ∃ y4, ∃ ms : List V, σ = [some (.ref D), some (.ref la4), some (.ref M), some bad, y4, some nv] ∧ DT D Ts H8 H' ∧ H' M = some (.lst ms) ∧ ms.length = 2 * i ∧ (∀ j v, ms[j]? = some v → TwoT K H' v (if j % 2 = 0 then "lines" else "shape")) ∧ SqT K H' ct [.ref fA, .ref fF, .ref fL])
      ⟨none, [], rfl, DT.same d08.d T8 ((sM.trans sT).trans sC), hMc, rfl, fun j v h => (by simp at h), sqT_at upd_same⟩ (fun i σ H' _ h => ?_) (fun i x σ H9 hx h => ?_) (fun σ H9 h => ?_)⟩
    · obtain ⟨_, _, _, _, _, _, _, hc⟩ := h
      exact hc
    · obtain ⟨y4, ms, rfl, t9, hM9, hml, hmt, hct⟩ := h
      have hi3 : i < 3 := (List.getElem?_eq_some_iff.mp hx).1
      obtain ⟨fc, rfl, hfc⟩ : ∃ fc, x = .ref fc ∧ (fc = fA ∨ fc = fF ∨ fc = fL) := by
        have hm := List.mem_of_getElem? hx
        simp only [List.mem_cons, List.not_mem_nil, or_false] at hm
        rcases hm with rfl | rfl | rfl
        · exact ⟨_, rfl, .inl rfl⟩
        · exact ⟨_, rfl, .inr (.inl rfl)⟩
        · exact ⟨_, rfl, .inr (.inr rfl)⟩
      -- the first of the two
      refine ⟨_, rfl, .inl ⟨rfl, _, sqL_at hM9⟩, t9.t, fun H10 e10 T10 => ?_⟩
      have t910 : DT D Ts H9 H10 := .ext t9.d T10 e10
      have hM10 : H10 M = some (.lst ms) := t910.k _ _ hM9 MD (by intro ps z; cases z)
      refine ⟨fc, rfl, hfc, 8, 4, rfl, by decide, by decide, .inr (.inl rfl), fun sh H11 nsh s11 hsh => ?_⟩
      have t911 := t910.thenSame s11
      have b11 : BadL K H11 bad := kp_badL (kp_same s11) (kp_badL (kp_dt t9.d t910) (kp_badL (kp_dt d08.d t9) hb8))
      refine ⟨_, rfl, .ref sh, bad, rfl, .inr ⟨⟨sh, 8, 4, rfl, hsh⟩, b11, fun H12 s12 => .inr ⟨rfl, fun p np => ?_⟩⟩⟩
      have sp := same_upd (o := .tup [.str "refused", .str "lines"]) np
      have s13 := (s11.trans s12).trans sp
      have hM13 := s13 _ _ hM10
      have t913 := t910.thenSame s13
      refine ⟨M, ms, .ref p, rfl, rfl, hM13, by rw [hml]; exact small1000 (by omega), ?_⟩
      have t14 := (t9.trans t913).store (ms' := ms ++ [.ref p]) nM MD hM13
      have k14 : KeepT K H9 (upd (upd H12 p (.tup [.str "refused", .str "lines"])) M (.lst (ms ++ [.ref p]))) := (DT.keepT t9.d t913).trans (keepT_but hM13 (but_upd _ _ _))
      have hM14 : (upd (upd H12 p (.tup [.str "refused", .str "lines"])) M (.lst (ms ++ [.ref p]))) M = some (.lst (ms ++ [.ref p])) := upd_same
      have hp14 : TwoT K (upd (upd H12 p (.tup [.str "refused", .str "lines"])) M (.lst (ms ++ [.ref p]))) (.ref p) "lines" := ⟨p, rfl, keepT_but hM13 (but_upd _ _ _) _ _ (sqT_at upd_same)⟩
      generalize (upd (upd H12 p (.tup [.str "refused", .str "lines"])) M (.lst (ms ++ [.ref p]))) = H14 at t14 k14 hM14 hp14 ⊢
      -- the second
      refine ⟨_, rfl, .inl ⟨rfl, _, sqL_at hM14⟩, t14.t, fun H15 e15 T15 => ?_⟩
      have t1415 : DT D Ts H14 H15 := .ext t14.d T15 e15
      have hM15 : H15 M = some (.lst (ms ++ [.ref p])) := t1415.k _ _ hM14 MD (by intro ps z; cases z)
      refine ⟨fc, rfl, hfc, _, rfl, _, rfl, nv, bad, rfl, .inl ⟨kp_badS (kp_dt t14.d t1415) (kp_badS (kp_dt d08.d t14) hn8), .inl ⟨rfl, fun p2 np2 => ?_⟩⟩⟩
      have sp2 := same_upd (o := .tup [.str "refused", .str "shape"]) np2
      have hM16 := sp2 _ _ hM15
      have t1416 := t1415.thenSame sp2
      refine ⟨M, ms ++ [.ref p], .ref p2, rfl, rfl, hM16, by rw [List.length_append, hml]; exact small1000 (show 2 * i + 1 ≤ 1000 by omega), ?_⟩
      have t17 := (t14.trans t1416).store (ms' := ms ++ [.ref p] ++ [.ref p2]) nM MD hM16
      have k17 : KeepT K H14 (upd (upd H15 p2 (.tup [.str "refused", .str "shape"])) M (.lst (ms ++ [.ref p] ++ [.ref p2]))) := (DT.keepT t14.d t1416).trans (keepT_but hM16 (but_upd _ _ _))
      refine ⟨_, ms ++ [.ref p] ++ [.ref p2], rfl, t17, upd_same, by rw [List.length_append, List.length_append, hml]; show 2 * i + 1 + 1 = 2 * (i + 1); omega, fun j v hj => ?_, k17 _ _ (k14 _ _ hct)⟩
      by_cases c1 : j < ms.length
      · rw [List.append_assoc, List.getElem?_append_left c1] at hj
        exact ((hmt j v hj).keep k14).keep k17
      · rw [List.append_assoc, List.getElem?_append_right (by omega)] at hj
        have hj2 : j - ms.length = 0 ∨ j - ms.length = 1 := by
          have := (List.getElem?_eq_some_iff.mp hj).1
          have h2 : ([V.ref p] ++ [V.ref p2]).length = 2 := rfl
          omega
        rcases hj2 with e | e
        · rw [e] at hj
          have ev : V.ref p = v := Option.some.inj hj
          have ej : j % 2 = 0 := by omega
          rw [if_pos ej, ← ev]
          exact hp14.keep k17
        · rw [e] at hj
          have ev : V.ref p2 = v := Option.some.inj hj
          have ej : ¬ j % 2 = 0 := by omega
          rw [if_neg ej, ← ev]
          exact ⟨p2, rfl, keepT_but hM16 (but_upd _ _ _) _ _ (sqT_at upd_same)⟩
    · obtain ⟨y4, ms, rfl, t9, hM9, hml, hmt, hct⟩ := h
      have t09 : DT D Ts H H9 := (DT.ds hD hT d08).trans t9
      refine ⟨_, rfl, by show 2 ≤ sizeLine; decide, fun p1 np1 => ⟨by show 2 ≤ sizeLine; decide, fun p2 np2 => ⟨by show 2 ≤ sizeLine; decide, fun l nl => ⟨l, 3, _, rfl, rfl, upd_same, by decide, by decide, by show 2 * 3 ≤ sizeLine; decide, fun r nr => ?_⟩⟩⟩⟩
      have q1 := same_upd (o := .tup [.str "refused", .str "lines"]) np1
      have q2 := same_upd (o := .tup [.str "refused", .str "shape"]) np2
      have q3 := same_upd (o := .lst [.ref p1, .ref p2]) nl
      have q4 := same_upd (o := .lst (List.replicate (3 : Int).toNat [V.ref p1, .ref p2]).flatten) nr
      have q14 := ((q1.trans q2).trans q3).trans q4
      have hp1 := ((q2.trans q3).trans q4).sqT (K := K) (sqT_at (upd_same (H := H9) (a := p1) (o := .tup [.str "refused", .str "lines"])))
      have hp2 := (q3.trans q4).sqT (K := K) (sqT_at (upd_same (H := upd H9 p1 (.tup [.str "refused", .str "lines"])) (a := p2) (o := .tup [.str "refused", .str "shape"])))
      have hr : (upd (upd (upd (upd H9 p1 (.tup [.str "refused", .str "lines"])) p2 (.tup [.str "refused", .str "shape"])) l (.lst [.ref p1, .ref p2])) r (.lst (List.replicate (3 : Int).toNat [V.ref p1, .ref p2]).flatten)) r = some (.lst [.ref p1, .ref p2, .ref p1, .ref p2, .ref p1, .ref p2]) := upd_same
      have hMe := q14 _ _ hM9
      have hmt' : ∀ j v, ms[j]? = some v → TwoT K (upd (upd (upd (upd H9 p1 (.tup [.str "refused", .str "lines"])) p2 (.tup [.str "refused", .str "shape"])) l (.lst [.ref p1, .ref p2])) r (.lst (List.replicate (3 : Int).toNat [V.ref p1, .ref p2]).flatten)) v (if j % 2 = 0 then "lines" else "shape") := fun j v h => (hmt j v h).keep (keepT_same q14)
      generalize (upd (upd (upd (upd H9 p1 (.tup [.str "refused", .str "lines"])) p2 (.tup [.str "refused", .str "shape"])) l (.lst [.ref p1, .ref p2])) r (.lst (List.replicate (3 : Int).toNat [V.ref p1, .ref p2]).flatten)) = He at q14 hp1 hp2 hr hMe hmt' ⊢
      have t0e : DT D Ts H He := t09.thenSame q14
      have L1 : Dp K He (.ref p1) (.tuple [.str "refused", .str "lines"]) := TwoT.dp ⟨p1, rfl, hp1⟩
      have L2' : Dp K He (.ref p2) (.tuple [.str "refused", .str "shape"]) := TwoT.dp ⟨p2, rfl, hp2⟩
      have shd : SeqAt.shaped (.list [.tuple [.str "refused", .str "lines"], .tuple [.str "refused", .str "shape"], .tuple [.str "refused", .str "lines"], .tuple [.str "refused", .str "shape"], .tuple [.str "refused", .str "lines"], .tuple [.str "refused", .str "shape"]]) = true := by decide +kernel
      have dM : DpAll K He ms [.tuple [.str "refused", .str "lines"], .tuple [.str "refused", .str "shape"], .tuple [.str "refused", .str "lines"], .tuple [.str "refused", .str "shape"], .tuple [.str "refused", .str "lines"], .tuple [.str "refused", .str "shape"]] := by
        match ms, hml, hmt' with
        | [m0, m1, m2, m3, m4, m5], _, g => exact .cons (g 0 m0 rfl).dp (.cons (g 1 m1 rfl).dp (.cons (g 2 m2 rfl).dp (.cons (g 3 m3 rfl).dp (.cons (g 4 m4 rfl).dp (.cons (g 5 m5 rfl).dp .nil)))))
      refine ⟨_, _, .lst (sqL_at hMe) dM, .lst (sqL_at hr) (.cons L1 (.cons L2' (.cons L1 (.cons L2' (.cons L1 (.cons L2' .nil)))))), shd, shd, true, ?_, iteT ?_⟩
      · rw [eqv_self _ (SeqAt.canLay_of_shaped shd)]
      -- assemble(Shape(4, 2), (0,)) == (0,)
      refine ⟨4, 2, rfl, by decide, by decide, .inl rfl, fun sh H11 nsh s11 hsh => ⟨by show 1 ≤ sizeLine; decide, fun z nz => ?_⟩⟩
      have sz' := same_upd (o := .tup [.int 0]) nz
      refine ⟨.ref sh, .ref z, rfl, .inr (.inr ⟨sh, 4, 2, zs 1, rfl, hsh.same sz', zs_good (n := 1) (sqT_at upd_same) (by decide) (by decide), by decide, by decide, .inl rfl, fun f hf hw => ?_⟩)⟩
      have ef := zs_far hf
      subst ef
      have ep : pos (zs 1) [] (zs 1).length = 1 := by rw [zs_len]; exact zs_pos (Nat.le_refl 1)
      have epr : prog 2 (zs 1) [] = [0] := by unfold prog; rw [zs_len]; exact zs_prog (Nat.le_refl 1)
      have em : mostOf 4 = 15 := by decide
      rw [ep, em]
      refine ⟨fun c => absurd c (by decide), fun _ c => absurd c (by decide), fun _ _ r2 H13 s13 nr2 hr2 => ⟨by show 1 ≤ sizeLine; decide, fun z2 nz2 => ?_⟩⟩
      rw [epr] at hr2
      have sz2 := same_upd (o := .tup [.int 0]) nz2
      have sh0 : SeqAt.shaped (.tuple [.int 0]) = true := by decide +kernel
      refine ⟨_, _, .tup (sz2.sqT (sqT_at hr2)) (.cons (.int 0) .nil), .tup (sqT_at upd_same) (.cons (.int 0) .nil), sh0, sh0, ?_⟩
      rw [eqv_self _ (SeqAt.canLay_of_shaped sh0)]
      exact q _ (t0e.thenSame (((s11.trans sz').trans s13).trans sz2))
end
end K80
set_option Elab.async false
set_option linter.all false
set_option maxRecDepth 100000
set_option maxHeartbeats 4000000
/-! != of two tuples whose items are equal, dicts among them. -/
namespace PySem.SeqAt
open AutoSeq1 (wpAny_loadPart')
open MeetsSeq MeetsSeq2 MeetsSeq3 SeqRoads2
section
variable {prog : Program} {w : World}
theorem k80_tuple_ne (l b : Addr) (items items2 : Array Value) (n n2 : Nat) (dd dd2 : Option Addr) (sl sl2 : Array (Option Value)) (hsz : items.size = items2.size) :
    MeetsIn prog w (Builtin.«tuple.__ne__» ⟨[.ref l, .ref b], []⟩)
      (fun A R s => s.heap.get? l = some { cls := .type "tuple", dict := dd, data := .seq items n, slots := sl } ∧ s.heap.get? b = some { cls := .type "tuple", dict := dd2, data := .seq items2 n2, slots := sl2 } ∧
        (∀ j (h1 : j < items.size) (h2 : j < items2.size), EqIn prog w A.in1 s items[j] items2[j] true) ∧ R (.ok (.ret (.bool false))) s) :=
  .of_wp fun A R s h => by
    obtain ⟨hp, g, d, tk, os⟩ := s; obtain ⟨hl, hb, he, h⟩ := h
    have f2 := AutoSeq1.sub_tuple_tuple
    have hZ : (items.toList.zip items2.toList).length = items.size := by simp [hsz]
    wp_walk using wpAny_loadPart' hl, wpAny_loadPart' hb, wpAny_forIn_list _ (fun rest b s' => b.1 = none ∧ s' = ⟨hp, g, d, tk, os⟩ ∧ ∃ i, rest = (items.toList.zip items2.toList).drop i) _
    case turn =>
      rintro ⟨y, x⟩ rest b s' ⟨hb', rfl, i, hz⟩
      have hlt : i < (items.toList.zip items2.toList).length := by
        rcases Nat.lt_or_ge i (items.toList.zip items2.toList).length with h' | h'
        · exact h'
        · rw [List.drop_of_length_le h'] at hz; cases hz
      have h1 : i < items.size := hZ ▸ hlt
      have h2 : i < items2.size := hsz ▸ h1
      rw [List.drop_eq_getElem_cons hlt] at hz
      injection hz with hyx hrest
      have hy : y = items[i] := by have := congrArg Prod.fst hyx; simpa using this
      have hx : x = items2[i] := by have := congrArg Prod.snd hyx; simpa using this
      subst hy hx
      refine wpAny_bind (he i h1 h2 _ _ ?_)
      wp_walk
      exact ⟨rfl, rfl, i + 1, hrest⟩
    case fin =>
      rintro ⟨b1, b2⟩ s' ⟨hb', rfl, i, hz⟩
      simp only at hb'
      subst hb'
      wp_walk
      exact ⟨_, rfl, by simpa [Builtin.Tuple.tupleCompareSizes, bne, hsz] using h⟩
    case h =>
      exact ⟨rfl, rfl, 0, rfl⟩
theorem k80_ne_tuples {A : Around} {s : Shared} {E : Value → Shared → Prop} {l b : Addr} {items items2 : Array Value} {Q : Value → Shared → Prop} (hl : s.heap.IsTuple l items) (hb : s.heap.IsTuple b items2) (hsz : items.size = items2.size) (hu : A.units < cLine)
    (he : ∀ j (h1 : j < items.size) (h2 : j < items2.size), EqIn prog w A.in1 s items[j] items2[j] true) (h : Q (.bool false) s) :
    wpAny (model prog w) A (richCompare .NotEq (.ref l) (.ref b)) Q E s := by
  obtain ⟨⟨cls, dd, data, sl⟩, ho, hc, n, hd⟩ := id hl
  obtain ⟨⟨cls2, dd2, data2, sl2⟩, ho2, hc2, n2, hd2⟩ := id hb
  simp only at hc hd hc2 hd2
  subst hc hd hc2 hd2
  exact wpAny_richCompare_same_room (T := "tuple") (op := .NotEq) ⟨_, ho, rfl⟩ ⟨_, ho2, rfl⟩ F.slot_tuple_ne (call_meetsIn F.slot_tuple_ne ⟨_, ho, rfl⟩ F.entry_tuple_ne (F.args_tuple_ne_2 _ _) (k80_tuple_ne l b items items2 n n2 dd dd2 sl sl2 hsz)
    ⟨ho, ho2, he, show Value.bool false ≠ Value.notImplemented ∧ Q (.bool false) s from ⟨(fun x => nomatch x), h⟩⟩) hu
end
end PySem.SeqAt
namespace K80
open PySem PySem.Spec PyProof.Rows L2
/-- equal items: plain data, or dicts of flat values -/
def EqX (K : PySem.W.Frag) (H : Hp) (x y : V) : Prop := (∃ d, Dp K H x d ∧ Dp K H y d ∧ SeqAt.shaped d = true) ∨
  ∃ a b ks ls, x = .ref a ∧ y = .ref b ∧ a ≠ b ∧ H a = some (.dK ks) ∧ H b = some (.dK ls) ∧ ks.length = ls.length ∧ ∀ p ∈ ks, valV ls p.1 = some p.2 ∧ flatB p.2 = true
section
variable {X : Cx} {pins : List (Addr × Obj)} {σ : L2.St} {H : Hp} {s : Shared}
theorem eqX_run (I : Inv X pins σ H s) {A : Around} (hu : A.units + 64 < cLine) {x y : V} {v u : Value} (h : EqX X.K H x y) (rx : RelV x v) (ry : RelV y u) : SeqAt.EqIn X.prog X.w A s v u true := by
  rcases h with ⟨d, h1, h2, sd⟩ | ⟨a, b, ks, ls, rfl, rfl, ne, ha, hb, hl, hp⟩
  · obtain ⟨as, r1⟩ := Dp.reads I d x v h1 rx
    obtain ⟨bs, r2⟩ := Dp.reads I d y u h2 ry
    intro E Q q
    have e := eqv_self d (SeqAt.canLay_of_shaped sd)
    refine SeqAt.eqBoolOverData X.prog X.w A E s v u d d as bs Q r1 r2 (SeqAt.canLay_of_shaped sd) (SeqAt.canLay_of_shaped sd) (SeqAt.room_of_shaped sd hu) ?_
    rw [e]
    exact q
  · cases (show v = Value.ref a from rx)
    cases (show u = Value.ref b from ry)
    obtain ⟨_, ya, va, ra, da⟩ := (show ObjOk X.prog X.w H s.heap a (.dK ks) from I.hok a _ ha)
    obtain ⟨_, yb, vb, rb, db⟩ := (show ObjOk X.prog X.w H s.heap b (.dK ls) from I.hok b _ hb)
    refine SeqAt.EqIn.of_refs ne fun E Q q => ?_
    refine PySem.W.rcP_dicts (knd := mixKind X.prog X.w) (r := true) ya yb da db (by omega) (fun _ => hits_run (F := fun x y => x = y ∧ flatB x = true) (fun x y v u h rx ry => ?_) rb ra (fun p hpm => ⟨p.2, (hp p hpm).1, rfl, (hp p hpm).2⟩)) E Q ?_
    · obtain ⟨rfl, f⟩ := h
      exact (eqAt_same rx ry f).eqP
    · have e : va.length = vb.length := by rw [← ra.length, ← rb.length]; exact hl
      rw [show (va.length == vb.length && true) = true from by rw [e]; simp]
      exact q
end
def rNeX (K : PySem.W.Frag) : R2 := fun x y H Q => ∃ a b xs ys, x = .ref a ∧ y = .ref b ∧ SqT K H a xs ∧ SqT K H b ys ∧ Paired (EqX K H) xs ys ∧ Q (.bl false) H
theorem op_neX {X : Cx} (hu : X.A.units + 65 < cLine) : OpR X (compareOp .NotEq) (rNeX X.K) := by
  intro pins s σ H x y v u Q I rx ry h
  obtain ⟨a, b, xs, ys, rfl, rfl, ha, hb, hp, q⟩ := h
  cases (show v = Value.ref a from rx)
  cases (show u = Value.ref b from ry)
  obtain ⟨us, r1, p1, _⟩ := I.tuple ha
  obtain ⟨ws, r2, p2, _⟩ := I.tuple hb
  have hsz : us.toArray.size = ws.toArray.size := by
    rw [List.size_toArray, List.size_toArray, ← r1.length, ← r2.length]
    exact Paired.length hp
  have items : ∀ {xs ys : List V}, Paired (EqX X.K H) xs ys → ∀ {us ws : List Value}, Vals xs us → Vals ys ws → ∀ j (h1 : j < us.length) (h2 : j < ws.length), SeqAt.EqIn X.prog X.w X.A.in1 s us[j] ws[j] true := by
    intro xs ys hp
    induction hp with
    | nil =>
      intro us ws r1 r2 j h1 h2
      cases r1
      exact absurd h1 (Nat.not_lt_zero j)
    | cons h _ k =>
      intro us ws r1 r2 j h1 h2
      cases r1 with
      | cons a1 b1 =>
        cases r2 with
        | cons a2 b2 =>
          cases j with
          | zero => exact eqX_run I (A := X.A.in1) (by show X.A.units + 1 + 64 < cLine; omega) h a1 a2
          | succ j => exact k b1 b2 j (Nat.lt_of_succ_lt_succ h1) (Nat.lt_of_succ_lt_succ h2)
  refine SeqAt.k80_ne_tuples p1 p2 hsz (by omega) (fun j h1 h2 => ?_) ⟨.bl false, H, I, rfl, q⟩
  have k := items hp r1 r2 j (by simpa using h1) (by simpa using h2)
  simpa using k
end K80
namespace K80
open PySem L2
theorem units65 {k : Nat} {A : Around} (r : Room k A) : A.units + 65 < cLine := by have := r.un; omega
end K80
set_option Elab.async false
set_option linter.all false
set_option maxRecDepth 100000
set_option maxHeartbeats 4000000
/-! law. -/
namespace K80
open PySem PySem.Spec PyProof.Rows L2
/-! ### the lines of the law's own program -/
def l35 : List Line := [.br false 0 0 "out"] ++ zs 32 ++ [.lab "out", .w 61440]
theorem l35_br : ∀ i : Fin 35, (match l35[i.val]? with | some l => l.isBr | none => false) = true → i.val = 0 := by decide +kernel
theorem l35_far {f : List Nat} (h : Least l35 f) (hw : f.Pairwise (· < ·)) : f = [0] := by
  have mem : ∀ i ∈ f, i = 0 := fun i hi => by
    obtain ⟨u, a, b, x, e⟩ := h.br i hi
    have hlt : i < 35 := (List.getElem?_eq_some_iff.mp e).1
    exact l35_br ⟨i, hlt⟩ (by
      show (match l35[i]? with | some l => l.isBr | none => false) = true
      rw [e]
      rfl)
  cases f with
  | nil =>
    have z := h.fits 0
    have z2 : misses l35 [] 0 = true := by decide +kernel
    rw [z2] at z
    cases z
  | cons i r =>
    have ei := mem i List.mem_cons_self
    subst ei
    cases r with
    | nil => rfl
    | cons j r =>
      have ej := mem j (List.mem_cons_of_mem _ List.mem_cons_self)
      have := (List.pairwise_cons.mp hw).1 j List.mem_cons_self
      omega
theorem l35_pos : pos l35 [0] l35.length = 37 := by decide +kernel
theorem l35_out : pos l35 [0] (labIx l35 "out") = 36 := by decide +kernel
theorem l35_labs : l35.filterMap Line.labN = (["out"] : List Str) := by decide +kernel
theorem l35_prog : prog 4 l35 [0] = [49154, 49155, 38436, 57536] ++ List.replicate 32 0 ++ [61440] := by decide +kernel
theorem l35_ok : l35.all okLine = true := by decide +kernel
theorem l35_lo : labsOk l35 = true := by decide +kernel
theorem l1_far {f : List Nat} (h : Least [.lab "a"] f) : f = [] := by
  cases f with
  | nil => rfl
  | cons i r =>
    obtain ⟨u, a, b, x, e⟩ := h.br i List.mem_cons_self
    cases i with
    | zero => cases e
    | succ i => simp at e
theorem sqL_ext {K : PySem.W.Frag} {H H' : Hp} {a : Addr} {xs : List V} (e : LamX.ExtN H H') (h : SqL K H a xs) : SqL K H' a xs := by
  rcases h with (h | ⟨o, h⟩) | h
  · exact .inl (.inl (e _ _ h (fun _ z => by cases z)))
  · exact .inl (.inr ⟨o, e _ _ h (fun _ z => by cases z)⟩)
  · exact .inr h
theorem keepT_ext {K : PySem.W.Frag} {H H' : Hp} (e : LamX.ExtN H H') : KeepT K H H' := fun a xs h => by
  rcases h with (h | ⟨o, h⟩) | h
  · exact .inl (.inl (e _ _ h (fun _ z => by cases z)))
  · exact .inl (.inr ⟨o, e _ _ h (fun _ z => by cases z)⟩)
  · exact .inr h
theorem ext_dice {D : Addr} {T : List (Addr × Str)} {H H1 H2 : Hp} (s : Same H H1) (n : H D = none) (d : DT D T H1 H2) : LamX.ExtN H H2 := fun b o h m => d.k b o (s b o h) (ne_of_none h n) m
theorem rep_zero {n : Nat} : (List.replicate n [V.int 0]).flatten = List.replicate n (V.int 0) := by
  induction n with
  | zero => rfl
  | succ n ih =>
    rw [List.replicate_succ, List.flatten_cons, ih, List.replicate_succ]
    rfl
theorem zs_asm {K : PySem.W.Frag} {CM CR : Addr} {H : Hp} {wd rg : Int} {n : Nat} {Q : VK} {E : XK} (h1 : 4 ≤ wd) (h2 : wd ≤ 16) (h3 : regOk rg) (hn : 1 ≤ n) (hle : ((n : Nat) : Int) ≤ mostOf wd) (q : ∀ p H', Same H H' → H p = none → H' p = some (.tup (List.replicate n (V.int 0))) → Q (.ref p) H') :
    AsmQ K CM CR H wd rg (zs n) Q E := by
  refine ⟨h1, h2, h3, fun f hf hw => ?_⟩
  have ef := zs_far hf
  subst ef
  have ep : pos (zs n) [] (zs n).length = n := by rw [zs_len]; exact zs_pos (Nat.le_refl n)
  have epr : prog rg (zs n) [] = List.replicate n 0 := by unfold prog; rw [zs_len]; exact zs_prog (Nat.le_refl n)
  rw [ep]
  refine ⟨fun c => by omega, fun _ c => by omega, fun _ _ p H' s np hp => q p H' s np ?_⟩
  rw [hp, epr, List.map_replicate]
theorem zs_many {K : PySem.W.Frag} {CM CR : Addr} {H : Hp} {wd rg : Int} {n : Nat} {Q : VK} {E : XK} (h1 : 4 ≤ wd) (h2 : wd ≤ 16) (h3 : regOk rg) (hle : mostOf wd < ((n : Nat) : Int)) (q : ∀ d H', Same H H' → H d = none → H' d = some (.xd [("limit", .int (mostOf wd))]) → E (.ref CM) (some d) H') :
    AsmQ K CM CR H wd rg (zs n) Q E := by
  refine ⟨h1, h2, h3, fun f hf hw => ?_⟩
  have ef := zs_far hf
  subst ef
  have ep : pos (zs n) [] (zs n).length = n := by rw [zs_len]; exact zs_pos (Nat.le_refl n)
  rw [ep]
  exact ⟨fun _ d H' s nd hd => q d H' s nd hd, fun c => by omega, fun c => by omega⟩
theorem shaped_zs (n : Nat) : SeqAt.shaped (.tuple (List.replicate n (PyData.int 0))) = true := by
  have := ints_lay (ds := List.replicate n (PyData.int 0)) fun d hd => ⟨0, List.eq_of_mem_replicate hd⟩
  exact (shaped_of this.1 (Nat.le_of_eq this.2) (by decide)).2
theorem dp_zs {K : PySem.W.Frag} {H : Hp} (n : Nat) : DpAll K H (List.replicate n (V.int 0)) (List.replicate n (PyData.int 0)) := by
  induction n with
  | zero => exact .nil
  | succ n ih => exact .cons (.int 0) ih
def qL : Str := "law" ++ ".<locals>." ++ "<lambda>"
section
variable {P : Program} {w : World} {K : PySem.W.Frag} {mg : Str → Option Value} {base : Heap} {CS CI CL CM CR : Addr}
def spLaw (K : PySem.W.Frag) (T : List (Addr × Str)) : Sp := fun vs H Q _ => ∃ (a : Addr) (ns : List Int), vs = [.ref a] ∧ SqL K H a (ns.map V.int) ∧ LamX.Tabs T H ∧ ∀ H', Q (.bl true) H'
theorem ok_law (T : Txt K mg CS CI CL) (TX : TxtX P K mg CI CL CM CR) (Dt : DefAt K mg "_law_told" s_Ltold) {Ts : List (Addr × Str)} (CR' : Cal P w K mg base CX0 10 "_law_right" ["_law_dice_here"] (spRight Ts)) (CE : Cal P w K mg base CX0 10 "_law_errors_right" ["_law_dice_here"] (spRight Ts))
    {f : Addr} {fd : FuncData} {c P0 : Addr} (F : FnP K "law" s_law f fd) (hc : fd.code = .ref c) (TB : LamX.TabB base mg c P0) (hmT : (P0, qL) ∈ Ts) (hu : ∀ p ∈ Ts, p.1 = P0 → p.2 = qL) :
    FnOk P w K mg base CX0 11 f fd ["_law_script"] (spLaw K Ts) := by
  refine DefAtC.fn F hc sc_law (fun vs H Q E h => ?_) (fun f A outer s H vs Q E hr h => ?_)
  · obtain ⟨_, _, rfl, _⟩ := h
    rfl
  · obtain ⟨a, ns, rfl, hs, hT, q⟩ := h
    have hr9 : Room 9 _ := hr.mono (by decide)
    have hr7 : Room 7 _ := hr.mono (by decide)
    have hr4 : Room 4 _ := hr.mono (by decide)
    have hr1 : Room 1 _ := hr.mono (by decide)
    refine ⟨_, pss_cons (ps_for PassesOwn.never rfl (pi_range1 (by rfl) T.b.range (pa_cons (pe_callB (call_max2 rfl) (by rfl) T.b.max (by decide +kernel) (pa_cons pe_int (pa_cons (pe_callB (call_min2 rfl) (by rfl) T.b.min (by decide +kernel) (pa_cons pe_int (pa_cons (pe_callB call_len_seq (by rfl) T.b.len PySem.boot_len (pa_cons (pv 0) pa_nil)) pa_nil))) pa_nil))) pa_nil)) (pg_name (i := 1) sc_law.nd rfl (.inl rfl))
        (pss_cons (ps_set (i := 2) sc_law.nd rfl (.inl rfl) (pe_cal (cal_dice T) hr1 (by rfl) pass0 (pa_cons (pv 0) (pa_cons (pv 1) pa_nil))))
        (pss_one (ps_if (PW.pt (pw_or (pt_not (pt_val (pe_cal CR' hr (by rfl) pass0 (pa_cons (pv 2) pa_nil)))) (pw_or1 (pt_not (pt_val (pe_cal CE hr (by rfl) pass0 (pa_cons (pv 2) pa_nil))))))) (pss_one (ps_ret pe_bl)) pss_nil))))
      (pss_cons (ps_set (i := 3) sc_law.nd rfl (.inl rfl) (pe_op op_catT (pe_op op_catT (pe_tup (pa_cons (pe_tup (pa_cons pe_str (pa_cons pe_int (pa_cons pe_int (pa_cons pe_str pa_nil))))) pa_nil)) (pe_op op_repT (pe_tup (pa_cons pe_int pa_nil)) pe_int)) (pe_tup (pa_cons (pe_tup (pa_cons pe_str (pa_cons pe_str pa_nil))) (pa_cons pe_int pa_nil)))))
      (pss_cons (ps_set (i := 4) sc_law.nd rfl (.inl rfl) (pe_cal (cal_assemble T TX) hr7 (by rfl) passL (pa_cons (pe_shape T hr4 (by rfl) (pa_cons pe_int (pa_cons pe_int pa_nil)) mono_cc) (pa_cons (pv 3) pa_nil))))
      (pss_cons (ps_if (pt_cmpR (op_neX (units65 hr)) (pe_tup (pa_cons (pe_callB call_len_seq (by rfl) T.b.len PySem.boot_len (pa_cons (pv 4) pa_nil)) (pa_cons (pe_slice sl_tup (pv 4) po_none (po_some pe_int)) (pa_cons (pe_cal (cal_label_places T) hr7 (by rfl) passL (pa_cons (pe_shape T hr4 (by rfl) (pa_cons pe_int (pa_cons pe_int pa_nil)) mono_cc) (pa_cons (pv 3) pa_nil))) pa_nil))))
          (pe_tup (pa_cons pe_int (pa_cons (pe_tup (pa_cons pe_int (pa_cons pe_int (pa_cons pe_int (pa_cons pe_int pa_nil))))) (pa_cons (pe_disp (pps_cons pe_str pe_int pps_nil) (by rfl) (by rfl) (fun z => by cases z) (by decide)) pa_nil)))) (nomark _)) (pss_one (ps_ret pe_bl)) pss_nil)
      (pss_cons (ps_if (pt_cmpR (op_neD hr.units) (pe_told (k := 7) TX Dt (T := Ts) (by rfl) TB rfl hmT hu hr9 (LamX.lamS_by (sc := defScope s_law) (by decide +kernel)) rfl (fun _ _ _ _ _ => rfl) (fun A outer s H E f c' hr' => pe_cal (cal_assemble T TX) hr' (by rfl) (passes_call (takes_of rfl rfl rfl rfl) (fun _ _ _ _ h => h)) (pa_cons (pe_shape T (hr'.mono (by decide)) (by rfl) (pa_cons pe_int (pa_cons pe_int pa_nil)) mono_cc) (pa_cons (pe_tup (pa_cons (pe_tup (pa_cons pe_str (pa_cons pe_str pa_nil))) pa_nil)) pa_nil))))
          (pe_tup (pa_cons pe_str (pa_cons (pe_tup (pa_cons pe_str pa_nil)) pa_nil))) (nomark _)) (pss_one (ps_ret pe_bl)) pss_nil)
      (pss_cons (ps_if (pt_cmpR (op_neD hr.units) (pe_told (k := 7) TX Dt (T := Ts) (by rfl) TB rfl hmT hu hr9 (LamX.lamS_by (sc := defScope s_law) (by decide +kernel)) rfl (fun _ _ _ _ _ => rfl) (fun A outer s H E f c' hr' => pe_cal (cal_assemble T TX) hr' (by rfl) (passes_call (takes_of rfl rfl rfl rfl) (fun _ _ _ _ h => h)) (pa_cons (pe_shape T (hr'.mono (by decide)) (by rfl) (pa_cons pe_int (pa_cons pe_int pa_nil)) mono_cc) (pa_cons (pe_op (r := rRepT K) op_repT (pe_tup (pa_cons pe_int pa_nil)) pe_int) pa_nil))))
          (pe_tup (pa_cons pe_str (pa_cons pe_str (pa_cons pe_int pa_nil)))) (nomark _)) (pss_one (ps_ret pe_bl)) pss_nil)
      (pss_cons (ps_if (pt_cmpR (op_neD hr.units) (pe_tup (pa_cons (pe_gl T.c_MOST_LINES (by rfl)) (pa_cons (pe_gl T.c_NEAR_LEAST (by rfl)) (pa_cons (pe_gl T.c_NEAR_MOST (by rfl)) (pa_cons (pe_gl T.c_FAR_SIZE (by rfl)) pa_nil))))) (pe_tup (pa_cons pe_int (pa_cons (pe_un un_neg pe_int) (pa_cons pe_int (pa_cons pe_int pa_nil))))) (nomark _)) (pss_one (ps_ret pe_bl)) pss_nil)
      (pss_one (ps_ret (pe_cmpR (op_eqD hr.units) (pe_cal (cal_assemble T TX) hr7 (by rfl) passL (pa_cons (pe_shape T hr4 (by rfl) (pa_cons pe_int (pa_cons pe_int pa_nil)) mono_cc) (pa_cons (pe_op op_repT (pe_tup (pa_cons pe_int pa_nil)) pe_int) pa_nil))) (pe_op op_repT (pe_tup (pa_cons pe_int pa_nil)) pe_int) (nomark _)))))))))), ?_⟩
    -- the turns
    refine ⟨_, rfl, a, _, rfl, .inl hs, 3, _, rfl, 1, _, rfl, _, rfl, ?_⟩
    have hj : ∃ n : Nat, (if (if (((ns.map V.int).length : Nat) : Int) < 3 then (((ns.map V.int).length : Nat) : Int) else 3) > 1 then (if (((ns.map V.int).length : Nat) : Int) < 3 then (((ns.map V.int).length : Nat) : Int) else 3) else 1) = (n : Int) ∧ n ≤ 3 := by
      refine ⟨((if (if (((ns.map V.int).length : Nat) : Int) < 3 then (((ns.map V.int).length : Nat) : Int) else 3) > 1 then (if (((ns.map V.int).length : Nat) : Int) < 3 then (((ns.map V.int).length : Nat) : Int) else 3) else 1 : Int)).toNat, ?_, ?_⟩
      · split <;> split <;> omega
      · split <;> split <;> omega
    obtain ⟨n, hj, hn3⟩ := hj
    refine ⟨by split <;> split <;> omega, by split <;> split <;> omega, ?_⟩
    rw [hj]
    refine for_range (lo := 0) (n := ((n : Nat) : Int).toNat) (fun i σ H' => ∃ y1 y2, σ = [some (.ref a), y1, y2, none, none] ∧ LamX.ExtN H H' ∧ LamX.Tabs Ts H') ⟨none, none, rfl, LamX.ExtN.refl H, hT⟩ (fun i σ H1 hi h => ?_) (fun σ H1 h => ?_)
    · obtain ⟨y1, y2, rfl, e1, t1⟩ := h
      refine ⟨_, rfl, _, rfl, a, ns, 0 + i, rfl, sqL_ext e1 hs, by omega, fun D H2 s2 nD hD => ?_⟩
      have T2 : LamX.Tabs Ts H2 := t1.ext s2
      refine ⟨_, rfl, D, rfl, hD, T2, fun H3 d3 => ⟨true, rfl, ?_⟩⟩
      refine ⟨_, rfl, D, rfl, d3.d, d3.t, fun H4 d4 => ⟨true, rfl, ?_⟩⟩
      have d24 := d3.trans d4
      exact ⟨_, _, rfl, e1.trans (ext_dice s2 nD d24), d24.t⟩
    obtain ⟨y1, y2, rfl, eN, T1⟩ := h
    -- lines
    refine ⟨by show 4 ≤ sizeLine; decide, fun b0 nb0 => ⟨by show 1 ≤ sizeLine; decide, fun b1 nb1 => ⟨by show 1 ≤ sizeLine; decide, fun z0 nz0 => ⟨z0, 32, _, rfl, rfl, sqT_at upd_same, by simp, by decide, by decide, by decide, fun z1 nz1 => ?_⟩⟩⟩⟩
    have q0 := same_upd (o := .tup [.str "same", .int 0, .int 0, .str "out"]) nb0
    have q1 := same_upd (o := .tup [.ref b0]) nb1
    have q2 := same_upd (o := .tup [.int 0]) nz0
    have q3 := same_upd (o := .tup (List.replicate (32 : Int).toNat [V.int 0]).flatten) nz1
    have hb0 := ((q1.trans q2).trans q3).sqT (K := K) (sqT_at (upd_same (H := H1) (a := b0) (o := .tup [.str "same", .int 0, .int 0, .str "out"])))
    have hb1 := (q2.trans q3).sqT (K := K) (sqT_at (upd_same (H := upd H1 b0 (.tup [.str "same", .int 0, .int 0, .str "out"])) (a := b1) (o := .tup [.ref b0])))
    have hz1 := sqT_at (K := K) (upd_same (H := upd (upd (upd H1 b0 (.tup [.str "same", .int 0, .int 0, .str "out"])) b1 (.tup [.ref b0])) z0 (.tup [.int 0])) (a := z1) (o := .tup (List.replicate (32 : Int).toNat [V.int 0]).flatten))
    have q03 := ((q0.trans q1).trans q2).trans q3
    generalize (upd (upd (upd (upd H1 b0 (.tup [.str "same", .int 0, .int 0, .str "out"])) b1 (.tup [.ref b0])) z0 (.tup [.int 0])) z1 (.tup (List.replicate (32 : Int).toNat [V.int 0]).flatten)) = H2 at q03 hb0 hb1 hz1 ⊢
    have e32 : (List.replicate (32 : Int).toNat [V.int 0]).flatten = List.replicate 32 (V.int 0) := rep_zero
    rw [e32] at hz1
    refine ⟨b1, z1, _, _, rfl, rfl, hb1, hz1, by simp, by rw [List.length_replicate]; exact Nat.le_of_lt (small1000 (show 1 + 32 ≤ 1000 by decide)), fun z => absurd z (by decide), fun _ m1 nm1 => ?_⟩
    have q4 := same_upd (o := .tup ([V.ref b0] ++ List.replicate 32 (V.int 0))) nm1
    refine ⟨by show 2 ≤ sizeLine; decide, fun l0 nl0 => ⟨by show 2 ≤ sizeLine; decide, fun l1 nl1 => ?_⟩⟩
    have q5 := same_upd (o := .tup [.str "label", .str "out"]) nl0
    have q6 := same_upd (o := .tup [.ref l0, .int 61440]) nl1
    refine ⟨m1, l1, _, _, rfl, rfl, (q5.trans q6).sqT (sqT_at upd_same), sqT_at upd_same, by simp, by rw [List.length_append, List.length_replicate]; exact Nat.le_of_lt (small1000 (show 1 + 32 + 2 ≤ 1000 by decide)), fun z => absurd z (by simp), fun _ t nt => ?_⟩
    have q7 := same_upd (o := .tup (([V.ref b0] ++ List.replicate 32 (V.int 0)) ++ [.ref l0, .int 61440])) nt
    have hb0t := (((q4.trans q5).trans q6).trans q7).sqT hb0
    have hl0t := (q6.trans q7).sqT (K := K) (sqT_at (upd_same (H := upd H2 m1 (.tup ([V.ref b0] ++ List.replicate 32 (V.int 0)))) (a := l0) (o := .tup [.str "label", .str "out"])))
    have ht := sqT_at (K := K) (upd_same (H := upd (upd (upd H2 m1 (.tup ([V.ref b0] ++ List.replicate 32 (V.int 0)))) l0 (.tup [.str "label", .str "out"])) l1 (.tup [.ref l0, .int 61440])) (a := t) (o := .tup (([V.ref b0] ++ List.replicate 32 (V.int 0)) ++ [.ref l0, .int 61440])))
    have q07 := (((q03.trans q4).trans q5).trans q6).trans q7
    generalize (upd (upd (upd (upd H2 m1 (.tup ([V.ref b0] ++ List.replicate 32 (V.int 0)))) l0 (.tup [.str "label", .str "out"])) l1 (.tup [.ref l0, .int 61440])) t (.tup (([V.ref b0] ++ List.replicate 32 (V.int 0)) ++ [.ref l0, .int 61440]))) = H3 at q07 hb0t hl0t ht ⊢
    have hgood : GoodL K H3 (.ref t) l35 := ⟨t, rfl, ⟨_, ht, ((LinesV.one (l := .br false 0 0 "out") ⟨b0, rfl, hb0t⟩).append (zs_lines 32)).append ((LinesV.one (l := .lab "out") ⟨l0, rfl, hl0t⟩).append (LinesV.one (l := .w 61440) rfl))⟩, by decide, by decide, l35_ok, l35_lo⟩
    have T3 : LamX.Tabs Ts H3 := T1.ext q07
    -- told_here
    refine ⟨8, 4, rfl, by decide, by decide, .inr (.inl rfl), fun sh H4 nsh s4 hsh => ⟨_, rfl, .ref sh, .ref t, rfl, .inr (.inr ⟨sh, 8, 4, l35, rfl, hsh, hgood.same s4, by decide, by decide, .inr (.inl rfl), fun g hg hgw => ?_⟩)⟩⟩
    have eg := l35_far hg hgw
    subst eg
    rw [l35_pos]
    refine ⟨fun c => absurd c (by decide +kernel), fun _ c => absurd c (by decide), fun _ _ th H5 s5 nth hth => ?_⟩
    rw [l35_prog] at hth
    have s35 := s4.trans s5
    have hgood5 := hgood.same s35
    -- the first test
    refine ⟨_, rfl, th, _, rfl, .inr (sqT_at hth), _, rfl, 4, rfl, th, _, rfl, sqT_at hth, by decide +kernel, fun sl nsl => ?_⟩
    have w1 := same_upd (o := .tup (cutV (([49154, 49155, 38436, 57536] ++ List.replicate 32 0 ++ [61440] : List Int).map V.int) none (some 4))) nsl
    have hsl := sqT_at (K := K) (upd_same (H := H5) (a := sl) (o := .tup (cutV (([49154, 49155, 38436, 57536] ++ List.replicate 32 0 ++ [61440] : List Int).map V.int) none (some 4))))
    have ecut : cutV (([49154, 49155, 38436, 57536] ++ List.replicate 32 0 ++ [61440] : List Int).map V.int) none (some 4) = [V.int 49154, .int 49155, .int 38436, .int 57536] := by
      rw [cut_take _ (by decide)]
      rfl
    refine ⟨8, 4, rfl, by decide, by decide, .inr (.inl rfl), fun sh2 H6 nsh2 s6 hsh2 => ⟨_, rfl, .ref sh2, .ref t, rfl, .inr (.inr ⟨sh2, 8, 4, l35, rfl, hsh2, hgood5.same (w1.trans s6), by rw [l35_labs]; decide, fun lp f2 ys H7 s7 nlp hLe2 hper hsrt hlp => ?_⟩)⟩⟩
    rw [l35_labs] at hper
    have eys : ys = (["out"] : List Str) := List.perm_singleton.mp hper
    subst eys
    have ef2 : pos l35 f2 (labIx l35 "out") = 36 := by
      rw [← l35_out]
      exact pos_congr (hLe2.same hg) _
    have elp : labTab l35 f2 ["out"] = [((Sum.inr "out" : Key), V.int 36)] := by
      show [((Sum.inr "out" : Key), natV (pos l35 f2 (labIx l35 "out")))] = _
      rw [ef2]
      rfl
    rw [elp] at hlp
    have w7 := (w1.trans s6).trans s7
    have hsl7 := (s6.trans s7).sqT hsl
    rw [ecut] at hsl7
    refine ⟨by show 3 ≤ sizeLine; decide, fun tp ntp => ⟨by show 4 ≤ sizeLine; decide, fun t4 nt4 => fun dp ndp => ⟨upd_same, [((Sum.inr "out" : Key), V.int 36)], rfl, by decide, by show 3 ≤ sizeLine; decide, fun rp nrp => ?_⟩⟩⟩
    rw [upd_upd] at nrp ⊢
    have v1 := same_upd (o := .tup [.int ((([49154, 49155, 38436, 57536] ++ List.replicate 32 0 ++ [61440] : List Int).map V.int).length : Nat), .ref sl, .ref lp]) ntp
    have v2 := same_upd (o := .tup [.int 49154, .int 49155, .int 38436, .int 57536]) nt4
    have v3 := same_upd (o := .dK (mergeK [] [((Sum.inr "out" : Key), V.int 36)])) ndp
    have v4 := same_upd (o := .tup [.int 37, .ref t4, .ref dp]) nrp
    have v14 := ((v1.trans v2).trans v3).trans v4
    have hlp8 := v14 _ _ hlp
    have ndl : lp ≠ dp := ne_of_none ((v1.trans v2) _ _ hlp) ndp
    have ints4 : ∀ {H'}, DpAll K H' [V.int 49154, .int 49155, .int 38436, .int 57536] [.int 49154, .int 49155, .int 38436, .int 57536] := fun {H'} => .cons (.int _) (.cons (.int _) (.cons (.int _) (.cons (.int _) .nil)))
    refine ⟨tp, rp, _, _, rfl, rfl, ((v2.trans v3).trans v4).sqT (sqT_at upd_same), sqT_at upd_same, .cons (.inl ⟨.int 37, .int 37, .int 37, by decide +kernel⟩) (.cons (.inl ⟨.tuple [.int 49154, .int 49155, .int 38436, .int 57536], .tup (v14.sqT hsl7) ints4, .tup ((v3.trans v4).sqT (sqT_at upd_same)) ints4, by decide +kernel⟩)
      (.cons (.inr ⟨lp, dp, _, _, rfl, rfl, ndl, hlp8, v4 _ _ upd_same, rfl, fun p hp => ?_⟩) .nil)), _, rfl, iteF ?_⟩
    · rw [List.mem_singleton] at hp
      subst hp
      exact ⟨rfl, rfl⟩
    have w8 := w7.trans v14
    generalize (upd (upd (upd (upd H7 tp (.tup [.int ((([49154, 49155, 38436, 57536] ++ List.replicate 32 0 ++ [61440] : List Int).map V.int).length : Nat), .ref sl, .ref lp])) t4 (.tup [.int 49154, .int 49155, .int 38436, .int 57536])) dp (.dK (mergeK [] [((Sum.inr "out" : Key), V.int 36)]))) rp (.tup [.int 37, .ref t4, .ref dp])) = H8 at w8 ⊢
    have T8 : LamX.Tabs Ts H8 := T3.ext (s35.trans w8)
    -- the second
    refine ⟨T8, fun H9 e9 T9 => ⟨4, 2, rfl, by decide, by decide, .inl rfl, fun sh3 H10 nsh3 s10 hsh3 => ⟨by show 2 ≤ sizeLine; decide, fun la nla => ⟨by show 1 ≤ sizeLine; decide, fun lb nlb => ?_⟩⟩⟩⟩
    have x1 := same_upd (o := .tup [.str "label", .str "a"]) nla
    have x2 := same_upd (o := .tup [.ref la]) nlb
    refine ⟨.ref sh3, .ref lb, rfl, .inr (.inr ⟨sh3, 4, 2, [.lab "a"], rfl, hsh3.same (x1.trans x2), ⟨lb, rfl, ⟨_, sqT_at upd_same, LinesV.one (l := .lab "a") ⟨la, rfl, x2.sqT (sqT_at upd_same)⟩⟩, by decide, by decide, by decide +kernel, by decide +kernel⟩, by decide, by decide, .inl rfl, fun f hf hw => ?_⟩)⟩
    have ef := l1_far hf
    subst ef
    have ep : pos [Line.lab "a"] [] [Line.lab "a"].length = 0 := by decide +kernel
    rw [ep]
    refine ⟨fun c => absurd c (by decide +kernel), fun _ _ u d H11 s11 nd hd hu' => .inr ⟨d, _, rfl, rfl, hd, fun p np => ?_⟩, fun _ c => absurd rfl c⟩
    have y1 := same_upd (o := .tup [.str "refused", .ref u]) np
    refine ⟨by show 1 ≤ sizeLine; decide, fun em nem => ⟨by show 2 ≤ sizeLine; decide, fun r nr => ?_⟩⟩
    have y2 := same_upd (o := .tup [.str "empty"]) nem
    have y3 := same_upd (o := .tup [.str "refused", .ref em]) nr
    have sh5 : SeqAt.shaped (.tuple [.str "refused", .tuple [.str "empty"]]) = true := by decide +kernel
    refine ⟨_, _, .tup ((y2.trans y3).sqT (sqT_at upd_same)) (.cons (.str _) (.cons (.tup (((y1.trans y2).trans y3).sqT hu') (.cons (.str _) .nil)) .nil)), .tup (sqT_at upd_same) (.cons (.str _) (.cons (.tup (y3.sqT (sqT_at upd_same)) (.cons (.str _) .nil)) .nil)), sh5, sh5, false, ?_, iteF ?_⟩
    · rw [eqv_self _ (SeqAt.canLay_of_shaped sh5)]
      rfl
    have T12 : LamX.Tabs Ts (upd (upd (upd H11 p (.tup [.str "refused", .ref u])) em (.tup [.str "empty"])) r (.tup [.str "refused", .ref em])) := T9.ext ((((s10.trans (x1.trans x2)).trans s11)).trans ((y1.trans y2).trans y3))
    generalize (upd (upd (upd H11 p (.tup [.str "refused", .ref u])) em (.tup [.str "empty"])) r (.tup [.str "refused", .ref em])) = H12 at T12 ⊢
    -- the third
    refine ⟨T12, fun H13 e13 T13 => ⟨16, 2, rfl, by decide, by decide, .inl rfl, fun sh4 H14 nsh4 s14 hsh4 => ⟨by show 1 ≤ sizeLine; decide, fun za nza => ⟨za, 256, _, rfl, rfl, sqT_at upd_same, by simp, by decide, by decide, by decide, fun zb nzb => ?_⟩⟩⟩⟩
    have x3 := same_upd (o := .tup [.int 0]) nza
    have x4 := same_upd (o := .tup (List.replicate (256 : Int).toNat [V.int 0]).flatten) nzb
    have e256 : (List.replicate (256 : Int).toNat [V.int 0]).flatten = List.replicate 256 (V.int 0) := rep_zero
    refine ⟨.ref sh4, .ref zb, rfl, .inr (.inr ⟨sh4, 16, 2, zs 256, rfl, hsh4.same (x3.trans x4), zs_good (n := 256) (sqT_at (by rw [upd_same, e256])) (by decide) (by decide), zs_many (by decide) (by decide) (.inl rfl) (by decide +kernel) fun d H15 s15 nd hd => .inl ⟨d, _, rfl, rfl, hd, fun p2 np2 => ?_⟩⟩)⟩
    have y4 := same_upd (o := .tup [.str "refused", .str "many", .int (mostOf 16)]) np2
    refine ⟨by show 3 ≤ sizeLine; decide, fun r2 nr2 => ?_⟩
    have y5 := same_upd (o := .tup [.str "refused", .str "many", .int 255]) nr2
    have em16 : mostOf 16 = 255 := by decide +kernel
    have sh6 : SeqAt.shaped (.tuple [.str "refused", .str "many", .int 255]) = true := by decide +kernel
    refine ⟨.tuple [.str "refused", .str "many", .int 255], _, .tup (y5.sqT (sqT_at upd_same)) (.cons (.str _) (.cons (.str _) (.cons (by rw [em16]; exact .int 255) .nil))), .tup (sqT_at upd_same) (.cons (.str _) (.cons (.str _) (.cons (.int _) .nil))), sh6, sh6, false, ?_, iteF ?_⟩
    · rw [eqv_self _ (SeqAt.canLay_of_shaped sh6)]
      rfl
    generalize (upd (upd H15 p2 (.tup [.str "refused", .str "many", .int (mostOf 16)])) r2 (.tup [.str "refused", .str "many", .int 255])) = H16
    -- the fourth
    refine ⟨by show 4 ≤ sizeLine; decide, fun ca nca => ⟨32, rfl, by show 4 ≤ sizeLine; decide, fun cb ncb => ?_⟩⟩
    have y6 := same_upd (o := .tup [.int 256, .int (-32), .int 31, .int 4]) nca
    have y7 := same_upd (o := .tup [.int 256, .int (-32), .int 31, .int 4]) ncb
    have sh7 : SeqAt.shaped (.tuple [.int 256, .int (-32), .int 31, .int 4]) = true := by decide +kernel
    have d4 : ∀ {H'}, DpAll K H' [V.int 256, .int (-32), .int 31, .int 4] [.int 256, .int (-32), .int 31, .int 4] := fun {H'} => .cons (.int _) (.cons (.int _) (.cons (.int _) (.cons (.int _) .nil)))
    refine ⟨_, _, .tup (y7.sqT (sqT_at upd_same)) d4, .tup (sqT_at upd_same) d4, sh7, sh7, false, ?_, iteF ?_⟩
    · rw [eqv_self _ (SeqAt.canLay_of_shaped sh7)]
      rfl
    -- the last
    refine ⟨4, 2, rfl, by decide, by decide, .inl rfl, fun sh8 H17 nsh8 s17 hsh8 => ⟨by show 1 ≤ sizeLine; decide, fun zc nzc => ⟨zc, 15, _, rfl, rfl, sqT_at upd_same, by simp, by decide, by decide, by decide, fun zd nzd => ?_⟩⟩⟩
    have x5 := same_upd (o := .tup [.int 0]) nzc
    have x6 := same_upd (o := .tup (List.replicate (15 : Int).toNat [V.int 0]).flatten) nzd
    have e15 : (List.replicate (15 : Int).toNat [V.int 0]).flatten = List.replicate 15 (V.int 0) := rep_zero
    refine ⟨.ref sh8, .ref zd, rfl, .inr (.inr ⟨sh8, 4, 2, zs 15, rfl, hsh8.same (x5.trans x6), zs_good (n := 15) (sqT_at (by rw [upd_same, e15])) (by decide) (by decide), zs_asm (by decide) (by decide) (.inl rfl) (by decide) (by decide +kernel) fun r3 H18 s18 nr3 hr3 => ?_⟩)⟩
    refine ⟨by show 1 ≤ sizeLine; decide, fun ze nze => ⟨ze, 15, _, rfl, rfl, sqT_at upd_same, by simp, by decide, by decide, by decide, fun zf nzf => ?_⟩⟩
    have x7 := same_upd (o := .tup [.int 0]) nze
    have x8 := same_upd (o := .tup (List.replicate (15 : Int).toNat [V.int 0]).flatten) nzf
    refine ⟨_, _, .tup ((x7.trans x8).sqT (sqT_at hr3)) (dp_zs 15), .tup (sqT_at (by rw [upd_same, e15])) (dp_zs 15), shaped_zs 15, shaped_zs 15, ?_⟩
    rw [eqv_self _ (SeqAt.canLay_of_shaped (shaped_zs 15))]
    exact q _
end
end K80
set_option Elab.async false
set_option linter.all false
set_option maxRecDepth 100000
set_option maxHeartbeats 4000000
/-! The head: my Hook: the kit's facts, more roots, defs with a class cell. -/
namespace K80
open PySem PySem.Spec PyProof.Rows L2
/-- what is looked at: what the module's names reach, and the statics -/
def rootsY (n : Nat) (g : Addr → Option Obj) : List Addr := He.asD g n ++ [cStatics]
abbrev frY (n : Nat) (g : Addr → Option Obj) : PySem.W.Frag := He.frT g (rootsY n g)
abbrev FnE : Type := Option (Str × Str × Arguments × FuncBody × Scope × Addr × Addr)
/-- a def whose closure is looked at apart -/
structure CelD where
  at_ : Str × Option Str
  name : Str
  qual : Str
  params : Arguments
  body : List Stmt
  scope : Scope
def CelD.val (d : CelD) : FnE := some (d.name, d.qual, d.params, .stmts d.body, d.scope, mainGlobals, builtinsNs)
def celO (K : PySem.W.Frag) (p : Str × Option Str) : FnE := match K.lookup (He.fAd K p) with
  | some ⟨_, _, .func fd, _⟩ => some (fd.name, fd.qualname, fd.params, fd.body, fd.scope, fd.globals, fd.builtins)
  | _ => none
/-- its closure is the cell of the class C; its code is a record of the file -/
def celB (K : PySem.W.Frag) (file0 : Str) (C : Addr) (d : CelD) : Bool := match K.lookup (He.fAd K d.at_) with
  | some ⟨_, _, .func fd, _⟩ => (match fd.closure, fd.defaults, fd.kwdefaults, fd.code with
    | [(nm, cc)], .none, .none, .ref cda => decide (nm = ("__class__" : Str)) && ((match K.lookup cc with
      | some ⟨_, _, .cell (some (.ref a)), _⟩ => decide (a = C)
      | _ => false) && (PySem.W.codeIn K (.ref cda) d.qual && (match K.lookup cda with
      | some ⟨_, _, .fields vs, _⟩ => (match (vs[2]? : Option Value) with
        | some (.str file _) => file0 == file
        | _ => false)
      | _ => false)))
    | _, _, _, _ => false)
  | _ => false
theorem cel_ok {K : PySem.W.Frag} {file0 : Str} {C : Addr} {d : CelD} (e : celO K d.at_ = d.val) (h : celB K file0 C d = true) :
    ∃ (oc ccl cl : Value) (od an cdd cld : Option Addr) (doc pm ct : Value) (cda cc : Addr) (osl ccs csl : Array (Option Value)) (vs : Array Value) (file : Str) (tf : Tok),
      K.lookup (He.fAd K d.at_) = some ⟨oc, od, .func (PySem.W.ksFn d.name d.qual d.params d.body d.scope .none .none doc pm an (.ref cda) ct cc), osl⟩ ∧ PySem.W.codeIn K (.ref cda) d.qual = true ∧
      K.lookup cda = some ⟨ccl, cdd, .fields vs, ccs⟩ ∧ vs[2]? = some (.str file tf) ∧ (file0 == file) = true ∧ K.lookup cc = some ⟨cl, cld, .cell (some (.ref C)), csl⟩ := by
  unfold celO at e
  unfold celB at h
  cases q : K.lookup (He.fAd K d.at_) with
  | none =>
    rw [q] at h
    cases h
  | some o =>
    obtain ⟨oc, od, dt, osl⟩ := o
    rw [q] at h e
    cases dt with
    | func fd =>
      obtain ⟨n1, n2, n3, n4, n5, n6, n7, n8, n9, n10, n11, n12, n13, n14, n15⟩ := fd
      have e2 : (some (n1, n2, n3, n4, n5, n6, n15) : FnE) = some (d.name, d.qual, d.params, .stmts d.body, d.scope, mainGlobals, builtinsNs) := e
      simp only [Option.some.injEq, Prod.mk.injEq] at e2
      obtain ⟨h1, h2, h3, h4, h5, h6, h7⟩ := e2
      subst h1 h2 h3 h4 h5 h6 h7
      dsimp only at h
      split at h
      · rename_i nm cc cda
        obtain ⟨g1, h⟩ := He.ba h
        obtain ⟨g2, h⟩ := He.ba h
        obtain ⟨g3, g4⟩ := He.ba h
        have en := of_decide_eq_true g1
        subst en
        cases q2 : K.lookup cc with
        | none =>
          rw [q2] at g2
          cases g2
        | some o2 =>
          obtain ⟨cl, cld, cdt, csl⟩ := o2
          rw [q2] at g2
          cases q3 : K.lookup cda with
          | none =>
            rw [q3] at g4
            cases g4
          | some o3 =>
            obtain ⟨ccl, cdd, vdt, ccs⟩ := o3
            rw [q3] at g4
            cases vdt with
            | fields vs =>
              dsimp only at g4
              cases q4 : vs[2]? with
              | none =>
                rw [q4] at g4
                cases g4
              | some v =>
                rw [q4] at g4
                cases v with
                | str file tf =>
                  cases cdt with
                  | cell u =>
                    cases u with
                    | none => cases g2
                    | some u =>
                      cases u with
                      | ref a =>
                        have ea : a = C := of_decide_eq_true g2
                        subst ea
                        exact ⟨oc, ccl, cl, od, n12, cdd, cld, n10, n11, n14, cda, cc, osl, ccs, csl, vs, file, tf, rfl, g3, q3, q4, g4, q2⟩
                      | _ => cases g2
                  | _ => cases g2
                | _ => cases g4
            | _ => cases g4
      · cases h
    | _ => cases h
abbrev AlY : Type := He.AlX × List FnE
def obsY (n : Nat) (fa : List He.Fa) (fn : List He.DefD) (tf : List He.Defn) (ex : PySem.W.Frag → Bool) (cs : List CelD) (g : Addr → Option Obj) : AlY :=
  ((He.obsT fa fn [] (frY n g), ex (frY n g) && He.tabsB g tf (frY n g)), cs.map fun d => celO (frY n g) d.at_)
def valY (fn : List He.DefD) (cs : List CelD) (w : World) : AlY := (He.valX fn [] w, cs.map CelD.val)
structure SaysY (fa : List He.Fa) (fn : List He.DefD) (tf : List He.Defn) (ex : PySem.W.Frag → Bool) (cs : List CelD) (w : World) (h : Heap) (K : PySem.W.Frag) : Prop where
  x : He.SaysX fa fn [] tf ex w h K
  c : cs.map (fun d => celO K d.at_) = cs.map CelD.val
theorem saysY_of {n : Nat} {fa : List He.Fa} {fn : List He.DefD} {tf : List He.Defn} {ex : PySem.W.Frag → Bool} {cs : List CelD} {w : World} {h : Heap} (e : obsY n fa fn tf ex cs h.get? = valY fn cs w) : SaysY fa fn tf ex cs w h (frY n h.get?) := by
  have e1 : He.obsT fa fn [] (frY n h.get?) = He.valT fn [] w := congrArg (fun z : AlY => z.1.1) e
  have e2 : (ex (frY n h.get?) && He.tabsB h.get? tf (frY n h.get?)) = true := congrArg (fun z : AlY => z.1.2) e
  have e3 : cs.map (fun d => celO (frY n h.get?) d.at_) = cs.map CelD.val := congrArg (fun z : AlY => z.2) e
  obtain ⟨h1, h2⟩ := He.ba e2
  have key : ∀ p ∈ tf, PySem.W.codeHdIn (frY n h.get?) (He.cT (frY n h.get?) p).1 (He.cT (frY n h.get?) p).2 = true ∧ ∃ o, h.get? (He.cT (frY n h.get?) p).2 = some o ∧ He.emptyTab o = true := fun p hp => by
    obtain ⟨h3, h4⟩ := He.ba (List.all_eq_true.mp h2 p hp)
    refine ⟨h3, ?_⟩
    cases q : h.get? (He.cT (frY n h.get?) p).2 with
    | none =>
      rw [q] at h4
      cases h4
    | some o =>
      rw [q] at h4
      exact ⟨o, rfl, h4⟩
  refine ⟨⟨e1, h1, fun p hp => (key p hp).1, fun p hp => ?_, fun p hp => ?_⟩, e3⟩
  · obtain ⟨_, o, q, z⟩ := key p hp
    exact He.frT_none q z
  · obtain ⟨_, o, q, z⟩ := key p hp
    rw [q, He.emptyTab_eq z]
def hookY (n : Nat) (fa : List He.Fa) (fn : List He.DefD) (tf : List He.Defn) (ex : PySem.W.Frag → Bool) (cs : List CelD) : PySem.W.Hook where
  α := AlY
  obs := fun s => obsY n fa fn tf ex cs s.heap.get?
  val := fun w => valY fn cs w
  says := fun w h => ∃ K : PySem.W.Frag, K.In h ∧ SaysY fa fn tf ex cs w h K
  of := fun _ _ e => ⟨_, He.frT_in, saysY_of e⟩
  keeps := fun _ _ _ ⟨K, hK, c⟩ k => ⟨K, PySem.W.Frag.In.keeps hK k, ⟨⟨c.x.t, c.x.more, c.x.hd, c.x.out, fun p hp => k _ _ (c.x.empty p hp)⟩, c.c⟩⟩
theorem obsY_eq {n : Nat} {fa : List He.Fa} {fn : List He.DefD} {tf : List He.Defn} {ex : PySem.W.Frag → Bool} {cs : List CelD} {g : Addr → Option Obj} {s : Shared} (h : ∀ a, g a = s.heap.get? a) : obsY n fa fn tf ex cs g = (hookY n fa fn tf ex cs).obs s := by
  have e : g = s.heap.get? := funext h
  rw [e] <;> rfl
/-- the i-th of the checks -/
theorem chk {l : List Bool} (h : l.all (fun b => b) = true) (i : Nat) {b : Bool} (e : l[i]? = some b) : b = true := List.all_eq_true.mp h b (List.mem_of_getElem? e)
end K80
set_option Elab.async false
set_option linter.all false
set_option maxRecDepth 100000
set_option maxHeartbeats 4000000
/-! The head's data. Printed by gen_head.py. -/
namespace K80
open PySem PySem.Spec PyProof.Rows L2
abbrev gaS (K : PySem.W.Frag) : Addr := He.ga K "Shape"
abbrev gaI (K : PySem.W.Frag) : Addr := He.ga K "InvalidShape"
abbrev gaL (K : PySem.W.Frag) : Addr := He.ga K "InvalidLines"
abbrev gaM (K : PySem.W.Frag) : Addr := He.ga K "TooMany"
abbrev gaR (K : PySem.W.Frag) : Addr := He.ga K "Refused"
def tfR : He.Defn := ("_law_right", none)
def tfE : He.Defn := ("_law_errors_right", none)
def tfL : He.Defn := ("law", none)
def tfs : List He.Defn := [tfR, tfE, tfL]
def ceM : CelD := ⟨("TooMany", some "__init__"), "__init__", "TooMany.__init__", xA "limit" psM, xB "limit" psM, xS "limit"⟩
def ceR : CelD := ⟨("Refused", some "__init__"), "__init__", "Refused.__init__", xA "reason" psR, xB "reason" psR, xS "reason"⟩
def ces : List CelD := [ceM, ceR]
def fas : List He.Fa := [.glo "is_integer",
  .glo "is_within",
  .glo "is_step_word",
  .glo "require_shape",
  .glo "is_name",
  .glo "is_line",
  .glo "is_label",
  .glo "is_branch",
  .glo "require_lines",
  .glo "line_places",
  .glo "label_table",
  .glo "not_reaching",
  .glo "least_lot",
  .glo "words_of_line",
  .glo "require_assembly",
  .glo "far_lot",
  .glo "assemble",
  .glo "label_places",
  .glo "_law_dice",
  .glo "_law_roll",
  .glo "_law_one_of",
  .glo "_law_two_to",
  .glo "_law_step_word",
  .glo "_law_step_drawn",
  .glo "_law_shuffled",
  .glo "_law_lines_drawn",
  .glo "_law_branches",
  .glo "_law_places",
  .glo "_law_label_table",
  .glo "_law_least",
  .glo "_law_program",
  .glo "_law_with_places",
  .glo "_law_told",
  .glo "_law_right",
  .glo "_law_heard",
  .glo "_law_errors_right",
  .glo "law",
  .glo "Shape",
  .glo "TooMany",
  .glo "Refused",
  .glo "InvalidShape",
  .glo "InvalidLines",
  .glo "REGISTER_NUMBERS",
  .glo "BRANCHES",
  .glo "BRANCH_OPS",
  .free "isinstance",
  .free "int",
  .free "bool",
  .free "str",
  .free "tuple",
  .free "list",
  .free "set",
  .free "len",
  .free "all",
  .free "enumerate",
  .free "sorted",
  .free "min",
  .free "max",
  .free "abs",
  .free "range",
  .free "super",
  .int "NO_WORD" 65535,
  .int "LEAST_WIDTH" 4,
  .int "MOST_WIDTH" 16,
  .int "OP_SET" 9,
  .int "OP_SAME" 12,
  .int "OP_JUMP" 14,
  .int "MOST_LINES" 256,
  .int "NEAR_LEAST" (-32),
  .int "NEAR_MOST" 31,
  .int "FAR_SIZE" 4,
  .int "MOST_PLACE" 255,
  .int "MOST_SIGNS" 8,
  .int "MOST_REGISTER" 7,
  .int "LABEL_SIZE" 2,
  .int "PLACE_SIZE" 3,
  .int "BRANCH_SIZE" 4,
  .str "LETTERS" "abcdefghijklmnopqrstuvwxyz",
  .str "LABEL" "label",
  .str "PLACE" "place",
  .exc "InvalidShape",
  .exc "InvalidLines",
  .mkr "Shape"]
def fns : List He.DefD := [⟨("is_integer", none), "is_integer", "is_integer", defArgs s_is_integer, defBody s_is_integer, defScope s_is_integer, [], []⟩,
  ⟨("is_within", none), "is_within", "is_within", defArgs s_is_within, defBody s_is_within, defScope s_is_within, [], []⟩,
  ⟨("is_step_word", none), "is_step_word", "is_step_word", defArgs s_is_step_word, defBody s_is_step_word, defScope s_is_step_word, [], []⟩,
  ⟨("require_shape", none), "require_shape", "require_shape", defArgs s_require_shape, defBody s_require_shape, defScope s_require_shape, [], []⟩,
  ⟨("is_name", none), "is_name", "is_name", defArgs s_is_name, defBody s_is_name, defScope s_is_name, [], []⟩,
  ⟨("is_line", none), "is_line", "is_line", defArgs s_is_line, defBody s_is_line, defScope s_is_line, [], []⟩,
  ⟨("is_label", none), "is_label", "is_label", defArgs s_is_label, defBody s_is_label, defScope s_is_label, [], []⟩,
  ⟨("is_branch", none), "is_branch", "is_branch", defArgs s_is_branch, defBody s_is_branch, defScope s_is_branch, [], []⟩,
  ⟨("require_lines", none), "require_lines", "require_lines", defArgs s_require_lines, defBody s_require_lines, defScope s_require_lines, [], []⟩,
  ⟨("line_places", none), "line_places", "line_places", defArgs s_line_places, defBody s_line_places, defScope s_line_places, [], []⟩,
  ⟨("label_table", none), "label_table", "label_table", defArgs s_label_table, defBody s_label_table, defScope s_label_table, [], []⟩,
  ⟨("not_reaching", none), "not_reaching", "not_reaching", defArgs s_not_reaching, defBody s_not_reaching, defScope s_not_reaching, [], []⟩,
  ⟨("least_lot", none), "least_lot", "least_lot", defArgs s_least_lot, defBody s_least_lot, defScope s_least_lot, [], []⟩,
  ⟨("words_of_line", none), "words_of_line", "words_of_line", defArgs s_words_of_line, defBody s_words_of_line, defScope s_words_of_line, [], []⟩,
  ⟨("require_assembly", none), "require_assembly", "require_assembly", defArgs s_require_assembly, defBody s_require_assembly, defScope s_require_assembly, [], []⟩,
  ⟨("far_lot", none), "far_lot", "far_lot", defArgs s_far_lot, defBody s_far_lot, defScope s_far_lot, [], []⟩,
  ⟨("assemble", none), "assemble", "assemble", defArgs s_assemble, defBody s_assemble, defScope s_assemble, [], []⟩,
  ⟨("label_places", none), "label_places", "label_places", defArgs s_label_places, defBody s_label_places, defScope s_label_places, [], []⟩,
  ⟨("_law_dice", none), "_law_dice", "_law_dice", defArgs s_Ldice, defBody s_Ldice, defScope s_Ldice, [], []⟩,
  ⟨("_law_roll", none), "_law_roll", "_law_roll", defArgs s_Lroll, defBody s_Lroll, defScope s_Lroll, [], []⟩,
  ⟨("_law_one_of", none), "_law_one_of", "_law_one_of", defArgs s_Lone_of, defBody s_Lone_of, defScope s_Lone_of, [], []⟩,
  ⟨("_law_two_to", none), "_law_two_to", "_law_two_to", defArgs s_Ltwo_to, defBody s_Ltwo_to, defScope s_Ltwo_to, [], []⟩,
  ⟨("_law_step_word", none), "_law_step_word", "_law_step_word", defArgs s_Lstep_word, defBody s_Lstep_word, defScope s_Lstep_word, [], []⟩,
  ⟨("_law_step_drawn", none), "_law_step_drawn", "_law_step_drawn", defArgs s_Lstep_drawn, defBody s_Lstep_drawn, defScope s_Lstep_drawn, [], []⟩,
  ⟨("_law_shuffled", none), "_law_shuffled", "_law_shuffled", defArgs s_Lshuffled, defBody s_Lshuffled, defScope s_Lshuffled, [], []⟩,
  ⟨("_law_lines_drawn", none), "_law_lines_drawn", "_law_lines_drawn", defArgs s_Llines_drawn, defBody s_Llines_drawn, defScope s_Llines_drawn, [], []⟩,
  ⟨("_law_branches", none), "_law_branches", "_law_branches", defArgs s_Lbranches, defBody s_Lbranches, defScope s_Lbranches, [], []⟩,
  ⟨("_law_places", none), "_law_places", "_law_places", defArgs s_Lplaces, defBody s_Lplaces, defScope s_Lplaces, [], []⟩,
  ⟨("_law_label_table", none), "_law_label_table", "_law_label_table", defArgs s_Llabel_table, defBody s_Llabel_table, defScope s_Llabel_table, [], []⟩,
  ⟨("_law_least", none), "_law_least", "_law_least", defArgs s_Lleast, defBody s_Lleast, defScope s_Lleast, [], []⟩,
  ⟨("_law_program", none), "_law_program", "_law_program", defArgs s_Lprogram, defBody s_Lprogram, defScope s_Lprogram, [], []⟩,
  ⟨("_law_with_places", none), "_law_with_places", "_law_with_places", defArgs s_Lwith_places, defBody s_Lwith_places, defScope s_Lwith_places, [], []⟩,
  ⟨("_law_told", none), "_law_told", "_law_told", defArgs s_Ltold, defBody s_Ltold, defScope s_Ltold, [], []⟩,
  ⟨("_law_right", none), "_law_right", "_law_right", defArgs s_Lright, defBody s_Lright, defScope s_Lright, [], []⟩,
  ⟨("_law_heard", none), "_law_heard", "_law_heard", defArgs s_Lheard, defBody s_Lheard, defScope s_Lheard, [], []⟩,
  ⟨("_law_errors_right", none), "_law_errors_right", "_law_errors_right", defArgs s_Lerrors_right, defBody s_Lerrors_right, defScope s_Lerrors_right, [], []⟩,
  ⟨("law", none), "law", "law", defArgs s_law, defBody s_law, defScope s_law, [], []⟩,
  ⟨("Shape", some "__init__"), "__init__", "Shape.__init__", defArgs s_Shape_init, defBody s_Shape_init, defScope s_Shape_init, [], []⟩]
def exs (K : PySem.W.Frag) : List Bool := [PySem.W.plainGet K (gaS K) Str.empty,
  PySem.W.isClsIn K (gaS K),
  PySem.W.plainOver K (gaS K),
  He.eqO (PySem.W.findIn K (.ref (gaS K)) "__setattr__") (some (some (.builtin "object.__setattr__"))),
  He.eqO (PySem.W.findIn K (.ref (gaS K)) "__class__") (some (some (.builtin "object.__class__"))),
  He.eqO (PySem.W.specialIn K (.builtin "object.__class__") "__get__") (some (some (.builtin "getset_descriptor.__get__"))),
  decide (PySem.W.takesIn K (.builtin "object.__class__") = some true),
  decide (PySem.W.mroIn K (gaS K) (.type "object") = some true),
  decide (PySem.W.kitOne K (.ref (gaS K)) (.ref (gaS K)) = some true),
  decide (PySem.W.kitOne K (.type "NoneType") (.ref (gaS K)) = some false),
  decide (PySem.W.kitOne K (.type "int") (.ref (gaS K)) = some false),
  decide (PySem.W.kitOne K (.type "str") (.ref (gaS K)) = some false),
  decide (PySem.W.kitOne K (.type "tuple") (.ref (gaS K)) = some false),
  He.eqO (PySem.W.findIn K (.ref (gaS K)) "own_registers") (some (some (.ref (He.ma K (gaS K) "own_registers")))),
  He.eqO (PySem.W.specialIn K (.ref (He.ma K (gaS K) "own_registers")) "__get__") (some (some (.builtin "member_descriptor.__get__"))),
  decide (PySem.W.takesIn K (.ref (He.ma K (gaS K) "own_registers")) = some true),
  decide (PySem.W.typeIn K (.ref (He.ma K (gaS K) "own_registers")) = some (.type "member_descriptor")),
  decide (PySem.W.slotIn K (He.ma K (gaS K) "own_registers") (gaS K) = some 0),
  He.eqO (PySem.W.findIn K (.ref (gaS K)) "own_width") (some (some (.ref (He.ma K (gaS K) "own_width")))),
  He.eqO (PySem.W.specialIn K (.ref (He.ma K (gaS K) "own_width")) "__get__") (some (some (.builtin "member_descriptor.__get__"))),
  decide (PySem.W.takesIn K (.ref (He.ma K (gaS K) "own_width")) = some true),
  decide (PySem.W.typeIn K (.ref (He.ma K (gaS K) "own_width")) = some (.type "member_descriptor")),
  decide (PySem.W.slotIn K (He.ma K (gaS K) "own_width") (gaS K) = some 1),
  He.tupB K "REGISTER_NUMBERS" [.int 2, .int 4, .int 8],
  He.tupB K "BRANCHES" [.str "same", .str "under"],
  He.tupB K "BRANCH_OPS" [.int 12, .int 13],
  (match K.lookup (He.ga K "BRANCHES") with | some ⟨.type c, none, _, _⟩ => decide (c = "tuple") | _ => false),
  PySem.W.keepIn K (.ref (gaM K)),
  PySem.W.excInitIn K (gaM K) bmOv "OverflowError.__new__",
  PySem.W.excOver K (gaM K) bmOv,
  He.eqO (PySem.W.findIn K (.ref (gaM K)) "__setattr__") (some (some (.builtin "object.__setattr__"))),
  He.eqO (PySem.W.takerIn K (gaM K) "limit") (some none),
  PySem.W.hasDictIn K (gaM K),
  He.eqO (PySem.W.findIn K (.ref (gaM K)) "__init__") (some (some (.ref (He.ma K (gaM K) "__init__")))),
  PySem.W.isFn K (.ref (He.ma K (gaM K) "__init__")),
  decide (PySem.W.subIn K (.ref (gaM K)) (.type "BaseException") = some true),
  decide (PySem.W.typeIn K (.ref (gaM K)) = some (.type "type")),
  decide (PySem.W.subIn K (.ref (gaM K)) (.type "OverflowError") = some true),
  decide (PySem.W.mroIn K (gaM K) (.ref (gaM K)) = some true),
  He.eqO (PySem.W.ks_superIn K (gaM K) (gaM K) "__init__") (some (some (.builtin "OverflowError.__init__"))),
  celB K PySem.Challenge.rw_truebeat_k80_whole_assembled_programs.prog.main.file (gaM K) ceM,
  xfB K (gaM K),
  He.eqO (PySem.W.findIn K (.ref (gaM K)) "limit") (some none),
  PySem.W.keepIn K (.ref (gaR K)),
  PySem.W.excInitIn K (gaR K) bmAr "ArithmeticError.__new__",
  PySem.W.excOver K (gaR K) bmAr,
  He.eqO (PySem.W.findIn K (.ref (gaR K)) "__setattr__") (some (some (.builtin "object.__setattr__"))),
  He.eqO (PySem.W.takerIn K (gaR K) "reason") (some none),
  PySem.W.hasDictIn K (gaR K),
  He.eqO (PySem.W.findIn K (.ref (gaR K)) "__init__") (some (some (.ref (He.ma K (gaR K) "__init__")))),
  PySem.W.isFn K (.ref (He.ma K (gaR K) "__init__")),
  decide (PySem.W.subIn K (.ref (gaR K)) (.type "BaseException") = some true),
  decide (PySem.W.typeIn K (.ref (gaR K)) = some (.type "type")),
  decide (PySem.W.subIn K (.ref (gaR K)) (.type "ArithmeticError") = some true),
  decide (PySem.W.mroIn K (gaR K) (.ref (gaR K)) = some true),
  He.eqO (PySem.W.ks_superIn K (gaR K) (gaR K) "__init__") (some (some (.builtin "ArithmeticError.__init__"))),
  celB K PySem.Challenge.rw_truebeat_k80_whole_assembled_programs.prog.main.file (gaR K) ceR,
  xfB K (gaR K),
  He.eqO (PySem.W.findIn K (.ref (gaR K)) "reason") (some none),
  He.eqO (PySem.W.nsIn K mainGlobals "super") (some none),
  He.eqO (PySem.W.nsIn K cStatics "thirdparty.any") (some none),
  decide (PySem.W.exmOne K (.ref (gaM K)) (.ref (gaM K)) = some true),
  decide (PySem.W.exmOne K (.ref (gaR K)) (.ref (gaM K)) = some false),
  decide (PySem.W.exmOne K (.ref (gaR K)) (.ref (gaR K)) = some true),
  decide (PySem.W.exmOne K (.ref (gaI K)) (.ref (gaI K)) = some true),
  decide (PySem.W.exmOne K (.ref (gaL K)) (.ref (gaI K)) = some false),
  decide (PySem.W.exmOne K (.ref (gaL K)) (.ref (gaL K)) = some true),
  decide ((He.cT K tfR).2 ≠ (He.cT K tfE).2),
  decide ((He.cT K tfR).2 ≠ (He.cT K tfL).2),
  decide ((He.cT K tfE).2 ≠ (He.cT K tfL).2)]
def ex (K : PySem.W.Frag) : Bool := (exs K).all fun b => b
end K80
set_option Elab.async false
set_option linter.all false
set_option maxRecDepth 100000
set_option maxHeartbeats 0
/-! The head's run. -/
namespace K80
open PySem PySem.W PySem.Calls PyProof.Rows
abbrev R : OpenRow := OpenLaw.row PySem.Challenge.rw_truebeat_k80_whole_assembled_programs
abbrev qv : Program := view R.prog [71]
def names : List PySem.Str := (["BeatError", "InvalidShape", "InvalidLines", "TooMany", "Refused", "is_integer", "is_within", "NO_WORD", "LEAST_WIDTH", "MOST_WIDTH", "REGISTER_NUMBERS", "OP_SET", "OP_SAME", "OP_UNDER", "OP_JUMP", "is_step_word", "Shape", "require_shape", "MOST_LINES", "NEAR_LEAST", "NEAR_MOST", "FAR_SIZE", "MOST_PLACE", "MOST_SIGNS", "LETTERS", "LABEL", "PLACE", "BRANCHES", "BRANCH_OPS", "MOST_REGISTER"] : List PySem.Str) ++ (["LABEL_SIZE", "PLACE_SIZE", "BRANCH_SIZE", "is_name", "is_line", "is_label", "is_branch", "require_lines", "line_places", "label_table", "not_reaching", "least_lot", "words_of_line", "require_assembly", "far_lot", "assemble", "label_places", "_law_dice", "_law_roll", "_law_one_of", "_law_two_to", "_law_step_word", "_law_step_drawn", "_law_shuffled", "_law_lines_drawn", "_law_branches", "_law_places", "_law_label_table", "_law_fits", "_law_least"] : List PySem.Str) ++ (["_law_program", "_law_with_places", "_law_told", "_law_right", "_law_heard", "_law_errors_right"] : List PySem.Str)
abbrev hk : Hook := hookY 4 fas fns tfs ex ces
def ob (s : SharedT) : AlY := obsY 4 fas fns tfs ex ces (HandSHeadRun.getT s)
theorem ob_eq (s : SharedT) : ob s = hk.obs s.abs := obsY_eq (HandSHeadRun.getT_eq s)
theorem run (w : World) : HandSHeadRun.RunEq R qv hk ob 6000 names w := by
  intro os
  kernel_rfl
end K80
set_option Elab.async false
set_option linter.all false
set_option maxRecDepth 100000
set_option maxHeartbeats 4000000
/-! The head's facts. Printed by gen_head.py. -/
namespace K80
open PySem PySem.Spec PyProof.Rows L2
abbrev rw0 : PySem.W.OpenLaw := PySem.Challenge.rw_truebeat_k80_whole_assembled_programs
section
variable {w : World} {K : PySem.W.Frag} {h : Heap} {mg : Str → Option Value}
theorem int_gl {x : Str} {i : Int} (e : ∃ t, mg x = some (.int i t)) : GlV mg x (.int i) := by
  obtain ⟨t, e⟩ := e
  exact ⟨_, e, t, rfl⟩
theorem str_gl {x z : Str} (e : ∃ t, mg x = some (.str z t)) : GlV mg x (.str z) := by
  obtain ⟨t, e⟩ := e
  exact ⟨_, e, t, rfl⟩
theorem def_at {x : Str} {st : Stmt} (e : ∃ fd, FnP K x st (He.ga K x) fd) (g : mg x = some (.ref (He.ga K x))) : DefAt K mg x st := by
  obtain ⟨fd, F⟩ := e
  exact ⟨_, fd, F, g⟩
theorem codeOf_ref {x : Str} {st : Stmt} {fd : FuncData} (F : FnP K x st (He.ga K x) fd) : fd.code = .ref (He.codeOf K (x, none)) := by
  obtain ⟨oc, od, dV, kV, doc, pm, an, cdv, ct, osl, rfl, lk, hcd, _, _⟩ := F.ex
  obtain ⟨c, hc⟩ := He.codeIn_ref hcd
  have e : cdv = .ref c := hc
  subst e
  have z := He.codeOf_eq (K := K) (p := (x, none)) lk rfl
  rw [z]
theorem def_atC {x : Str} {st : Stmt} (e : ∃ fd, FnP K x st (He.ga K x) fd) (g : mg x = some (.ref (He.ga K x))) : DefAtC K mg x st (He.codeOf K (x, none)) := by
  obtain ⟨fd, F⟩ := e
  exact ⟨_, fd, F, g, codeOf_ref F⟩

theorem f_shape (X : SaysY fas fns tfs ex ces w h K) (XK : K.In h) (G : h.Ns mainGlobals mg) : ShapeT K mg (gaS K) := by
  have D := X.x.t.d
  obtain ⟨fd, F⟩ := D.def_ 37 (d := ⟨("Shape", some "__init__"), "__init__", "Shape.__init__", defArgs s_Shape_init, defBody s_Shape_init, defScope s_Shape_init, [], []⟩) rfl
  exact ⟨He.glo_ok XK G (D.fact 37 (f := .glo "Shape") rfl), ⟨chk X.x.more 0 rfl, chk X.x.more 1 rfl, chk X.x.more 2 rfl, He.eqO_ok (chk X.x.more 3 rfl)⟩, ⟨He.eqO_ok (chk X.x.more 4 rfl), He.eqO_ok (chk X.x.more 5 rfl), of_decide_eq_true (chk X.x.more 6 rfl), of_decide_eq_true (chk X.x.more 7 rfl)⟩, of_decide_eq_true (chk X.x.more 8 rfl), of_decide_eq_true (chk X.x.more 9 rfl), of_decide_eq_true (chk X.x.more 10 rfl), of_decide_eq_true (chk X.x.more 11 rfl), of_decide_eq_true (chk X.x.more 12 rfl), ⟨_, ⟨He.eqO_ok (chk X.x.more 13 rfl), He.eqO_ok (chk X.x.more 14 rfl), of_decide_eq_true (chk X.x.more 15 rfl), of_decide_eq_true (chk X.x.more 16 rfl), of_decide_eq_true (chk X.x.more 17 rfl), by decide⟩⟩, ⟨_, ⟨He.eqO_ok (chk X.x.more 18 rfl), He.eqO_ok (chk X.x.more 19 rfl), of_decide_eq_true (chk X.x.more 20 rfl), of_decide_eq_true (chk X.x.more 21 rfl), of_decide_eq_true (chk X.x.more 22 rfl), by decide⟩⟩, ⟨_, fd, F, He.mkr_ok (D.fact 82 (f := .mkr "Shape") rfl)⟩⟩
theorem f_invS (X : SaysY fas fns tfs ex ces w h K) (XK : K.In h) (G : h.Ns mainGlobals mg) : ExcOk K mg "InvalidShape" (He.ga K "InvalidShape") := by
  have D := X.x.t.d
  obtain ⟨a, b, c, d⟩ := He.exc_ok (D.fact 80 (f := .exc "InvalidShape") rfl)
  exact ⟨He.glo_ok XK G (D.fact 40 (f := .glo "InvalidShape") rfl), a, b, c, d⟩
theorem f_invL (X : SaysY fas fns tfs ex ces w h K) (XK : K.In h) (G : h.Ns mainGlobals mg) : ExcOk K mg "InvalidLines" (He.ga K "InvalidLines") := by
  have D := X.x.t.d
  obtain ⟨a, b, c, d⟩ := He.exc_ok (D.fact 81 (f := .exc "InvalidLines") rfl)
  exact ⟨He.glo_ok XK G (D.fact 41 (f := .glo "InvalidLines") rfl), a, b, c, d⟩
theorem f_BR (X : SaysY fas fns tfs ex ces w h K) (XK : K.In h) (G : h.Ns mainGlobals mg) : ∀ a, mg "BRANCHES" = some (.ref a) → ∃ o, K.lookup a = some o ∧ o.cls = .type "tuple" ∧ o.dict = none := by
  have D := X.x.t.d
  intro a e
  have e2 := e.symm.trans (He.glo_ok XK G (D.fact 43 (f := .glo "BRANCHES") rfl))
  cases e2
  have z := chk X.x.more 26 rfl
  split at z
  · rename_i c d s q
    exact ⟨_, q, congrArg Value.type (of_decide_eq_true z), rfl⟩
  · cases z
theorem f_txt (X : SaysY fas fns tfs ex ces w h K) (XK : K.In h) (G : h.Ns mainGlobals mg) : Txt K mg (gaS K) (gaI K) (gaL K) := by
  have D := X.x.t.d
  have d : ∀ (i : Nat) {d : He.DefD}, fns[i]? = some d → ∃ fd, FunD K d.name d.qual d.params d.body d.scope (d.dvs K) (d.kws K) (He.fAd K d.at_) fd := fun i _ e => D.def_ i e
  exact {
    b := ⟨He.free_ok XK G (D.fact 45 (f := .free "isinstance") rfl), He.free_ok XK G (D.fact 46 (f := .free "int") rfl), He.free_ok XK G (D.fact 47 (f := .free "bool") rfl), He.free_ok XK G (D.fact 48 (f := .free "str") rfl), He.free_ok XK G (D.fact 49 (f := .free "tuple") rfl), He.free_ok XK G (D.fact 50 (f := .free "list") rfl), He.free_ok XK G (D.fact 51 (f := .free "set") rfl), He.free_ok XK G (D.fact 52 (f := .free "len") rfl), He.free_ok XK G (D.fact 53 (f := .free "all") rfl), He.free_ok XK G (D.fact 54 (f := .free "enumerate") rfl), He.free_ok XK G (D.fact 55 (f := .free "sorted") rfl), He.free_ok XK G (D.fact 56 (f := .free "min") rfl), He.free_ok XK G (D.fact 57 (f := .free "max") rfl), He.free_ok XK G (D.fact 58 (f := .free "abs") rfl), He.free_ok XK G (D.fact 59 (f := .free "range") rfl)⟩
    shape := f_shape X XK G
    invS := f_invS X XK G
    invL := f_invL X XK G
    c_NO_WORD := int_gl (He.int_ok XK G (D.fact 61 (f := .int "NO_WORD" 65535) rfl))
    c_LEAST_WIDTH := int_gl (He.int_ok XK G (D.fact 62 (f := .int "LEAST_WIDTH" 4) rfl))
    c_MOST_WIDTH := int_gl (He.int_ok XK G (D.fact 63 (f := .int "MOST_WIDTH" 16) rfl))
    c_OP_SET := int_gl (He.int_ok XK G (D.fact 64 (f := .int "OP_SET" 9) rfl))
    c_OP_SAME := int_gl (He.int_ok XK G (D.fact 65 (f := .int "OP_SAME" 12) rfl))
    c_OP_JUMP := int_gl (He.int_ok XK G (D.fact 66 (f := .int "OP_JUMP" 14) rfl))
    c_MOST_LINES := int_gl (He.int_ok XK G (D.fact 67 (f := .int "MOST_LINES" 256) rfl))
    c_NEAR_LEAST := int_gl (He.int_ok XK G (D.fact 68 (f := .int "NEAR_LEAST" (-32)) rfl))
    c_NEAR_MOST := int_gl (He.int_ok XK G (D.fact 69 (f := .int "NEAR_MOST" 31) rfl))
    c_FAR_SIZE := int_gl (He.int_ok XK G (D.fact 70 (f := .int "FAR_SIZE" 4) rfl))
    c_MOST_PLACE := int_gl (He.int_ok XK G (D.fact 71 (f := .int "MOST_PLACE" 255) rfl))
    c_MOST_SIGNS := int_gl (He.int_ok XK G (D.fact 72 (f := .int "MOST_SIGNS" 8) rfl))
    c_MOST_REGISTER := int_gl (He.int_ok XK G (D.fact 73 (f := .int "MOST_REGISTER" 7) rfl))
    c_LABEL_SIZE := int_gl (He.int_ok XK G (D.fact 74 (f := .int "LABEL_SIZE" 2) rfl))
    c_PLACE_SIZE := int_gl (He.int_ok XK G (D.fact 75 (f := .int "PLACE_SIZE" 3) rfl))
    c_BRANCH_SIZE := int_gl (He.int_ok XK G (D.fact 76 (f := .int "BRANCH_SIZE" 4) rfl))
    c_LETTERS := str_gl (He.str_ok XK G (D.fact 77 (f := .str "LETTERS" "abcdefghijklmnopqrstuvwxyz") rfl))
    c_LABEL := str_gl (He.str_ok XK G (D.fact 78 (f := .str "LABEL" "label") rfl))
    c_PLACE := str_gl (He.str_ok XK G (D.fact 79 (f := .str "PLACE" "place") rfl))
    c_REGS := ⟨_, He.glo_ok XK G (D.fact 42 (f := .glo "REGISTER_NUMBERS") rfl), fun H => He.tupB_ok (chk X.x.more 23 rfl) H⟩
    c_BRANCHES := ⟨_, He.glo_ok XK G (D.fact 43 (f := .glo "BRANCHES") rfl), fun H => He.tupB_ok (chk X.x.more 24 rfl) H⟩
    c_BRANCH_OPS := ⟨_, He.glo_ok XK G (D.fact 44 (f := .glo "BRANCH_OPS") rfl), fun H => He.tupB_ok (chk X.x.more 25 rfl) H⟩
    c_BRANCHES_o := f_BR X XK G
    d_is_integer := def_at (d 0 (d := ⟨("is_integer", none), "is_integer", "is_integer", defArgs s_is_integer, defBody s_is_integer, defScope s_is_integer, [], []⟩) rfl) (He.glo_ok XK G (D.fact 0 (f := .glo "is_integer") rfl))
    d_is_within := def_at (d 1 (d := ⟨("is_within", none), "is_within", "is_within", defArgs s_is_within, defBody s_is_within, defScope s_is_within, [], []⟩) rfl) (He.glo_ok XK G (D.fact 1 (f := .glo "is_within") rfl))
    d_is_step_word := def_at (d 2 (d := ⟨("is_step_word", none), "is_step_word", "is_step_word", defArgs s_is_step_word, defBody s_is_step_word, defScope s_is_step_word, [], []⟩) rfl) (He.glo_ok XK G (D.fact 2 (f := .glo "is_step_word") rfl))
    d_require_shape := def_at (d 3 (d := ⟨("require_shape", none), "require_shape", "require_shape", defArgs s_require_shape, defBody s_require_shape, defScope s_require_shape, [], []⟩) rfl) (He.glo_ok XK G (D.fact 3 (f := .glo "require_shape") rfl))
    d_is_name := def_at (d 4 (d := ⟨("is_name", none), "is_name", "is_name", defArgs s_is_name, defBody s_is_name, defScope s_is_name, [], []⟩) rfl) (He.glo_ok XK G (D.fact 4 (f := .glo "is_name") rfl))
    d_is_line := def_at (d 5 (d := ⟨("is_line", none), "is_line", "is_line", defArgs s_is_line, defBody s_is_line, defScope s_is_line, [], []⟩) rfl) (He.glo_ok XK G (D.fact 5 (f := .glo "is_line") rfl))
    d_is_label := def_at (d 6 (d := ⟨("is_label", none), "is_label", "is_label", defArgs s_is_label, defBody s_is_label, defScope s_is_label, [], []⟩) rfl) (He.glo_ok XK G (D.fact 6 (f := .glo "is_label") rfl))
    d_is_branch := def_at (d 7 (d := ⟨("is_branch", none), "is_branch", "is_branch", defArgs s_is_branch, defBody s_is_branch, defScope s_is_branch, [], []⟩) rfl) (He.glo_ok XK G (D.fact 7 (f := .glo "is_branch") rfl))
    d_require_lines := def_at (d 8 (d := ⟨("require_lines", none), "require_lines", "require_lines", defArgs s_require_lines, defBody s_require_lines, defScope s_require_lines, [], []⟩) rfl) (He.glo_ok XK G (D.fact 8 (f := .glo "require_lines") rfl))
    d_line_places := def_at (d 9 (d := ⟨("line_places", none), "line_places", "line_places", defArgs s_line_places, defBody s_line_places, defScope s_line_places, [], []⟩) rfl) (He.glo_ok XK G (D.fact 9 (f := .glo "line_places") rfl))
    d_label_table := def_at (d 10 (d := ⟨("label_table", none), "label_table", "label_table", defArgs s_label_table, defBody s_label_table, defScope s_label_table, [], []⟩) rfl) (He.glo_ok XK G (D.fact 10 (f := .glo "label_table") rfl))
    d_not_reaching := def_at (d 11 (d := ⟨("not_reaching", none), "not_reaching", "not_reaching", defArgs s_not_reaching, defBody s_not_reaching, defScope s_not_reaching, [], []⟩) rfl) (He.glo_ok XK G (D.fact 11 (f := .glo "not_reaching") rfl))
    d_least_lot := def_at (d 12 (d := ⟨("least_lot", none), "least_lot", "least_lot", defArgs s_least_lot, defBody s_least_lot, defScope s_least_lot, [], []⟩) rfl) (He.glo_ok XK G (D.fact 12 (f := .glo "least_lot") rfl))
    d_words_of_line := def_at (d 13 (d := ⟨("words_of_line", none), "words_of_line", "words_of_line", defArgs s_words_of_line, defBody s_words_of_line, defScope s_words_of_line, [], []⟩) rfl) (He.glo_ok XK G (D.fact 13 (f := .glo "words_of_line") rfl))
    d_require_assembly := def_at (d 14 (d := ⟨("require_assembly", none), "require_assembly", "require_assembly", defArgs s_require_assembly, defBody s_require_assembly, defScope s_require_assembly, [], []⟩) rfl) (He.glo_ok XK G (D.fact 14 (f := .glo "require_assembly") rfl))
    d_far_lot := def_at (d 15 (d := ⟨("far_lot", none), "far_lot", "far_lot", defArgs s_far_lot, defBody s_far_lot, defScope s_far_lot, [], []⟩) rfl) (He.glo_ok XK G (D.fact 15 (f := .glo "far_lot") rfl))
    d_assemble := def_at (d 16 (d := ⟨("assemble", none), "assemble", "assemble", defArgs s_assemble, defBody s_assemble, defScope s_assemble, [], []⟩) rfl) (He.glo_ok XK G (D.fact 16 (f := .glo "assemble") rfl))
    d_label_places := def_at (d 17 (d := ⟨("label_places", none), "label_places", "label_places", defArgs s_label_places, defBody s_label_places, defScope s_label_places, [], []⟩) rfl) (He.glo_ok XK G (D.fact 17 (f := .glo "label_places") rfl))
    d_Ldice := def_at (d 18 (d := ⟨("_law_dice", none), "_law_dice", "_law_dice", defArgs s_Ldice, defBody s_Ldice, defScope s_Ldice, [], []⟩) rfl) (He.glo_ok XK G (D.fact 18 (f := .glo "_law_dice") rfl))
    d_Lroll := def_at (d 19 (d := ⟨("_law_roll", none), "_law_roll", "_law_roll", defArgs s_Lroll, defBody s_Lroll, defScope s_Lroll, [], []⟩) rfl) (He.glo_ok XK G (D.fact 19 (f := .glo "_law_roll") rfl))
    d_Lone_of := def_at (d 20 (d := ⟨("_law_one_of", none), "_law_one_of", "_law_one_of", defArgs s_Lone_of, defBody s_Lone_of, defScope s_Lone_of, [], []⟩) rfl) (He.glo_ok XK G (D.fact 20 (f := .glo "_law_one_of") rfl))
    d_Ltwo_to := def_at (d 21 (d := ⟨("_law_two_to", none), "_law_two_to", "_law_two_to", defArgs s_Ltwo_to, defBody s_Ltwo_to, defScope s_Ltwo_to, [], []⟩) rfl) (He.glo_ok XK G (D.fact 21 (f := .glo "_law_two_to") rfl))
    d_Lstep_word := def_at (d 22 (d := ⟨("_law_step_word", none), "_law_step_word", "_law_step_word", defArgs s_Lstep_word, defBody s_Lstep_word, defScope s_Lstep_word, [], []⟩) rfl) (He.glo_ok XK G (D.fact 22 (f := .glo "_law_step_word") rfl))
    d_Lstep_drawn := def_at (d 23 (d := ⟨("_law_step_drawn", none), "_law_step_drawn", "_law_step_drawn", defArgs s_Lstep_drawn, defBody s_Lstep_drawn, defScope s_Lstep_drawn, [], []⟩) rfl) (He.glo_ok XK G (D.fact 23 (f := .glo "_law_step_drawn") rfl))
    d_Lshuffled := def_at (d 24 (d := ⟨("_law_shuffled", none), "_law_shuffled", "_law_shuffled", defArgs s_Lshuffled, defBody s_Lshuffled, defScope s_Lshuffled, [], []⟩) rfl) (He.glo_ok XK G (D.fact 24 (f := .glo "_law_shuffled") rfl))
    d_Llines_drawn := def_at (d 25 (d := ⟨("_law_lines_drawn", none), "_law_lines_drawn", "_law_lines_drawn", defArgs s_Llines_drawn, defBody s_Llines_drawn, defScope s_Llines_drawn, [], []⟩) rfl) (He.glo_ok XK G (D.fact 25 (f := .glo "_law_lines_drawn") rfl))
    d_Lbranches := def_at (d 26 (d := ⟨("_law_branches", none), "_law_branches", "_law_branches", defArgs s_Lbranches, defBody s_Lbranches, defScope s_Lbranches, [], []⟩) rfl) (He.glo_ok XK G (D.fact 26 (f := .glo "_law_branches") rfl))
    d_Lplaces := def_at (d 27 (d := ⟨("_law_places", none), "_law_places", "_law_places", defArgs s_Lplaces, defBody s_Lplaces, defScope s_Lplaces, [], []⟩) rfl) (He.glo_ok XK G (D.fact 27 (f := .glo "_law_places") rfl))
    d_Llabel_table := def_at (d 28 (d := ⟨("_law_label_table", none), "_law_label_table", "_law_label_table", defArgs s_Llabel_table, defBody s_Llabel_table, defScope s_Llabel_table, [], []⟩) rfl) (He.glo_ok XK G (D.fact 28 (f := .glo "_law_label_table") rfl))
    d_Lleast := def_at (d 29 (d := ⟨("_law_least", none), "_law_least", "_law_least", defArgs s_Lleast, defBody s_Lleast, defScope s_Lleast, [], []⟩) rfl) (He.glo_ok XK G (D.fact 29 (f := .glo "_law_least") rfl))
    d_Lprogram := def_at (d 30 (d := ⟨("_law_program", none), "_law_program", "_law_program", defArgs s_Lprogram, defBody s_Lprogram, defScope s_Lprogram, [], []⟩) rfl) (He.glo_ok XK G (D.fact 30 (f := .glo "_law_program") rfl))
    d_Lwith_places := def_at (d 31 (d := ⟨("_law_with_places", none), "_law_with_places", "_law_with_places", defArgs s_Lwith_places, defBody s_Lwith_places, defScope s_Lwith_places, [], []⟩) rfl) (He.glo_ok XK G (D.fact 31 (f := .glo "_law_with_places") rfl))
  }
theorem f_ceM (X : SaysY fas fns tfs ex ces w h K) : celO K ceM.at_ = ceM.val := by
  have e2 : (ces.map fun d => celO K d.at_)[0]? = (ces.map CelD.val)[0]? := by rw [X.c]
  exact Option.some.inj e2
theorem f_excM (X : SaysY fas fns tfs ex ces w h K) (XK : K.In h) (G : h.Ns mainGlobals mg) : ExcT rw0.prog K mg "TooMany" "limit" "TooMany.__init__" psM "OverflowError" "OverflowError.__new__" "OverflowError.__init__" bmOv (gaM K) (He.ma K (gaM K) "__init__") := by
  have D := X.x.t.d
  exact ⟨He.glo_ok XK G (D.fact 38 (f := .glo "TooMany") rfl), chk X.x.more 27 rfl, chk X.x.more 28 rfl, chk X.x.more 29 rfl, He.eqO_ok (chk X.x.more 30 rfl), He.eqO_ok (chk X.x.more 31 rfl), chk X.x.more 32 rfl, He.eqO_ok (chk X.x.more 33 rfl), chk X.x.more 34 rfl, of_decide_eq_true (chk X.x.more 35 rfl), of_decide_eq_true (chk X.x.more 36 rfl), of_decide_eq_true (chk X.x.more 37 rfl), of_decide_eq_true (chk X.x.more 38 rfl), He.eqO_ok (chk X.x.more 39 rfl), He.eqO_ok (chk X.x.more 59 rfl), He.eqO_ok (chk X.x.more 60 rfl), by kernel_rfl, cel_ok (f_ceM X) (chk X.x.more 40 rfl)⟩
theorem f_ceR (X : SaysY fas fns tfs ex ces w h K) : celO K ceR.at_ = ceR.val := by
  have e2 : (ces.map fun d => celO K d.at_)[1]? = (ces.map CelD.val)[1]? := by rw [X.c]
  exact Option.some.inj e2
theorem f_excR (X : SaysY fas fns tfs ex ces w h K) (XK : K.In h) (G : h.Ns mainGlobals mg) : ExcT rw0.prog K mg "Refused" "reason" "Refused.__init__" psR "ArithmeticError" "ArithmeticError.__new__" "ArithmeticError.__init__" bmAr (gaR K) (He.ma K (gaR K) "__init__") := by
  have D := X.x.t.d
  exact ⟨He.glo_ok XK G (D.fact 39 (f := .glo "Refused") rfl), chk X.x.more 43 rfl, chk X.x.more 44 rfl, chk X.x.more 45 rfl, He.eqO_ok (chk X.x.more 46 rfl), He.eqO_ok (chk X.x.more 47 rfl), chk X.x.more 48 rfl, He.eqO_ok (chk X.x.more 49 rfl), chk X.x.more 50 rfl, of_decide_eq_true (chk X.x.more 51 rfl), of_decide_eq_true (chk X.x.more 52 rfl), of_decide_eq_true (chk X.x.more 53 rfl), of_decide_eq_true (chk X.x.more 54 rfl), He.eqO_ok (chk X.x.more 55 rfl), He.eqO_ok (chk X.x.more 59 rfl), He.eqO_ok (chk X.x.more 60 rfl), by kernel_rfl, cel_ok (f_ceR X) (chk X.x.more 56 rfl)⟩
theorem f_txtX (X : SaysY fas fns tfs ex ces w h K) (XK : K.In h) (G : h.Ns mainGlobals mg) : TxtX rw0.prog K mg (gaI K) (gaL K) (gaM K) (gaR K) :=
  ⟨⟨_, f_excM X XK G⟩, ⟨_, f_excR X XK G⟩, xfB_ok (chk X.x.more 41 rfl), He.eqO_ok (chk X.x.more 42 rfl), xfB_ok (chk X.x.more 57 rfl), He.eqO_ok (chk X.x.more 58 rfl), of_decide_eq_true (chk X.x.more 61 rfl), of_decide_eq_true (chk X.x.more 62 rfl), of_decide_eq_true (chk X.x.more 63 rfl), of_decide_eq_true (chk X.x.more 64 rfl), of_decide_eq_true (chk X.x.more 65 rfl), of_decide_eq_true (chk X.x.more 66 rfl)⟩
theorem f_told (X : SaysY fas fns tfs ex ces w h K) (XK : K.In h) (G : h.Ns mainGlobals mg) : DefAt K mg "_law_told" s_Ltold := by
  have D := X.x.t.d
  exact def_at (D.def_ 32 (d := ⟨("_law_told", none), "_law_told", "_law_told", defArgs s_Ltold, defBody s_Ltold, defScope s_Ltold, [], []⟩) rfl) (He.glo_ok XK G (D.fact 32 (f := .glo "_law_told") rfl))
theorem f_heard (X : SaysY fas fns tfs ex ces w h K) (XK : K.In h) (G : h.Ns mainGlobals mg) : DefAt K mg "_law_heard" s_Lheard := by
  have D := X.x.t.d
  exact def_at (D.def_ 34 (d := ⟨("_law_heard", none), "_law_heard", "_law_heard", defArgs s_Lheard, defBody s_Lheard, defScope s_Lheard, [], []⟩) rfl) (He.glo_ok XK G (D.fact 34 (f := .glo "_law_heard") rfl))
theorem f_right (X : SaysY fas fns tfs ex ces w h K) (XK : K.In h) (G : h.Ns mainGlobals mg) : DefAtC K mg "_law_right" s_Lright (He.codeOf K ("_law_right", none)) := by
  have D := X.x.t.d
  exact def_atC (D.def_ 33 (d := ⟨("_law_right", none), "_law_right", "_law_right", defArgs s_Lright, defBody s_Lright, defScope s_Lright, [], []⟩) rfl) (He.glo_ok XK G (D.fact 33 (f := .glo "_law_right") rfl))
theorem f_errors_right (X : SaysY fas fns tfs ex ces w h K) (XK : K.In h) (G : h.Ns mainGlobals mg) : DefAtC K mg "_law_errors_right" s_Lerrors_right (He.codeOf K ("_law_errors_right", none)) := by
  have D := X.x.t.d
  exact def_atC (D.def_ 35 (d := ⟨("_law_errors_right", none), "_law_errors_right", "_law_errors_right", defArgs s_Lerrors_right, defBody s_Lerrors_right, defScope s_Lerrors_right, [], []⟩) rfl) (He.glo_ok XK G (D.fact 35 (f := .glo "_law_errors_right") rfl))
theorem f_law (X : SaysY fas fns tfs ex ces w h K) (XK : K.In h) (G : h.Ns mainGlobals mg) : ∃ fd, FnP K "law" s_law (He.ga K "law") fd := by
  have D := X.x.t.d
  exact D.def_ 36 (d := ⟨("law", none), "law", "law", defArgs s_law, defBody s_law, defScope s_law, [], []⟩) rfl
theorem f_lawg (X : SaysY fas fns tfs ex ces w h K) (XK : K.In h) (G : h.Ns mainGlobals mg) : mg "law" = some (.ref (He.ga K "law")) := by
  have D := X.x.t.d
  exact He.glo_ok XK G (D.fact 36 (f := .glo "law") rfl)
theorem f_ne (X : SaysY fas fns tfs ex ces w h K) : (He.cT K tfR).2 ≠ (He.cT K tfE).2 ∧ (He.cT K tfR).2 ≠ (He.cT K tfL).2 ∧ (He.cT K tfE).2 ≠ (He.cT K tfL).2 := ⟨of_decide_eq_true (chk X.x.more 67 rfl), of_decide_eq_true (chk X.x.more 68 rfl), of_decide_eq_true (chk X.x.more 69 rfl)⟩
end
end K80
set_option Elab.async false
set_option linter.all false
set_option maxRecDepth 100000
set_option maxHeartbeats 0
/-! The end. -/
namespace K80
open PySem PySem.Spec PyProof.Rows L2
section
variable {w : World} {K : PySem.W.Frag} {h : Heap} {mg : Str → Option Value}
/-- the three defs whose lambdas are made, their tables -/
def csOf (K : PySem.W.Frag) : List (Addr × Addr) := tfs.map (He.cT K)
def tsOf (K : PySem.W.Frag) : List (Addr × Str) := [((He.cT K tfR).2, qR), ((He.cT K tfE).2, qE), ((He.cT K tfL).2, qL)]
theorem cs_mem {p : Addr × Addr} (hp : p ∈ csOf K) : ∃ t ∈ tfs, He.cT K t = p := List.mem_map.mp hp
theorem f_end (X : SaysY fas fns tfs ex ces w h K) (XK : K.In h) (G : h.Ns mainGlobals mg) {fa : Addr} (hfa : mg ("law" : Str) = some (.ref fa)) : LamX.LawAtS rw0 w K (fun c => CX0 c) 11 63 "_law_script" mg fa h := by
  have e := hfa.symm.trans (f_lawg X XK G)
  cases e
  obtain ⟨fd, F⟩ := f_law X XK G
  have mR : He.cT K tfR ∈ csOf K := List.mem_cons_self
  have mE : He.cT K tfE ∈ csOf K := List.mem_cons_of_mem _ List.mem_cons_self
  have mL : He.cT K tfL ∈ csOf K := List.mem_cons_of_mem _ (List.mem_cons_of_mem _ List.mem_cons_self)
  obtain ⟨n1, n2, n3⟩ := f_ne X
  refine ⟨fd, csOf K, spLaw K (tsOf K), fun p hp => ?_, fun p hp => ?_, fun p hp => ?_, fun s v => ?_, fun H a ns hl _ hT hS => ⟨a, ns, rfl, hS, fun p hp => ?_, fun _ => rfl⟩, fun base XB GB hB => ?_⟩
  · obtain ⟨t, ht, e⟩ := cs_mem hp
    rw [← e]
    exact X.x.empty t ht
  · obtain ⟨t, ht, e⟩ := cs_mem hp
    rw [← e]
    exact X.x.out t ht
  · obtain ⟨t, ht, e⟩ := cs_mem hp
    rw [← e]
    exact PySem.W.codeHd_of_K XK (X.x.hd t ht)
  · exact FunD.bindsA (ps := ["_law_script"]) F (fun _ _ _ _ _ _ us hl => match us, hl with | [_], _ => rfl) s [v] rfl
  · rcases List.mem_cons.mp hp with e | hp
    · rw [e]
      exact LamX.TabS.nil (hT _ mR)
    · rcases List.mem_cons.mp hp with e | hp
      · rw [e]
        exact LamX.TabS.nil (hT _ mE)
      · rcases List.mem_cons.mp hp with e | hp
        · rw [e]
          exact LamX.TabS.nil (hT _ mL)
        · cases hp
  · have T := f_txt X XK G
    have TX := f_txtX X XK G
    have Dt := f_told X XK G
    have uni : ∀ p ∈ tsOf K, (p.1 = (He.cT K tfR).2 → p.2 = qR) ∧ (p.1 = (He.cT K tfE).2 → p.2 = qE) ∧ (p.1 = (He.cT K tfL).2 → p.2 = qL) := fun p hp => by
      rcases List.mem_cons.mp hp with e | hp
      · rw [e]
        exact ⟨fun _ => rfl, fun z => absurd z n1, fun z => absurd z n2⟩
      · rcases List.mem_cons.mp hp with e | hp
        · rw [e]
          exact ⟨fun z => absurd z.symm n1, fun _ => rfl, fun z => absurd z n3⟩
        · rcases List.mem_cons.mp hp with e | hp
          · rw [e]
            exact ⟨fun z => absurd z.symm n2, fun z => absurd z.symm n3, fun _ => rfl⟩
          · cases hp
    have CR := cal_right (w := w) (base := base) T TX Dt (c := (He.cT K tfR).1) (P0 := (He.cT K tfR).2) (Ts := tsOf K) (f_right X XK G) (hB _ mR) List.mem_cons_self (fun p hp => (uni p hp).1)
    have CE := cal_errors_right (w := w) (base := base) T TX (f_heard X XK G) (c := (He.cT K tfE).1) (P0 := (He.cT K tfE).2) (Ts := tsOf K) (f_errors_right X XK G) (hB _ mE) (List.mem_cons_of_mem _ List.mem_cons_self) (fun p hp => (uni p hp).2.1)
    exact ok_law T TX Dt CR CE (c := (He.cT K tfL).1) (P0 := (He.cT K tfL).2) F (codeOf_ref F) (hB _ mL) (List.mem_cons_of_mem _ (List.mem_cons_of_mem _ List.mem_cons_self)) (fun p hp => (uni p hp).2.2)
end
end K80
open PySem PySem.W PySem.Calls PyProof.Rows
theorem PySem.Challenge.cw_truebeat_k80_whole_assembled_programs_holds : PySem.Challenge.rw_truebeat_k80_whole_assembled_programs.Holds := by
  w_on; o_law
  refine HandSHeadRun.head_any (r := K80.R) (q := K80.qv) (H := K80.hk) (ob := K80.ob) (M := 6000) (loose := K80.names) (d := HandSHeadRun.topDef K80.R.prog 71) (kwd := []) K80.ob_eq
    (by kernel_rfl) (fun s => by kernel_rfl) K80.run (by kernel_rfl) (by kernel_rfl) (by kernel_rfl) (by rfl) (by first | assumption | decide +kernel) (by decide +kernel) ⟨rfl, rfl, rfl, rfl, rfl, by decide +kernel⟩ ?hw ?hc
  case hw => w_witness2
  case hc =>
    refine LamX.walk_ofTsE (l := PySem.Challenge.rw_truebeat_k80_whole_assembled_programs) (n := 63) (k := 11) (x := "_law_script") (CX := fun _ => L2.CX0) rfl (by decide) (by kernel_rfl) ⟨rfl, by decide, by decide⟩ ?F (fun _ _ _ _ _ z => z)
    intro w mg fa h Y G hmg0
    obtain ⟨K, KX, c⟩ := Y
    have hmg : mg ("law" : PySem.Str) = some (.ref fa) := by
      have e : (HandSHeadRun.topDef K80.R.prog 71).name = ("law" : PySem.Str) := by kernel_rfl
      rw [← e]
      exact hmg0
    exact ⟨K, KX, K80.f_end c KX G hmg⟩
