import PyProof.Rows.All
import Wide.All
import OpenK.AllK
import Wide.FinOn
import HandS.ForMost
import HandS.Exc
import HandS.TryOnly
import HandS.TryMany
import HandS.ExcField
import HandS.WordsExc
import HandS.Style
import HandS.TupAny
import HandS.IsInst
import HandS.More
import HandS.Conv
import HandS.Small
import HandS.Flow
import HandS.Walk
import HandS.Defaults
import HandS.MakeKwOnly
import HandS.SetKeys
import HandS.RaiseMore
import HandS.ExcSuper
import HandS.ExcInit
import KE.KExcSuper
import KE.KDictList
import KE.KRevSl
import KE.DataMinMax
import HandS.OwnEq
import HandS.Remove
import HandS.SortKw
import KE.GoesEnum
import KE.KTupSum
import HandS.Set
import HandS.SetFor
import PyProof.NeKinds
import KE.DataMinKey
import KE.LtData
import KE.SortData
import KE.KLam
import HandS.Lambda
import HandS.WordsDict
import PyProof.ReprRoads
import PyProof.ReprLen
import HandS.EndBits
import HandS.EndTab
import PySem.Challenge.RW_staysdeep_k34_whole_dues_and_crowds
set_option Elab.async false
section
set_option linter.all false
set_option maxRecDepth 100000
/-! The text by its places. -/
namespace K34
open PySem PySem.Spec PyProof.Rows L2
def topS (i : Nat) : Stmt := PySem.Challenge.pw_staysdeep_k34_whole_dues_and_crowds.main.body.getD i (.Pass ⟨0, 0, 0, 0⟩)
abbrev sInvalidYardInit : Stmt := inClass (topS 2) 0
abbrev sInvalidStandingInit : Stmt := inClass (topS 3) 0
abbrev sInvalidOrderInit : Stmt := inClass (topS 4) 0
abbrev sInvalidSizeInit : Stmt := inClass (topS 5) 0
abbrev sRefusedInit : Stmt := inClass (topS 6) 0
abbrev sNoNameInit : Stmt := inClass (topS 7) 0
abbrev sIsInteger : Stmt := topS 11
abbrev nIsInteger : List Str := ["value"]
theorem cIsInteger : FnScope nIsInteger ["value"] (defScope sIsInteger) := ⟨rfl, rfl, rfl, by decide +kernel, rfl, by decide +kernel, by decide +kernel⟩
abbrev sIsNumber : Stmt := topS 12
abbrev nIsNumber : List Str := ["value"]
theorem cIsNumber : FnScope nIsNumber ["value"] (defScope sIsNumber) := ⟨rfl, rfl, rfl, by decide +kernel, rfl, by decide +kernel, by decide +kernel⟩
abbrev sIsBelow : Stmt := topS 13
abbrev nIsBelow : List Str := ["value", "bound"]
theorem cIsBelow : FnScope nIsBelow ["value", "bound"] (defScope sIsBelow) := ⟨rfl, rfl, rfl, by decide +kernel, rfl, by decide +kernel, by decide +kernel⟩
abbrev sIsText : Stmt := topS 14
abbrev nIsText : List Str := ["value"]
theorem cIsText : FnScope nIsText ["value"] (defScope sIsText) := ⟨rfl, rfl, rfl, by decide +kernel, rfl, by decide +kernel, by decide +kernel⟩
abbrev sIsSequence : Stmt := topS 15
abbrev nIsSequence : List Str := ["value"]
theorem cIsSequence : FnScope nIsSequence ["value"] (defScope sIsSequence) := ⟨rfl, rfl, rfl, by decide +kernel, rfl, by decide +kernel, by decide +kernel⟩
abbrev sIsName : Stmt := topS 16
abbrev nIsName : List Str := ["value", "sign"]
theorem cIsName : FnScope nIsName ["value"] (defScope sIsName) := ⟨rfl, rfl, rfl, by decide +kernel, rfl, by decide +kernel, by decide +kernel⟩
abbrev sNeedNumber : Stmt := topS 17
abbrev nNeedNumber : List Str := ["value", "bound", "word"]
theorem cNeedNumber : FnScope nNeedNumber ["value", "bound", "word"] (defScope sNeedNumber) := ⟨rfl, rfl, rfl, by decide +kernel, rfl, by decide +kernel, by decide +kernel⟩
abbrev sLotOf : Stmt := topS 18
abbrev nLotOf : List Str := ["things"]
theorem cLotOf : FnScope nLotOf ["things"] (defScope sLotOf) := ⟨rfl, rfl, rfl, by decide +kernel, rfl, by decide +kernel, by decide +kernel⟩
abbrev sYardInit : Stmt := inClass (topS 22) 0
abbrev nYardInit : List Str := ["self", "heights", "at", "height"]
theorem cYardInit : FnScope nYardInit ["self", "heights"] (defScope sYardInit) := ⟨rfl, rfl, rfl, by decide +kernel, rfl, by decide +kernel, by decide +kernel⟩
abbrev sYardEq : Stmt := inClass (topS 22) 1
abbrev nYardEq : List Str := ["self", "other"]
theorem cYardEq : FnScope nYardEq ["self", "other"] (defScope sYardEq) := ⟨rfl, rfl, rfl, by decide +kernel, rfl, by decide +kernel, by decide +kernel⟩
abbrev sPlaces : Stmt := topS 23
abbrev nPlaces : List Str := ["yard"]
theorem cPlaces : FnScope nPlaces ["yard"] (defScope sPlaces) := ⟨rfl, rfl, rfl, by decide +kernel, rfl, by decide +kernel, by decide +kernel⟩
abbrev sCoverOf : Stmt := topS 24
abbrev nCoverOf : List Str := ["yard", "stack", "level"]
theorem cCoverOf : FnScope nCoverOf ["yard", "stack", "level"] (defScope sCoverOf) := ⟨rfl, rfl, rfl, by decide +kernel, rfl, by decide +kernel, by decide +kernel⟩
abbrev sNeedStanding : Stmt := topS 26
abbrev nNeedStanding : List Str := ["yard", "value", "seen", "stack", "row", "box"]
theorem cNeedStanding : FnScope nNeedStanding ["yard", "value"] (defScope sNeedStanding) := ⟨rfl, rfl, rfl, by decide +kernel, rfl, by decide +kernel, by decide +kernel⟩
abbrev sFreePlaces : Stmt := topS 27
abbrev nFreePlaces : List Str := ["yard", "standing", "row"]
theorem cFreePlaces : FnScope nFreePlaces ["yard", "standing"] (defScope sFreePlaces) := ⟨rfl, rfl, rfl, by decide +kernel, rfl, by decide +kernel, by decide +kernel⟩
abbrev sBoxesOf : Stmt := topS 28
abbrev nBoxesOf : List Str := ["standing", "row", "box"]
theorem cBoxesOf : FnScope nBoxesOf ["standing"] (defScope sBoxesOf) := ⟨rfl, rfl, rfl, by decide +kernel, rfl, by decide +kernel, by decide +kernel⟩
abbrev sNeedGoings : Stmt := topS 30
abbrev nNeedGoings : List Str := ["yard", "standing", "value", "left", "at", "box"]
theorem cNeedGoings : FnScope nNeedGoings ["yard", "standing", "value"] (defScope sNeedGoings) := ⟨rfl, rfl, rfl, by decide +kernel, rfl, by decide +kernel, by decide +kernel⟩
abbrev sWaitTable : Stmt := topS 31
abbrev nWaitTable : List Str := ["yard", "standing", "free", "table", "stack", "row", "level", "box"]
theorem cWaitTable : FnScope nWaitTable ["yard", "standing"] (defScope sWaitTable) := ⟨rfl, rfl, rfl, by decide +kernel, rfl, by decide +kernel, by decide +kernel⟩
abbrev sCrowdInit : Stmt := inClass (topS 33) 0
abbrev nCrowdInit : List Str := ["self", "first", "end", "boxes"]
theorem cCrowdInit : FnScope nCrowdInit ["self", "first", "end", "boxes"] (defScope sCrowdInit) := ⟨rfl, rfl, rfl, by decide +kernel, rfl, by decide +kernel, by decide +kernel⟩
abbrev sCrowdEq : Stmt := inClass (topS 33) 1
abbrev nCrowdEq : List Str := ["self", "other"]
theorem cCrowdEq : FnScope nCrowdEq ["self", "other"] (defScope sCrowdEq) := ⟨rfl, rfl, rfl, by decide +kernel, rfl, by decide +kernel, by decide +kernel⟩
abbrev sDueTable : Stmt := topS 34
abbrev nDueTable : List Str := ["yard", "standing", "dues", "there", "table", "box", "due"]
theorem cDueTable : FnScope nDueTable ["yard", "standing", "dues"] (defScope sDueTable) := ⟨rfl, rfl, rfl, by decide +kernel, rfl, by decide +kernel, by decide +kernel⟩
abbrev sUrgentOrder : Stmt := topS 35
abbrev nUrgentOrder : List Str := ["waits", "table", "left", "found", "number", "box", "can", "due"]
theorem cUrgentOrder : FnScope nUrgentOrder ["waits", "table"] (defScope sUrgentOrder) := ⟨rfl, rfl, rfl, by decide +kernel, rfl, by decide +kernel, by decide +kernel⟩
abbrev sInTime : Stmt := topS 36
abbrev nInTime : List Str := ["order", "table", "number", "box"]
theorem cInTime : FnScope nInTime ["order", "table"] (defScope sInTime) := ⟨rfl, rfl, rfl, by decide +kernel, rfl, by decide +kernel, by decide +kernel⟩
abbrev sCrowded : Stmt := topS 37
abbrev nCrowded : List Str := ["waits", "table", "first", "end", "box", "due"]
theorem cCrowded : FnScope nCrowded ["waits", "table", "first", "end"] (defScope sCrowded) := ⟨rfl, rfl, rfl, by decide +kernel, rfl, by decide +kernel, by decide +kernel⟩
abbrev sFirstCrowd : Stmt := topS 38
abbrev nFirstCrowd : List Str := ["waits", "table", "first", "end", "lot"]
theorem cFirstCrowd : FnScope nFirstCrowd ["waits", "table"] (defScope sFirstCrowd) := ⟨rfl, rfl, rfl, by decide +kernel, rfl, by decide +kernel, by decide +kernel⟩
abbrev sDueOrder : Stmt := topS 39
abbrev nDueOrder : List Str := ["yard", "standing", "dues", "table", "waits", "order"]
theorem cDueOrder : FnScope nDueOrder ["yard", "standing", "dues"] (defScope sDueOrder) := ⟨rfl, rfl, rfl, by decide +kernel, rfl, by decide +kernel, by decide +kernel⟩
abbrev sIsOrder : Stmt := topS 40
abbrev nIsOrder : List Str := ["yard", "standing", "value"]
theorem cIsOrder : FnScope nIsOrder ["yard", "standing", "value"] (defScope sIsOrder) := ⟨rfl, rfl, rfl, by decide +kernel, rfl, by decide +kernel, by decide +kernel⟩
abbrev sCheckDues : Stmt := topS 41
abbrev nCheckDues : List Str := ["yard", "standing", "dues", "value", "table", "waits", "lot", "number", "box"]
theorem cCheckDues : FnScope nCheckDues ["yard", "standing", "dues", "value"] (defScope sCheckDues) := ⟨rfl, rfl, rfl, by decide +kernel, rfl, by decide +kernel, by decide +kernel⟩
abbrev sLSource : Stmt := topS 43
abbrev nLSource : List Str := ["_law_script", "_law_base", "_law_cell", "_law_cells", "_law_mixed_here"]
theorem cLSource : FnScope nLSource ["_law_script", "_law_base"] (defScope sLSource) := ⟨rfl, rfl, rfl, by decide +kernel, rfl, by decide +kernel, by decide +kernel⟩
abbrev sLNumber : Stmt := topS 44
abbrev nLNumber : List Str := ["_law_source_here", "_law_bound", "_law_rest"]
theorem cLNumber : FnScope nLNumber ["_law_source_here", "_law_bound"] (defScope sLNumber) := ⟨rfl, rfl, rfl, by decide +kernel, rfl, by decide +kernel, by decide +kernel⟩
abbrev sLOf : Stmt := topS 45
abbrev nLOf : List Str := ["_law_source_here", "_law_some"]
theorem cLOf : FnScope nLOf ["_law_source_here", "_law_some"] (defScope sLOf) := ⟨rfl, rfl, rfl, by decide +kernel, rfl, by decide +kernel, by decide +kernel⟩
abbrev sLMixed : Stmt := topS 46
abbrev nLMixed : List Str := ["_law_source_here", "_law_some", "_law_left", "_law_found", "_law_turn"]
theorem cLMixed : FnScope nLMixed ["_law_source_here", "_law_some"] (defScope sLMixed) := ⟨rfl, rfl, rfl, by decide +kernel, rfl, by decide +kernel, by decide +kernel⟩
abbrev sLNames : Stmt := topS 47
abbrev nLNames : List Str := ["_law_source_here", "_law_many", "_law_letters", "_law_turn", "_law_word", "_law_form", "_law_size", "_law_place", "_law_step", "_law_other", "_law_first_here", "_law_second", "_law_found", "_law_signs"]
theorem cLNames : FnScope nLNames ["_law_source_here", "_law_many"] (defScope sLNames) := ⟨rfl, rfl, rfl, by decide +kernel, rfl, by decide +kernel, by decide +kernel⟩
abbrev sLHeights : Stmt := topS 48
abbrev nLHeights : List Str := ["_law_source_here", "_law_many", "_law_tall", "_law_most", "_law_form", "_law_found", "_law_turn", "_law_stack"]
theorem cLHeights : FnScope nLHeights ["_law_source_here", "_law_many", "_law_tall", "_law_most"] (defScope sLHeights) := ⟨rfl, rfl, rfl, by decide +kernel, rfl, by decide +kernel, by decide +kernel⟩
abbrev sLFilled : Stmt := topS 49
abbrev nLFilled : List Str := ["_law_source_here", "_law_heights_here", "_law_boxes", "_law_rows", "_law_box", "_law_at", "_law_height"]
theorem cLFilled : FnScope nLFilled ["_law_source_here", "_law_heights_here", "_law_boxes"] (defScope sLFilled) := ⟨rfl, rfl, rfl, by decide +kernel, rfl, by decide +kernel, by decide +kernel⟩
abbrev sLBent : Stmt := topS 50
abbrev nLBent : List Str := ["_law_source_here", "_law_one", "_law_at", "_law_form", "_law_filled_here", "_law_low", "_law_stack", "_law_row"]
theorem cLBent : FnScope nLBent ["_law_source_here", "_law_one"] (defScope sLBent) := ⟨rfl, rfl, rfl, by decide +kernel, rfl, by decide +kernel, by decide +kernel⟩
abbrev sLWaits : Stmt := topS 51
abbrev nLWaits : List Str := ["_law_heights_here", "_law_one", "_law_row", "_law_free", "_law_found", "_law_stack", "_law_level", "_law_box"]
theorem cLWaits : FnScope nLWaits ["_law_heights_here", "_law_one"] (defScope sLWaits) := ⟨rfl, rfl, rfl, by decide +kernel, rfl, by decide +kernel, by decide +kernel⟩
abbrev sLOrder : Stmt := topS 52
abbrev nLOrder : List Str := ["_law_source_here", "_law_waits_here", "_law_left", "_law_found", "_law_turn", "_law_box", "_law_can"]
theorem cLOrder : FnScope nLOrder ["_law_source_here", "_law_waits_here"] (defScope sLOrder) := ⟨rfl, rfl, rfl, by decide +kernel, rfl, by decide +kernel, by decide +kernel⟩
abbrev sLDues : Stmt := topS 53
abbrev nLDues : List Str := ["_law_source_here", "_law_waits_here", "_law_order_here", "_law_slack", "_law_share", "_law_found", "_law_number_here", "_law_box", "_law_at", "_law_late", "_law_turn", "_law_pair"]
theorem cLDues : FnScope nLDues ["_law_source_here", "_law_waits_here", "_law_order_here", "_law_slack"] (defScope sLDues) := ⟨rfl, rfl, rfl, by decide +kernel, rfl, by decide +kernel, by decide +kernel⟩
abbrev sLUrgent : Stmt := topS 54
abbrev nLUrgent : List Str := ["_law_waits_here", "_law_dues_here", "_law_left", "_law_found", "_law_turn", "_law_box", "_law_can", "_law_soon"]
theorem cLUrgent : FnScope nLUrgent ["_law_waits_here", "_law_dues_here"] (defScope sLUrgent) := ⟨rfl, rfl, rfl, by decide +kernel, rfl, by decide +kernel, by decide +kernel⟩
abbrev sLKeeps : Stmt := topS 55
abbrev nLKeeps : List Str := ["_law_waits_here", "_law_dues_here", "_law_order_here", "_law_number_here", "_law_box"]
theorem cLKeeps : FnScope nLKeeps ["_law_waits_here", "_law_dues_here", "_law_order_here"] (defScope sLKeeps) := ⟨rfl, rfl, rfl, by decide +kernel, rfl, by decide +kernel, by decide +kernel⟩
abbrev sLLot : Stmt := topS 56
abbrev nLLot : List Str := ["_law_waits_here", "_law_dues_here", "_law_first_here", "_law_end", "_law_box"]
theorem cLLot : FnScope nLLot ["_law_waits_here", "_law_dues_here", "_law_first_here", "_law_end"] (defScope sLLot) := ⟨rfl, rfl, rfl, by decide +kernel, rfl, by decide +kernel, by decide +kernel⟩
abbrev sLFirst : Stmt := topS 57
abbrev nLFirst : List Str := ["_law_waits_here", "_law_dues_here", "_law_first_here", "_law_end", "_law_lot_here"]
theorem cLFirst : FnScope nLFirst ["_law_waits_here", "_law_dues_here"] (defScope sLFirst) := ⟨rfl, rfl, rfl, by decide +kernel, rfl, by decide +kernel, by decide +kernel⟩
abbrev sLOrders : Stmt := topS 58
abbrev nLOrders : List Str := ["_law_source_here", "_law_waits_here", "_law_dues_here", "_law_order_here", "_law_yard", "_law_one", "_law_told", "_law_several", "_law_turn", "_law_row", "_law_at", "_law_other", "_law_value", "_law_due", "_law_spoilt"]
theorem cLOrders : FnScope nLOrders ["_law_source_here", "_law_waits_here", "_law_dues_here", "_law_order_here", "_law_yard", "_law_one", "_law_told"] (defScope sLOrders) := ⟨rfl, rfl, rfl, by decide +kernel, rfl, by decide +kernel, by decide +kernel⟩
abbrev sLCrowds : Stmt := topS 59
abbrev nLCrowds : List Str := ["_law_source_here", "_law_waits_here", "_law_dues_here", "_law_yard", "_law_one", "_law_told", "_law_turn", "_law_first_here", "_law_end", "_law_lot_here", "_law_due", "_law_at", "_law_rows", "_law_value"]
theorem cLCrowds : FnScope nLCrowds ["_law_source_here", "_law_waits_here", "_law_dues_here", "_law_yard", "_law_one", "_law_told"] (defScope sLCrowds) := ⟨rfl, rfl, rfl, by decide +kernel, rfl, by decide +kernel, by decide +kernel⟩
abbrev sLWrong : Stmt := topS 60
abbrev nLWrong : List Str := ["_law_turn", "_law_yard", "_law_one", "_law_dues_here", "e"]
theorem cLWrong : FnScope nLWrong ["_law_turn", "_law_yard", "_law_one", "_law_dues_here"] (defScope sLWrong) := ⟨rfl, rfl, rfl, by decide +kernel, rfl, by decide +kernel, by decide +kernel⟩
abbrev sLErrors : Stmt := topS 61
abbrev nLErrors : List Str := ["_law_source_here", "_law_yard", "_law_one", "_law_lot_here", "_law_stranger", "_law_dues_here", "_law_at", "_law_low", "_law_behind", "_law_rows", "_law_pair", "_law_due", "_law_bent_here", "_law_told", "_law_box"]
theorem cLErrors : FnScope nLErrors ["_law_source_here", "_law_yard", "_law_one", "_law_lot_here", "_law_stranger"] (defScope sLErrors) := ⟨rfl, rfl, rfl, by decide +kernel, rfl, by decide +kernel, by decide +kernel⟩
abbrev sLaw : Stmt := topS 62
abbrev nLaw : List Str := ["_law_script", "_law_source_here", "_law_tall", "_law_heights_here", "_law_boxes", "_law_names_here", "_law_stranger", "_law_lot_here", "_law_yard", "_law_one", "_law_waits_here", "_law_order_here", "_law_told", "_law_dues_here", "_law_box", "_law_due", "_law_paper", "_law_urgent_here"]
theorem cLaw : FnScope nLaw ["_law_script"] (defScope sLaw) := ⟨rfl, rfl, rfl, by decide +kernel, rfl, by decide +kernel, by decide +kernel⟩
end K34
end
section
set_option linter.all false
/-! The plain law: who goes first by its due, and the crowd that shows that nobody can. No program here. -/
namespace K34
section
variable {T : Type} [DecidableEq T]

/-- b may go now as number n, and goes: of those that can, the one that is due first (or the first of them) -/
def IsPick (lt : T → T → Bool) (wait : T → Nat) (due : T → Option Int) (left : List T) (n : Nat) (b : T) : Prop :=
  b ∈ left ∧ wait b ≤ n ∧
    ((∃ d, due b = some d ∧ ∀ c ∈ left, wait c ≤ n → ∀ e, due c = some e → d < e ∨ (d = e ∧ lt c b = false)) ∨
      ((∀ c ∈ left, wait c ≤ n → due c = none) ∧ (left.filter fun c => decide (wait c ≤ n)).head? = some b))

theorem IsPick.uniq {lt : T → T → Bool} (tri : ∀ a b, lt a b = false → lt b a = false → a = b) {wait : T → Nat} {due : T → Option Int} {left : List T} {n : Nat} {b c : T}
    (h : IsPick lt wait due left n b) (k : IsPick lt wait due left n c) : b = c := by
  obtain ⟨h1, h2, h3⟩ := h
  obtain ⟨k1, k2, k3⟩ := k
  rcases h3 with ⟨d, hd, h4⟩ | ⟨h4, h5⟩
  · rcases k3 with ⟨e, he, k4⟩ | ⟨k4, k5⟩
    · have a := h4 c k1 k2 e he
      have a' := k4 b h1 h2 d hd
      rcases a with a | ⟨a, a2⟩
      · rcases a' with a' | ⟨a', a3⟩ <;> omega
      · rcases a' with a' | ⟨a', a3⟩
        · omega
        · exact tri b c a3 a2
    · rw [k4 b h1 h2] at hd
      cases hd
  · rcases k3 with ⟨e, he, k4⟩ | ⟨k4, k5⟩
    · rw [h4 c k1 k2] at he
      cases he
    · rw [h5] at k5
      exact Option.some.inj k5

open Classical in
/-- the pick, as a function -/
noncomputable def pk (lt : T → T → Bool) (wait : T → Nat) (due : T → Option Int) (left : List T) (n : Nat) : Option T :=
  if h : ∃ b, IsPick lt wait due left n b then some (choose h) else none
theorem pk_of {lt : T → T → Bool} (tri : ∀ a b, lt a b = false → lt b a = false → a = b) {wait : T → Nat} {due : T → Option Int} {left : List T} {n : Nat} {b : T}
    (h : IsPick lt wait due left n b) : pk lt wait due left n = some b := by
  unfold pk
  have e : ∃ b, IsPick lt wait due left n b := ⟨b, h⟩
  rw [dif_pos e]
  exact congrArg some ((Classical.choose_spec e).uniq tri h)
theorem pk_spec {lt : T → T → Bool} {wait : T → Nat} {due : T → Option Int} {left : List T} {n : Nat} {b : T}
    (h : pk lt wait due left n = some b) : IsPick lt wait due left n b := by
  unfold pk at h
  split at h
  · rename_i e
    have q := Classical.choose_spec e
    rw [Option.some.inj h] at q
    exact q
  · cases h

/-- the order in which each time the one that is due first goes -/
noncomputable def edf (lt : T → T → Bool) (wait : T → Nat) (due : T → Option Int) : Nat → List T → Nat → List T
  | 0, _, _ => []
  | k + 1, left, n => match pk lt wait due left n with
    | none => []
    | some b => b :: edf lt wait due k (left.erase b) (n + 1)

/-- from number n on each time somebody can go -/
def Feas (wait : T → Nat) (left : List T) (n : Nat) : Prop := ∀ t, n ≤ t → t < n + left.length → t + 1 ≤ n + left.countP fun c => decide (wait c ≤ t)

theorem count_erase {p : T → Bool} {l : List T} {b : T} (h : b ∈ l) : (l.erase b).countP p + (if p b = true then 1 else 0) = l.countP p := by
  have q : (b :: l.erase b).Perm l := (List.perm_cons_erase h).symm
  rw [← q.countP_eq p, List.countP_cons]

theorem Feas.erase {wait : T → Nat} {left : List T} {n : Nat} {b : T} (h : Feas wait left n) (hb : b ∈ left) (hw : wait b ≤ n) : Feas wait (left.erase b) (n + 1) := fun t h1 h2 => by
  have l1 := List.length_erase_of_mem hb
  have l0 := List.length_pos_of_mem hb
  have a := h t (by omega) (by omega)
  have c := count_erase (p := fun c => decide (wait c ≤ t)) hb
  rw [if_pos (decide_eq_true (show wait b ≤ t by omega))] at c
  omega
theorem Feas.some {wait : T → Nat} {left : List T} {n : Nat} (h : Feas wait left n) (h0 : 0 < left.length) : ∃ c ∈ left, wait c ≤ n := by
  have a := h n (Nat.le_refl _) (by omega)
  have b : 0 < left.countP fun c => decide (wait c ≤ n) := by omega
  obtain ⟨c, h1, h2⟩ := List.countP_pos_iff.mp b
  exact ⟨c, h1, of_decide_eq_true h2⟩

/-- the least of a list by a total order -/
theorem least_of {R : T → T → Prop} (refl : ∀ a, R a a) (tot : ∀ a b, R a b ∨ R b a) (tr : ∀ a b c, R a b → R b c → R a c) : ∀ l : List T, l ≠ [] → ∃ a ∈ l, ∀ b ∈ l, R a b
  | [], h => absurd rfl h
  | [a], _ => ⟨a, List.mem_singleton_self a, fun b hb => by rw [List.mem_singleton.mp hb]; exact refl a⟩
  | a :: c :: r, _ => by
    obtain ⟨m, h1, h2⟩ := least_of refl tot tr (c :: r) (List.cons_ne_nil _ _)
    rcases tot a m with h | h
    · refine ⟨a, List.mem_cons_self, fun b hb => ?_⟩
      rcases List.mem_cons.mp hb with e | e
      · rw [e]; exact refl a
      · exact tr _ _ _ h (h2 b e)
    · refine ⟨m, List.mem_cons_of_mem _ h1, fun b hb => ?_⟩
      rcases List.mem_cons.mp hb with e | e
      · rw [e]; exact h
      · exact h2 b e

structure Ord (lt : T → T → Bool) : Prop where
  tri : ∀ a b, lt a b = false → lt b a = false → a = b
  irr : ∀ a, lt a a = false
  asym : ∀ a b, lt a b = true → lt b a = false
  neg : ∀ a b c, lt a b = false → lt b c = false → lt a c = false

theorem IsPick.ex {lt : T → T → Bool} (O : Ord lt) {wait : T → Nat} {due : T → Option Int} {left : List T} {n : Nat} (h : ∃ c ∈ left, wait c ≤ n) : ∃ b, IsPick lt wait due left n b := by
  by_cases hd : ∃ c ∈ left, wait c ≤ n ∧ (due c).isSome = true
  · obtain ⟨c, c1, c2, c3⟩ := hd
    let l := left.filter fun c => decide (wait c ≤ n) && (due c).isSome
    have hl : ∀ x, x ∈ l ↔ x ∈ left ∧ wait x ≤ n ∧ (due x).isSome = true := fun x => by
      show x ∈ left.filter _ ↔ _
      rw [List.mem_filter, Bool.and_eq_true, decide_eq_true_iff]
    let g : T → Int := fun x => (due x).getD 0
    let R : T → T → Prop := fun a b => g a < g b ∨ (g a = g b ∧ lt b a = false)
    obtain ⟨m, m1, m2⟩ := least_of (R := R) (fun a => .inr ⟨rfl, O.irr a⟩)
      (fun a b => by
        show (_ ∨ _) ∨ (_ ∨ _)
        rcases Int.lt_trichotomy (g a) (g b) with h | h | h
        · exact .inl (.inl h)
        · cases e : lt b a with
          | false => exact .inl (.inr ⟨h, rfl⟩)
          | true => exact .inr (.inr ⟨h.symm, O.asym _ _ e⟩)
        · exact .inr (.inl h))
      (fun a b c h k => by
        show _ ∨ _
        rcases h with h | ⟨h, h'⟩
        · rcases k with k | ⟨k, k'⟩
          · exact .inl (by omega)
          · exact .inl (by omega)
        · rcases k with k | ⟨k, k'⟩
          · exact .inl (by omega)
          · exact .inr ⟨by omega, O.neg _ _ _ k' h'⟩) l (fun e => by
        have := (hl c).mpr ⟨c1, c2, c3⟩
        rw [e] at this
        cases this)
    obtain ⟨q1, q2, q3⟩ := (hl m).mp m1
    obtain ⟨d, q4⟩ := Option.isSome_iff_exists.mp q3
    refine ⟨m, q1, q2, .inl ⟨d, q4, fun x x1 x2 e x3 => ?_⟩⟩
    have r := m2 x ((hl x).mpr ⟨x1, x2, by rw [x3]; rfl⟩)
    have g1 : g m = d := by show (due m).getD 0 = d; rw [q4]; rfl
    have g2 : g x = e := by show (due x).getD 0 = e; rw [x3]; rfl
    have r' : g m < g x ∨ (g m = g x ∧ lt x m = false) := r
    rw [g1, g2] at r'
    exact r'
  · obtain ⟨c, c1, c2⟩ := h
    have hc : c ∈ left.filter fun c => decide (wait c ≤ n) := List.mem_filter.mpr ⟨c1, decide_eq_true c2⟩
    cases e : left.filter fun c => decide (wait c ≤ n) with
    | nil => rw [e] at hc; cases hc
    | cons b r =>
      have hb : b ∈ left.filter fun c => decide (wait c ≤ n) := by rw [e]; exact List.mem_cons_self
      obtain ⟨b1, b2⟩ := List.mem_filter.mp hb
      refine ⟨b, b1, of_decide_eq_true b2, .inr ⟨fun x x1 x2 => ?_, by rw [e]; rfl⟩⟩
      cases q : due x with
      | none => rfl
      | some d => exact absurd ⟨x, x1, x2, by rw [q]; rfl⟩ hd

/-- an order that goes by the dues, from number n on -/
def Goes (wait : T → Nat) (due : T → Option Int) : Nat → List T → Prop
  | _, [] => True
  | n, b :: r => wait b ≤ n ∧ (∀ c ∈ r, wait c ≤ n → ∀ e, due c = some e → ∃ d, due b = some d ∧ d ≤ e) ∧ Goes wait due (n + 1) r

theorem edf_ok {lt : T → T → Bool} (O : Ord lt) {wait : T → Nat} {due : T → Option Int} : ∀ (k : Nat) (left : List T) (n : Nat), left.length = k → Feas wait left n →
    (edf lt wait due k left n).Perm left ∧ Goes wait due n (edf lt wait due k left n)
  | 0, left, n, hl, _ => by
    have e : left = [] := List.eq_nil_of_length_eq_zero hl
    subst e
    exact ⟨.nil, True.intro⟩
  | k + 1, left, n, hl, hf => by
    obtain ⟨b, hb⟩ := IsPick.ex (lt := lt) (due := due) O (hf.some (by omega))
    have e := pk_of O.tri hb
    obtain ⟨b1, b2, b3⟩ := hb
    have l1 := List.length_erase_of_mem b1
    obtain ⟨p, g⟩ := edf_ok O (wait := wait) (due := due) k (left.erase b) (n + 1) (by omega) (hf.erase b1 b2)
    have ee : edf lt wait due (k + 1) left n = b :: edf lt wait due k (left.erase b) (n + 1) := by
      show (match pk lt wait due left n with | none => [] | some b => b :: edf lt wait due k (left.erase b) (n + 1)) = _
      rw [e]
    rw [ee]
    refine ⟨(p.cons b).trans (List.perm_cons_erase b1).symm, b2, fun c c1 c2 x c3 => ?_, g⟩
    have c4 : c ∈ left := List.mem_of_mem_erase (p.mem_iff.mp c1)
    rcases b3 with ⟨d, hd, h4⟩ | ⟨h4, _⟩
    · refine ⟨d, hd, ?_⟩
      rcases h4 c c4 c2 x c3 with h | ⟨h, _⟩ <;> omega
    · rw [h4 c c4 c2] at c3
      cases c3
theorem edf_step {lt : T → T → Bool} (O : Ord lt) {wait : T → Nat} {due : T → Option Int} {k : Nat} {left : List T} {n : Nat} {b : T} (h : IsPick lt wait due left n b) :
    edf lt wait due (k + 1) left n = b :: edf lt wait due k (left.erase b) (n + 1) := by
  show (match pk lt wait due left n with | none => [] | some b => b :: edf lt wait due k (left.erase b) (n + 1)) = _
  rw [pk_of O.tri h]

theorem Goes.split {wait : T → Nat} {due : T → Option Int} : ∀ {n : Nat} {pre : List T} {a : T} {post : List T}, Goes wait due n (pre ++ a :: post) →
    wait a ≤ n + pre.length ∧ ∀ c ∈ post, wait c ≤ n + pre.length → ∀ e, due c = some e → ∃ d, due a = some d ∧ d ≤ e
  | n, [], a, post, h => ⟨by simpa using h.1, fun c hc hw => h.2.1 c hc (by simpa using hw)⟩
  | n, b :: pre, a, post, h => by
    have h2 : Goes wait due (n + 1) (pre ++ a :: post) := h.2.2
    obtain ⟨q1, q2⟩ := Goes.split h2
    rw [List.length_cons]
    exact ⟨by omega, fun c hc hw => q2 c hc (by omega)⟩

/-- somebody goes too late: too many have to go within too few numbers -/
theorem late_crowd {wait : T → Nat} {due : T → Option Int} {d : Int} {p : Nat} (hdp : d ≤ p) : ∀ (m : Nat) (pre mid post : List T), pre.length = m → Goes wait due 0 (pre ++ (mid ++ post)) → mid ≠ [] → pre.length + mid.length = p + 1 →
    (∀ c ∈ mid, ∃ e, due c = some e ∧ e ≤ d) → ∃ (f e : Nat), f ≤ e ∧ e ≤ p ∧ ∃ L : List T, L.Sublist (pre ++ (mid ++ post)) ∧ e < f + L.length ∧ ∀ c ∈ L, f ≤ wait c ∧ ∃ x, due c = some x ∧ x ≤ (e : Int) := by
  have last : ∀ (pre mid post : List T), mid ≠ [] → pre.length + mid.length = p + 1 → (∀ c ∈ mid, ∃ e, due c = some e ∧ e ≤ d) → (∀ c ∈ mid, pre.length ≤ wait c) →
      ∃ (f e : Nat), f ≤ e ∧ e ≤ p ∧ ∃ L : List T, L.Sublist (pre ++ (mid ++ post)) ∧ e < f + L.length ∧ ∀ c ∈ L, f ≤ wait c ∧ ∃ x, due c = some x ∧ x ≤ (e : Int) := by
    intro pre mid post hm hl hd hw
    have m0 : 0 < mid.length := List.length_pos_iff.mpr hm
    refine ⟨pre.length, max pre.length d.toNat, Nat.le_max_left _ _, by omega, mid, ?_, by omega, fun c hc => ⟨hw c hc, ?_⟩⟩
    · exact (List.sublist_append_left mid post).trans (List.sublist_append_right _ _)
    · obtain ⟨x, h1, h2⟩ := hd c hc
      exact ⟨x, h1, by omega⟩
  intro m
  induction m with
  | zero =>
    intro pre mid post hp _ hm hl hd
    exact last pre mid post hm hl hd fun c _ => by omega
  | succ m ih =>
    intro pre mid post hp hg hm hl hd
    have hne : pre ≠ [] := fun e => by rw [e] at hp; cases hp
    have e := List.dropLast_concat_getLast hne
    have l1 : pre.dropLast.length = m := by rw [List.length_dropLast]; omega
    generalize pre.getLast hne = a at e
    generalize hq : pre.dropLast = q at e l1
    subst e
    have eq : (q ++ [a]) ++ (mid ++ post) = q ++ ((a :: mid) ++ post) := by simp
    by_cases ha : ∃ x, due a = some x ∧ x ≤ d
    · rw [eq] at hg ⊢
      rw [List.length_append, List.length_singleton] at hl
      refine ih q (a :: mid) post l1 hg (List.cons_ne_nil _ _) (by rw [List.length_cons]; omega) fun c hc => ?_
      rcases List.mem_cons.mp hc with z | z
      · rw [z]; exact ha
      · exact hd c z
    · refine last (q ++ [a]) mid post hm hl hd fun c hc => ?_
      have s := (Goes.split (n := 0) (pre := q) (a := a) (post := mid ++ post) (by rw [eq] at hg; exact hg)).2 c (List.mem_append_left _ hc)
      rw [List.length_append, List.length_singleton]
      apply Nat.le_of_not_lt
      intro hlt
      obtain ⟨x, x1, x2⟩ := hd c hc
      obtain ⟨y, y1, y2⟩ := s (by omega) x x1
      exact ha ⟨y, y1, by omega⟩

/-- the numbers from n on at which the boxes of an order go are told by a list of pairs -/
def Keeps (wait : T → Nat) (due : T → Option Int) : Nat → List T → Prop
  | _, [] => True
  | n, b :: r => wait b ≤ n ∧ (∀ d, due b = some d → (n : Int) < d) ∧ Keeps wait due (n + 1) r
def Waits (wait : T → Nat) : Nat → List T → Prop
  | _, [] => True
  | n, b :: r => wait b ≤ n ∧ Waits wait (n + 1) r
theorem Goes.waits {wait : T → Nat} {due : T → Option Int} : ∀ {n : Nat} {l : List T}, Goes wait due n l → Waits wait n l
  | _, [], _ => True.intro
  | _, _ :: _, h => ⟨h.1, Goes.waits h.2.2⟩
theorem Keeps.waits {wait : T → Nat} {due : T → Option Int} : ∀ {n : Nat} {l : List T}, Keeps wait due n l → Waits wait n l
  | _, [], _ => True.intro
  | _, _ :: _, h => ⟨h.1, Keeps.waits h.2.2⟩
theorem Waits.mem_drop {wait : T → Nat} : ∀ {n f : Nat} {l : List T} {c : T}, Waits wait n l → c ∈ l → n + f ≤ wait c → c ∈ l.drop f
  | n, 0, l, c, _, hc, _ => by simpa using hc
  | n, f + 1, [], c, _, hc, _ => by cases hc
  | n, f + 1, b :: r, c, h, hc, hw => by
    rcases List.mem_cons.mp hc with e | e
    · subst e
      have := h.1
      omega
    · show c ∈ r.drop f
      exact Waits.mem_drop (n := n + 1) (f := f) h.2 e (by omega)
theorem Keeps.mem_take {wait : T → Nat} {due : T → Option Int} : ∀ {n e : Nat} {l : List T} {c : T} {x : Int}, Keeps wait due n l → c ∈ l → due c = some x → x ≤ ((n + e : Nat) : Int) → c ∈ l.take e
  | n, e, [], c, x, _, hc, _, _ => by cases hc
  | n, e, b :: r, c, x, h, hc, hd, hx => by
    rcases List.mem_cons.mp hc with z | z
    · subst z
      have := h.2.1 x hd
      cases e with
      | zero => omega
      | succ e => exact List.mem_cons_self
    · cases e with
      | zero =>
        exfalso
        have key : ∀ (l : List T) (m : Nat), n < m → Keeps wait due m l → c ∈ l → False := by
          intro l
          induction l with
          | nil => intro m _ _ h; cases h
          | cons a t ih =>
            intro m hm hk hc
            rcases List.mem_cons.mp hc with z | z
            · subst z
              have := hk.2.1 x hd
              omega
            · exact ih (m + 1) (by omega) hk.2.2 z
        exact key r (n + 1) (by omega) h.2.2 z
      | succ e => exact List.mem_cons_of_mem _ (Keeps.mem_take (n := n + 1) h.2.2 z hd (by omega))
theorem nodup_len : ∀ {l m : List T}, l.Nodup → (∀ a ∈ l, a ∈ m) → l.length ≤ m.length
  | [], _, _, _ => Nat.zero_le _
  | a :: r, m, h, hs => by
    have h1 := List.nodup_cons.mp h
    have ha := hs a List.mem_cons_self
    have := nodup_len (l := r) (m := m.erase a) h1.2 fun b hb => (List.mem_erase_of_ne (fun e : b = a => h1.1 (by rw [← e]; exact hb))).mpr (hs b (List.mem_cons_of_mem _ hb))
    rw [List.length_erase_of_mem ha] at this
    have := List.length_pos_of_mem ha
    rw [List.length_cons]
    omega

theorem Waits.count {wait : T → Nat} {l L : List T} {f : Nat} (h : Waits wait 0 l) (hL : L.Nodup) (hs : ∀ c ∈ L, c ∈ l ∧ f ≤ wait c) : L.length ≤ l.length - f := by
  have := nodup_len hL fun c hc => Waits.mem_drop (n := 0) (f := f) h (hs c hc).1 (by have := (hs c hc).2; omega)
  rwa [List.length_drop] at this
theorem mem_drop_take {l : List T} (hn : l.Nodup) {f e : Nat} {c : T} (h1 : c ∈ l.drop f) (h2 : c ∈ l.take e) : c ∈ (l.take e).drop f := by
  obtain ⟨i, hi, ei⟩ := List.mem_iff_getElem.mp h1
  obtain ⟨j, hj, ej⟩ := List.mem_iff_getElem.mp h2
  rw [List.getElem_drop] at ei
  rw [List.getElem_take] at ej
  have e : f + i = j := (List.getElem_inj hn).mp (ei.trans ej.symm)
  subst e
  have hj' : i < ((l.take e).drop f).length := by
    rw [List.length_drop]
    omega
  refine List.mem_iff_getElem.mpr ⟨i, hj', ?_⟩
  rw [List.getElem_drop, List.getElem_take]
  exact ei
theorem Keeps.count {wait : T → Nat} {due : T → Option Int} {l L : List T} {f e : Nat} (hn : l.Nodup) (h : Keeps wait due 0 l) (hL : L.Nodup) (hs : ∀ c ∈ L, c ∈ l ∧ f ≤ wait c ∧ ∃ x, due c = some x ∧ x ≤ (e : Int)) : L.length ≤ e - f := by
  have q := nodup_len (m := (l.take e).drop f) hL fun c hc => by
    obtain ⟨a, b, x, x1, x2⟩ := hs c hc
    exact mem_drop_take hn (Waits.mem_drop (n := 0) h.waits a (by omega)) (Keeps.mem_take (n := 0) h a x1 (by omega))
  rw [List.length_drop, List.length_take] at q
  omega
/-- an order that goes by the dues keeps them, or somebody goes too late -/
theorem Goes.keeps_or {wait : T → Nat} {due : T → Option Int} : ∀ {n : Nat} {l : List T}, Goes wait due n l → Keeps wait due n l ∨ ∃ pre b post d, l = pre ++ b :: post ∧ due b = some d ∧ d ≤ ((n + pre.length : Nat) : Int)
  | _, [], _ => .inl True.intro
  | n, b :: r, h => by
    cases e : due b with
    | some d =>
      by_cases hd : (n : Int) < d
      · rcases Goes.keeps_or h.2.2 with k | ⟨pre, c, post, x, e1, e2, e3⟩
        · exact .inl ⟨h.1, fun y hy => by (rw [e] at hy; cases hy; exact hd), k⟩
        · exact .inr ⟨b :: pre, c, post, x, by rw [e1]; rfl, e2, by rw [List.length_cons]; omega⟩
      · exact .inr ⟨[], b, r, d, rfl, e, by simp; omega⟩
    | none =>
      rcases Goes.keeps_or h.2.2 with k | ⟨pre, c, post, x, e1, e2, e3⟩
      · exact .inl ⟨h.1, fun y hy => by (rw [e] at hy; cases hy), k⟩
      · exact .inr ⟨b :: pre, c, post, x, by rw [e1]; rfl, e2, by rw [List.length_cons]; omega⟩
end
end K34
end
section
set_option linter.all false
set_option maxRecDepth 100000
/-! What the text's top leaves; defs by their names; values whose kind is told. -/
namespace K34
open PySem PySem.Spec PyProof.Rows L2
/-- a def of the text, by its name -/
structure Df (K : PySem.W.Frag) (mg : Str → Option Value) (x : Str) (st : Stmt) (ps : List Str) : Prop where
  ex : ∃ f fd, Fun K x x st f fd ∧ mg x = some (.ref f) ∧ Binds K fd ps []
theorem df_mk {K : PySem.W.Frag} {h : Heap} {mg : Str → Option Value} (X : K.In h) (G : h.Ns mainGlobals mg) {x : Str} {st : Stmt} {ps : List Str} {f : Addr}
    {oc : Value} {od an : Option Addr} {osl : Array (Option Value)} {kV doc pm cdv ct : Value} (a : PySem.W.nsIn K mainGlobals x = some (some (.ref f)))
    (l : K.lookup f = some ⟨oc, od, .func (PySem.W.fnOf x x (defArgs st) (defBody st) (defScope st) .none kV doc pm an cdv ct), osl⟩)
    (c : PySem.W.codeIn K cdv x = true) (k : PySem.W.keepIn K (.ref f) = true)
    (h : ∀ (kV doc pm : Value) (an : Option Addr) (cdv ct : Value) (us : List Value), us.length = ps.length → bindArgs (PySem.W.fnOf x x (defArgs st) (defBody st) (defScope st) .none kV doc pm an cdv ct) ⟨us, []⟩ = pure (ps.zip us)) : Df K mg x st ps :=
  have F := fun_mk (st := st) l c k
  ⟨f, _, F, PySem.W.mg_of X G a, F.binds h⟩
/-- where the classes stand -/
structure Ad where
  Y : Addr
  C : Addr
/-- what isinstance asks of an own class, as the class of a value -/
structure InsK (K : PySem.W.Frag) (C : Addr) : Prop where
  cl : Cls K C
  ha : PySem.W.findIn K (.ref C) "__class__" = some (some (.builtin "object.__class__"))
  hn : PySem.W.specialIn K (.builtin "object.__class__") "__get__" = some (some (.builtin "getset_descriptor.__get__"))
  htk : PySem.W.takesIn K (.builtin "object.__class__") = some true
  hm : PySem.W.mroIn K C (.type "object") = some true
  me : PySem.W.kitOne K (.ref C) (.ref C) = some true
theorem InsK.ty {K : PySem.W.Frag} {C : Addr} (i : InsK K C) {H : Hp} {p dx : Addr} {fs : List (Str × V)} (e : H p = some (.ins C dx fs)) : TyX K H (.ref p) (.ref C) := .base (.ins e i.cl i.ha i.hn i.htk i.hm)
structure Tx (K : PySem.W.Frag) (mg : Str → Option Value) (a : Ad) : Prop where
  m_isinstance : mg "isinstance" = none
  m_int : mg "int" = none
  m_bool : mg "bool" = none
  m_str : mg "str" = none
  m_list : mg "list" = none
  m_tuple : mg "tuple" = none
  m_len : mg "len" = none
  m_all : mg "all" = none
  m_sorted : mg "sorted" = none
  m_set : mg "set" = none
  m_enumerate : mg "enumerate" = none
  m_sum : mg "sum" = none
  m_max : mg "max" = none
  m_min : mg "min" = none
  m_range : mg "range" = none
  m_abs : mg "abs" = none
  m_repr : mg "repr" = none
  dIsInteger : Df K mg "is_integer" sIsInteger ["value"]
  dIsNumber : Df K mg "is_number" sIsNumber ["value"]
  dIsBelow : Df K mg "is_below" sIsBelow ["value", "bound"]
  dIsText : Df K mg "is_text" sIsText ["value"]
  dIsSequence : Df K mg "is_sequence" sIsSequence ["value"]
  dIsName : Df K mg "is_name" sIsName ["value"]
  dNeedNumber : Df K mg "need_number" sNeedNumber ["value", "bound", "word"]
  dLotOf : Df K mg "lot_of" sLotOf ["things"]
  dPlaces : Df K mg "places" sPlaces ["yard"]
  dCoverOf : Df K mg "cover_of" sCoverOf ["yard", "stack", "level"]
  dNeedStanding : Df K mg "need_standing" sNeedStanding ["yard", "value"]
  dFreePlaces : Df K mg "free_places" sFreePlaces ["yard", "standing"]
  dBoxesOf : Df K mg "boxes_of" sBoxesOf ["standing"]
  dNeedGoings : Df K mg "need_goings" sNeedGoings ["yard", "standing", "value"]
  dWaitTable : Df K mg "wait_table" sWaitTable ["yard", "standing"]
  dDueTable : Df K mg "due_table" sDueTable ["yard", "standing", "dues"]
  dUrgentOrder : Df K mg "urgent_order" sUrgentOrder ["waits", "table"]
  dInTime : Df K mg "in_time" sInTime ["order", "table"]
  dCrowded : Df K mg "crowded" sCrowded ["waits", "table", "first", "end"]
  dFirstCrowd : Df K mg "first_crowd" sFirstCrowd ["waits", "table"]
  dDueOrder : Df K mg "due_order" sDueOrder ["yard", "standing", "dues"]
  dIsOrder : Df K mg "is_order" sIsOrder ["yard", "standing", "value"]
  dCheckDues : Df K mg "check_dues" sCheckDues ["yard", "standing", "dues", "value"]
  dLSource : Df K mg "_law_source" sLSource ["_law_script", "_law_base"]
  dLNumber : Df K mg "_law_number" sLNumber ["_law_source_here", "_law_bound"]
  dLOf : Df K mg "_law_of" sLOf ["_law_source_here", "_law_some"]
  dLMixed : Df K mg "_law_mixed" sLMixed ["_law_source_here", "_law_some"]
  dLNames : Df K mg "_law_names" sLNames ["_law_source_here", "_law_many"]
  dLHeights : Df K mg "_law_heights" sLHeights ["_law_source_here", "_law_many", "_law_tall", "_law_most"]
  dLFilled : Df K mg "_law_filled" sLFilled ["_law_source_here", "_law_heights_here", "_law_boxes"]
  dLBent : Df K mg "_law_bent" sLBent ["_law_source_here", "_law_one"]
  dLWaits : Df K mg "_law_waits" sLWaits ["_law_heights_here", "_law_one"]
  dLOrder : Df K mg "_law_order" sLOrder ["_law_source_here", "_law_waits_here"]
  dLDues : Df K mg "_law_dues" sLDues ["_law_source_here", "_law_waits_here", "_law_order_here", "_law_slack"]
  dLUrgent : Df K mg "_law_urgent" sLUrgent ["_law_waits_here", "_law_dues_here"]
  dLKeeps : Df K mg "_law_keeps" sLKeeps ["_law_waits_here", "_law_dues_here", "_law_order_here"]
  dLLot : Df K mg "_law_lot" sLLot ["_law_waits_here", "_law_dues_here", "_law_first_here", "_law_end"]
  dLFirst : Df K mg "_law_first" sLFirst ["_law_waits_here", "_law_dues_here"]
  dLOrders : Df K mg "_law_orders" sLOrders ["_law_source_here", "_law_waits_here", "_law_dues_here", "_law_order_here", "_law_yard", "_law_one", "_law_told"]
  dLCrowds : Df K mg "_law_crowds" sLCrowds ["_law_source_here", "_law_waits_here", "_law_dues_here", "_law_yard", "_law_one", "_law_told"]
  dLWrong : Df K mg "_law_wrong" sLWrong ["_law_turn", "_law_yard", "_law_one", "_law_dues_here"]
  dLErrors : Df K mg "_law_errors" sLErrors ["_law_source_here", "_law_yard", "_law_one", "_law_lot_here", "_law_stranger"]
  dLaw : Df K mg "law" sLaw ["_law_script"]
  gLetters : ∃ u, mg "LETTERS" = some u ∧ RelV (.str "abcdefghijklmnopqrstuvwxyz") u
  gLongest : ∃ u, mg "LONGEST" = some u ∧ RelV (.int 8) u
  gFewest : ∃ u, mg "FEWEST" = some u ∧ RelV (.int 3) u
  gMost : ∃ u, mg "MOST" = some u ∧ RelV (.int 12) u
  gY : mg "Yard" = some (.ref a.Y)
  clY : Cls K a.Y
  mkY : ∃ f fd, Mk K a.Y f ∧ Fun K "__init__" "Yard.__init__" sYardInit f fd ∧ Binds K fd ["self", "heights"] []
  naY : NoAttr K a.Y "heights"
  gC : mg "Crowd" = some (.ref a.C)
  clC : Cls K a.C
  mkC : ∃ f fd, Mk K a.C f ∧ Fun K "__init__" "Crowd.__init__" sCrowdInit f fd ∧ Binds K fd ["self", "first", "end", "boxes"] []
  naC1 : NoAttr K a.C "first"
  naC2 : NoAttr K a.C "end"
  naC3 : NoAttr K a.C "boxes"
  isC : InsK K a.C
  nisC : ∀ t ∈ (["NoneType", "int", "list", "tuple", "str", "bool"] : List String), PySem.W.kitOne K (.type t) (.ref a.C) = some false
/-! ### calls by name -/
structure Ca (P : Program) (w : World) (K : PySem.W.Frag) (mg : Str → Option Value) (base : Heap) (CX : CXT) (k : Nat) (x : Str) (sp : Sp) : Prop where
  ex : ∃ (f : Addr) (fd : FuncData) (ps : List Str), FnOk P w K mg base CX k f fd ps sp ∧ mg x = some (.ref f) ∧ PySem.W.keepIn K (.ref f) = true ∧ Binds K fd ps []
section
variable {X : Cx} {CX : CXT} {k j : Nat} {x : Str} {sp : Sp} {E : XK} {p pos : Pos} {e : Expr} {es : List Expr} {t : TA}
theorem pe_ca (c : Ca X.prog X.w X.K X.mg X.base CX k x sp) (hr : Room j X.A) (hk : k ≤ j) (hx : Passes CX X E) (hg : Gl X x) (ha : PA X (e :: es) t)
    (hdb : (x == ("__debug__" : Str)) = false := by decide) (he : starEach (e :: es) X.env = (false, eval e X.env) :: starEach es X.env := by rfl) (hpl : (backTo pos (starEach es X.env)).any (·.1) = false := by rfl) :
    PE X (.Call (.Name x p) (e :: es) [] pos) (tCall sp [] E t) := by
  obtain ⟨f, fd, ps, F, hm, kp, b⟩ := c.ex
  exact pe_call F (hr.mono hk) hg hm kp b .nil hx ha hdb he hpl
/-- of a def that lets nothing out -/
theorem pe_c0 (c : Ca X.prog X.w X.K X.mg X.base CX0 k x sp) (hr : Room j X.A) (hk : k ≤ j) (hg : Gl X x) (ha : PA X (e :: es) t)
    (hdb : (x == ("__debug__" : Str)) = false := by decide) (he : starEach (e :: es) X.env = (false, eval e X.env) :: starEach es X.env := by rfl) (hpl : (backTo pos (starEach es X.env)).any (·.1) = false := by rfl) :
    PE X (.Call (.Name x p) (e :: es) [] pos) (tCall sp [] E0 t) := pe_ca c hr hk pass0 hg ha hdb he hpl
/-- of a def that may raise, where it raises nothing -/
theorem pe_cX (c : Ca X.prog X.w X.K X.mg X.base (L2.CX X.prog X.w) k x sp) (hr : Room j X.A) (hk : k ≤ j) (hg : Gl X x) (ha : PA X (e :: es) t)
    (hdb : (x == ("__debug__" : Str)) = false := by decide) (he : starEach (e :: es) X.env = (false, eval e X.env) :: starEach es X.env := by rfl) (hpl : (backTo pos (starEach es X.env)).any (·.1) = false := by rfl) :
    PE X (.Call (.Name x p) (e :: es) [] pos) (tCall sp [] E0 t) := pe_ca c hr hk passL hg ha hdb he hpl
end
section
variable {P : Program} {w : World} {K : PySem.W.Frag} {mg : Str → Option Value} {base : Heap}
/-- a def's promise by its body -/
theorem ca0 {x : Str} {st : Stmt} {N ps : List Str} {k : Nat} {sp : Sp} (D : Df K mg x st ps) (S : FnScope N ps (defScope st)) (len : ∀ vs H Q E, sp vs H Q E → vs.length = ps.length)
    (hbody : ∀ (f : Addr) (cdv : Value) (A : Around) (outer : List Env) (s : Shared) (H : Hp) (vs : List V) (Q : VK) (E : XK), Room k (A.deeper (envOfC x (defScope st) s.heap.objs.size f cdv)) → sp vs H Q E →
      ∃ t, PSs (cxOf CX0 P w K mg base N x (defScope st) f cdv A outer s H E).nox (defBody st) t ∧ t { nx := fun _ H' => Q .non H', rt := Q } (start N vs) H) : Ca P w K mg base CX0 (k + 1) x sp := by
  obtain ⟨f, fd, F, g, b⟩ := D.ex
  exact ⟨f, fd, ps, F.ok S len fun cdv A outer s H vs Q E hr h => hbody f cdv A outer s H vs Q E hr h, g, F.kp, b⟩
theorem caX {x : Str} {st : Stmt} {N ps : List Str} {k : Nat} {sp : Sp} (D : Df K mg x st ps) (S : FnScope N ps (defScope st)) (len : ∀ vs H Q E, sp vs H Q E → vs.length = ps.length)
    (hbody : ∀ (f : Addr) (cdv : Value) (A : Around) (outer : List Env) (s : Shared) (H : Hp) (vs : List V) (Q : VK) (E : XK), Room k (A.deeper (envOfC x (defScope st) s.heap.objs.size f cdv)) → sp vs H Q E →
      ∃ t, PSs (cxOf (L2.CX P w) P w K mg base N x (defScope st) f cdv A outer s H E) (defBody st) t ∧ t { nx := fun _ H' => Q .non H', rt := Q } (start N vs) H) : Ca P w K mg base (L2.CX P w) (k + 1) x sp := by
  obtain ⟨f, fd, F, g, b⟩ := D.ex
  exact ⟨f, fd, ps, F.okX S len fun cdv A outer s H vs Q E hr h => hbody f cdv A outer s H vs Q E hr h, g, F.kp, b⟩
/-! ### values of a told kind -/
def isIntV : V → Bool
  | .int _ => true
  | .bl _ => true
  | _ => false
def isBlV : V → Bool
  | .bl _ => true
  | _ => false
def isStrV : V → Bool
  | .str _ => true
  | _ => false
theorem flat_ty (H : Hp) : ∀ {v : V}, flatV v = true → ∃ t, TyX K H v t ∧ PySem.W.kitOne K t (.type "int") = some (isIntV v) ∧ PySem.W.kitOne K t (.type "bool") = some (isBlV v) ∧ PySem.W.kitOne K t (.type "str") = some (isStrV v)
  | .non, _ => ⟨_, .base .non, kit_ty (r := false) (by decide +kernel), kit_ty (r := false) (by decide +kernel), kit_ty (r := false) (by decide +kernel)⟩
  | .bl _, _ => ⟨_, .base (.bl _), kit_ty (r := true) (by decide +kernel), kit_ty (r := true) (by decide +kernel), kit_ty (r := false) (by decide +kernel)⟩
  | .int _, _ => ⟨_, .base (.int _), kit_ty (r := true) (by decide +kernel), kit_ty (r := false) (by decide +kernel), kit_ty (r := false) (by decide +kernel)⟩
  | .str _, _ => ⟨_, .base (.str _), kit_ty (r := false) (by decide +kernel), kit_ty (r := false) (by decide +kernel), kit_ty (r := true) (by decide +kernel)⟩
  | .byt _, h => nomatch h
  | .flt _, h => nomatch h
  | .ref _, h => nomatch h
  | .ty _, h => nomatch h
end
end K34
end
section
set_option linter.all false
set_option maxRecDepth 100000
set_option maxHeartbeats 4000000
/-! Own exceptions whose __init__ says super().__init__(..) and keeps one thing: over own classes, over KeyError. -/
namespace K34
open PySem PySem.W PySem.Calls PyProof.Rows PySem.HandSPX
open PySem.Builtin PySem.Builtin.ObjectAttr
/-! ### what the built-in base says -/
structure IniF (B initId : String) : Prop where
  kx : KxsFacts B initId
  entry : entryFor table initId = some Builtin.«BaseException.__init__»
  kind : builtinKind initId = some .slot
  row : Manifest.signature? initId = some ⟨.positional, "*", B, .self, [⟨"args", .varPos, false⟩]⟩
  noStar : (B != "*") = true
  plain : plainId initId = true
theorem ini_Exc : IniF "Exception" "Exception.__init__" := ⟨kxs_Exception, F.excBase_Exception.initEntry, F.excBase_Exception.initKind, F.excBase_Exception.initRow, F.excBase_Exception.noStar, F.excBase_Exception.init.plain⟩
theorem ini_Key : IniF "KeyError" "KeyError.__init__" where
  kx := ⟨by show builtinType _ = _; rw [builtinType_eq_fast]; kernel_rfl, by first | kernel_rfl | rfl⟩
  entry := excClass_KeyError.initEntry
  kind := excClass_KeyError.initKind
  row := excClass_KeyError.initSig
  noStar := excClass_KeyError.notStar
  plain := excClass_KeyError.init.plain
/-- a chain above the class: who makes, who is no other's -/
structure Chn (Bn newId : String) (bmB : List Value) (Bi initId : String) (tl : List Value) : Prop where
  fn : ExcBaseFacts Bn newId (Bn ++ ".__init__") bmB
  fi : IniF Bi initId
  hB : tl.contains (.type Bn) = true
  hA : tl.contains (.type "AttributeError") = false
  hN : tl.contains (.type "NameError") = false
  hO : tl.contains (.type "object") = true
  hP : ∀ self : Value, refuseLoop self "__setattr__" tl = pure ()
theorem pass_Key (self : Value) : refuseLoop self "__setattr__" [.type "KeyError", .type "LookupError", .type "Exception", .type "BaseException", .type "object"] = pure () := by kernel_rfl
theorem chn_Key : Chn "LookupError" "LookupError.__new__" [.type "LookupError", .type "Exception", .type "BaseException", .type "object"] "KeyError" "KeyError.__init__" [.type "KeyError", .type "LookupError", .type "Exception", .type "BaseException", .type "object"] :=
  ⟨F.excBase_LookupError, ini_Key, by decide +kernel, by decide +kernel, by decide +kernel, by decide +kernel, pass_Key⟩
theorem chn_Own (Y : Addr) : Chn "Exception" "Exception.__new__" [.type "Exception", .type "BaseException", .type "object"] "Exception" "Exception.__init__" (.ref Y :: [.type "Exception", .type "BaseException", .type "object"]) :=
  ⟨F.excBase_Exception, ini_Exc, by rfl, by rfl, by rfl, by rfl, fun self => by rw [refuseLoop_ref]; exact F.store_Exception.passes self⟩
section
variable {prog : Program} {w : World} {M : Model} {A : Around} {E : Value → Shared → Prop} {R : Result → Shared → Prop} {h : Heap} {g : Array GenState} {d : Drawn} {t : Nat} {os : OsState}
variable {nm q : Str} {C N : Addr} {bs tl bmB : List Value} {hdct : Bool} {sn : List Str} {sub : List Value} {ab : Bool} {col : Option Bool} {dd : Option Addr} {k0 k1 k2 k3 k5 : Option Value} {Bn newId Bi initId : String}
/-! ### the class called: __new__ of its built-in base, then its own __init__ -/
theorem chk_new (F : Chn Bn newId bmB Bi initId tl) {rest : List Value} {Q : Unit → Shared → Prop} (hC : h.get? C = some (excClassObj nm q C N bs tl hdct sn sub ab col dd k0 k1 k2 k3 k5 newId))
    (hq : Q () ⟨h, g, d, t, os⟩) : wpAny M A (checkBuiltinCall newId ⟨.ref C :: rest, []⟩) Q E ⟨h, g, d, t, os⟩ := by
  have hB : (Value.ref C :: tl).contains (.type Bn) = true := by rw [List.contains_cons, F.hB, Bool.or_true]
  have hs := F.fn.noStar
  simp only [checkBuiltinCall, F.fn.newKind, F.fn.newSplit, F.fn.newRow]
  repeat (first | refine wpAny_loadPart_at hC ?_ | (refine wpAny_isSubtype_exc hC ?_; rw [hB]) | refine wpAny_staticBase_exc hC ?_ | refine wpAny_madeBy_exc hC ?_ | simp only [bne_self_eq_false, Bool.false_eq_true, if_false] | wp_step)
  exact hq
theorem run_new (F : Chn Bn newId bmB Bi initId tl) {rest : List Value} (hC : h.get? C = some (excClassObj nm q C N bs tl hdct sn sub ab col dd k0 k1 k2 k3 k5 newId)) (hz : rest.length ≤ sizeLine)
    (hq : R (.ok (.ret (.ref (h.objs.size + 1)))) ⟨(h.push (kdv_tup rest)).push (excO C h.objs.size), g, d, t, os⟩) :
    codeAny (model prog w) A (.builtin newId ⟨.ref C :: rest, []⟩) R ⟨h, g, d, t, os⟩ := by
  have he := F.fn.ends
  have hB : (Value.ref C :: tl).contains (.type Bn) = true := by rw [List.contains_cons, F.hB, Bool.or_true]
  have hA : (Value.ref C :: tl).contains (.type "AttributeError") = false := by rw [List.contains_cons, F.hA]; rfl
  have hN : (Value.ref C :: tl).contains (.type "NameError") = false := by rw [List.contains_cons, F.hN]; rfl
  refine codeAny_builtinAt F.fn.entry ?_
  unfold Builtin.«BaseException.__new__»
  refine PySem.wpAt_bind ?_
  show PySem.wpAt _ _ _ (stack >>= _) _ _ _
  refine PySem.wpAt_bind (PySem.wpAt_stack fun p below => PySem.wpAt_of_wpAny ?_)
  wp_walk
  refine PySem.wpAt_of_wpAny ?_
  rw [F.fn.owner]
  repeat (first | with_reducible refine wpAny_madeHere_exc F.fn.canon hC ?_ | with_reducible refine wpAny_loadPart_at hC ?_ | (with_reducible refine wpAny_isSubtype_exc hC ?_; first | rw [hB] | rw [hA] | rw [hN]) | wp_step)
  show R _ _
  rw [Heap.size_push]
  exact hq
theorem run_typeCall (F : Chn Bn newId bmB Bi initId tl) {rest : List Value} {fI : Addr} {Q : Fin → Shared → Prop} (hC : h.get? C = some (excClassObj nm q C N bs tl hdct sn sub ab col dd k0 k1 k2 k3 k5 newId))
    (hi : Looks (model prog w) h (typeLookup (.ref C) "__init__") (some (.ref fI))) (hb : ∀ self, Looks (model prog w) h (bindSpecial (.ref fI) self) (.ref fI, [self])) (hz : rest.length ≤ sizeLine)
    (hq : codeAny (model prog w) A (.call (.ref fI) ⟨.ref (h.objs.size + 1) :: rest, []⟩) (fun r s' => match r with | .ok (.ret v) => v = .none ∧ Q (.done (.ret (.ref (h.objs.size + 1)))) s' | .ok _ => False | .error e => E e s')
      ⟨(h.push (kdv_tup rest)).push (excO C h.objs.size), g, d, t, os⟩) : wpAny (model prog w) A (Builtin.«type.__call__» ⟨.ref C :: rest, []⟩) Q E ⟨h, g, d, t, os⟩ := by
  repeat (first | with_reducible refine wpAny_loadPart_at hC ?_ | with_reducible refine wpAny_madeBy_exc hC ?_ | wp_step)
  refine codeAny_call_builtin_code (Code.quiet_builtin _ F.fn.quiet) (chk_new F hC (run_new F hC hz ?_))
  show wpAny _ _ _ _ _ _
  have k : ∀ b o, h.get? b = some o → ((h.push (kdv_tup rest)).push (excO C h.objs.size)).get? b = some o := fun b o e => Heap.get?_push_of_some _ (Heap.get?_push_of_some _ e)
  have C1 := k _ _ hC
  have x1 : ((h.push (kdv_tup rest)).push (excO C h.objs.size)).get? (h.objs.size + 1) = some (excO C h.objs.size) := by heap_get
  have cc : (Value.ref C :: tl).contains (.ref C) = true := by simp
  have i1 := hi.keeps k
  have b1 := (hb (.ref (h.objs.size + 1))).keeps k
  unfold isInstance
  repeat (first | with_reducible refine wpAny_loadPart_at x1 ?_ | (with_reducible refine wpAny_isSubtype_exc C1 ?_; rw [cc]) | wp_step)
  show wpAny _ _ (typeLookup (.ref C) _) _ _ _
  refine i1.at (wpAny_holding (wpAny_bind (b1.at (wpAny_bind (wpAny_call (codeAny_mono hq fun r s' z => ?_))))))
  rcases r with e | (v | _ | _ | _) <;> first | exact z | exact z.elim | skip
  obtain ⟨rfl, z⟩ := z
  first
    | exact wpAny_pure (wpAny_pure z)
    | (wp_walk; exact z)
theorem run_class (F : Chn Bn newId bmB Bi initId tl) {rest : List Value} {fI : Addr} (hC : h.get? C = some (excClassObj nm q C N bs tl hdct sn sub ab col dd k0 k1 k2 k3 k5 newId))
    (hi : Looks (model prog w) h (typeLookup (.ref C) "__init__") (some (.ref fI))) (hb : ∀ self, Looks (model prog w) h (bindSpecial (.ref fI) self) (.ref fI, [self])) (hz : rest.length ≤ sizeLine)
    (hq : codeAny (model prog w) (A.under (.builtin "type.__call__" ⟨.ref C :: rest, []⟩)) (.call (.ref fI) ⟨.ref (h.objs.size + 1) :: rest, []⟩) (InitBack (h.objs.size + 1) R) ⟨(h.push (kdv_tup rest)).push (excO C h.objs.size), g, d, t, os⟩) :
    codeAny (model prog w) A (.call (.ref C) ⟨rest, []⟩) R ⟨h, g, d, t, os⟩ := by
  have f1 := tc_lookup
  have f2 := tc_bind (.ref C)
  have hTy : (⟨h, g, d, t, os⟩ : Shared).TypeIs (.ref C) "type" := ⟨_, hC, rfl⟩
  refine codeAny_of_tree ?_
  show wpAny _ _ (callAny (.ref C) _) _ _ _
  repeat (any_goals (first | assumption | with_reducible refine wpAny_loadPart_at hC ?_ | wp_step))
  refine ⟨rfl, codeAny_call_builtin_at (Code.quiet_builtin _ (by decide +kernel)) entry_typeCall (wpAny_check_type_call_sub hC (run_typeCall F hC hi hb hz (codeAny_mono hq fun r s' z => ?_)))⟩
  rcases r with e | (v | _ | _ | _) <;> exact z
/-! ### super().__init__(..): the built-in bound, called -/
theorem chk_bound (F : IniF Bi initId) {e : Addr} {oe : Obj} {rest : List Value} {Q : Unit → Shared → Prop}
    (hC : h.get? C = some (excClassObj nm q C N bs tl hdct sn sub ab col dd k0 k1 k2 k3 k5 newId)) (he : h.get? e = some oe) (hcls : oe.cls = .ref C) (hq : Q () ⟨h, g, d, t, os⟩) :
    wpAny M A (checkBoundCall initId ⟨.ref e :: rest, []⟩) Q E ⟨h, g, d, t, os⟩ := by
  have hs := F.noStar
  simp only [checkBoundCall, F.kind, F.row]
  repeat (first | (with_reducible refine wpAny_loadPart_at he ?_; rw [hcls]) | with_reducible refine wpAny_loadPart_at hC ?_ | wp_step)
  refine wpAny_onRaise ?_
  rw [show ∀ (a b : String) (n : Nat), Bind.check ⟨.positional, "*", Bi, .self, [⟨"args", .varPos, false⟩]⟩ a b n (List.map (fun x => x.fst) ({ pos := Value.ref e :: rest } : Args).kw) = pure () from
    fun a b n => check_star_args _ _ _ _ _ _]
  exact wpAny_pure hq
theorem run_bound (F : IniF Bi initId) {u e t0 : Addr} {rest : List Value} {Q : Value → Shared → Prop}
    (hC : h.get? C = some (excClassObj nm q C N bs tl hdct sn sub ab col dd k0 k1 k2 k3 k5 newId)) (he : h.get? e = some (excO C t0)) (hu : h.get? u = some (kxs_mw initId e)) (hrest : rest.length ≤ sizeLine)
    (hq : ∀ h' t1, (∀ b o, b ≠ e → h.get? b = some o → h'.get? b = some o) → h'.get? e = some (excO C t1) → Q .none ⟨h', g, d, t, os⟩) :
    wpAny (model prog w) A (call (.ref u) rest) Q E ⟨h, g, d, t, os⟩ := by
  refine wpAny_call (codeAny_of_tree ?_)
  show wpAny _ A.in1 (callAny (.ref u) ⟨rest, []⟩) _ _ _
  simp only [callAny]
  refine wpAny_bind (wpAny_load hu ?_)
  simp only [kxs_mw, show (Value.type "method-wrapper" == Value.type "method" || Value.type "method-wrapper" == Value.type "builtin_function_or_method" || Value.type "method-wrapper" == Value.type "method-wrapper") = true by decide, if_true]
  refine KFB.if_so (by decide) (wpAny_bind (chk_bound F hC he rfl (wpAny_bind (wpAny_pure (wpAny_pure ?_)))))
  refine ⟨plainId_quiet F.plain _, codeAny_builtin F.entry ?_⟩
  exact exc_init_tree (cls := .ref C) (t0 := t0) (dv := none) (c2 := .none) (c3 := .none) (b4 := .bool false) he hrest fun h' k e' _ => hq h' _ k e'
/-! ### self.f = v, the first field -/
theorem store_first (F : Chn Bn newId bmB Bi initId tl) {K : Frag} {name : Str} {tk : Tok} {v : Value} {x : Addr} {fv : Array Value} {cd : ClassData}
    (X : K.In h) (hx : h.get? x = some { cls := .ref C, data := .fields fv }) (hcd : clsIn K C = some cd) (hm : cd.mro = .ref C :: tl) (hh : cd.hasDict = true) (ha : findIn K (.ref C) name = some none)
    (hq : ∀ h' tk' dx, (∀ b o, b ≠ x → h.get? b = some o → h'.get? b = some o) → h.objs.size ≤ dx → dx ≠ x → h'.get? x = some { cls := .ref C, dict := some dx, data := .fields fv } →
      h'.Ns1 dx (fun y => if y = name then some v else none) → R (.ok (.ret .none)) ⟨h', g, d, tk', os⟩) :
    codeAny (model prog w) A (.call (.builtin "object.__setattr__") ⟨[.ref x, .str name tk, v], []⟩) R ⟨h, g, d, t, os⟩ := by
  have I : InstAt h x { cls := .ref C, data := .fields fv } C none := ⟨hx, rfl, rfl, trivial⟩
  have hxs : x ≠ h.objs.size := Nat.ne_of_lt (Heap.lt_size hx)
  have hob : cd.mro.contains (.type "object") = true := by rw [hm, List.contains_cons, F.hO, Bool.or_true]
  have sub : Looks (model prog w) h (isInstance (.ref x) (.type "object")) true := I.type.andThen (looks_mroIn X (by unfold mroIn; rw [hcd, Option.bind_some, if_neg (by rw [hm]; exact Bool.false_ne_true), hob]))
  have SF := PySem.F.store_object
  refine codeAny_call_builtin SF.slot.plain SF.entry (@check_slot (model prog w) _ _ ⟨h, g, d, t, os⟩ "object.__setattr__" "object" "__setattr__" (.ref x) [.str name tk, v] [] _ SF.kind SF.split sub (SF.args (.ref x) (.str name tk) v) ?_)
  have hmr : Looks (model prog w) h (mroOf (.ref C)) cd.mro := (looks_clsIn X hcd).andThen .now
  have L3 : Looks (model prog w) h (storeTaker? none) none := .now
  have hcls : Looks (model prog w) h (classData C) cd := looks_clsIn X hcd
  rw [osa_eq, refuse_eq]
  refine wpAny_bind (wpAny_bind (I.type.at (wpAny_bind (hmr.at ?_))))
  rw [hm, refuseLoop_ref, F.hP]
  refine wpAny_pure (wpAny_bind (I.type.at (wpAny_bind ((looks_findIn X ha).at (wpAny_bind (L3.at ?_))))))
  show wpAny _ _ (storeInOwnDict (.ref x) (.ref C) (.str name tk) name v false) _ _ _
  obtain ⟨nm, bs, mro, ns, qn, hd, sn, sb, ab, col, del⟩ := cd
  dsimp only at hh
  subst hh
  unfold storeInOwnDict Builtin.ObjectAttr.ownDictForStores
  repeat (first | with_reducible refine HandSPX.store_in_new ?_ ?_ | with_reducible refine wpAny_loadPart_at hx ?_ | with_reducible refine hcls.at ?_ | wp_step)
  · exact ⟨_, #[], _, (Heap.get?_update_ne _ _ _ _ hxs.symm).trans (Heap.get?_push_at rfl rfl), rfl, fun e he => absurd he (by simp), fun _ => rfl⟩
  · intro h' tk' hn' hs
    have hx1 : (h.push { cls := .type "dict", data := .dict #[] }).get? x = some { cls := .ref C, data := .fields fv } := Heap.get?_push_of_some _ hx
    refine hq h' tk' h.objs.size (fun b o hb ho => ?_) (Nat.le_refl _) hxs.symm ?_ hn'
    · exact (hs.2 b (Nat.ne_of_lt (Heap.lt_size ho))).trans ((Heap.get?_update_ne _ _ _ _ hb).trans (Heap.get?_push_of_some _ ho))
    · exact (hs.2 x hxs).trans (Heap.get?_update_self _ hx1 rfl)
end
end K34
end
section
set_option linter.all false
set_option maxRecDepth 100000
set_option maxHeartbeats 4000000
namespace K34
open PySem PySem.W PySem.Calls PyProof.Rows PySem.HandSPX
open L2 (defArgs defBody defScope)
/-! ### the text of such an __init__ -/
/-- the class at C, its __init__ at fI by the def st, cell and code of it -/
structure XTxt (K : Frag) (prog : Program) (mg : Str → Option Value) (C fI : Addr) (st : Stmt) (x qual fld par : Str) (Bn newId : String) (bmB : List Value) (Bi initId : String) (tl : List Value) : Prop where
  ch : Chn Bn newId bmB Bi initId tl
  gC : mg x = some (.ref C)
  cls : ∃ nm q N bs sn sub ab col dd k0 k1 k2 k3 k5, K.lookup C = some (excClassObj nm q C N bs tl true sn sub ab col dd k0 k1 k2 k3 k5 newId)
  sa : findIn K (.ref C) "__setattr__" = some (some (.builtin "object.__setattr__"))
  noN : findIn K (.ref C) fld = some none
  iC : findIn K (.ref C) "__init__" = some (some (.ref fI))
  tC : typeIn K (.ref fI) = some (.type "function")
  kC : keepIn K (.ref C) = true
  exC : subIn K (.ref C) (.type "BaseException") = some true
  tyC : typeIn K (.ref C) = some (.type "type")
  hB : subIn K (.ref C) (.type Bi) = some true
  sup : alongIn K "__init__" tl = some (some (.builtin initId))
  noS : mg "super" = none
  ope : nsIn K cStatics "thirdparty.any" = some none
  top : (prog.main.scope.names.lookup ("super" : Str)).isSome = false
  fn : ∃ (cc cda : Addr) (oc doc pm ct cl ccl : Value) (od an cld cdd : Option Addr) (osl csl ccs : Array (Option Value)) (vs : Array Value) (file : Str) (tf : Tok),
    K.lookup fI = some ⟨oc, od, .func (ksFn "__init__" qual (defArgs st) (defBody st) (defScope st) .none .none doc pm an (.ref cda) ct cc), osl⟩ ∧ codeIn K (.ref cda) qual = true ∧
    K.lookup cc = some ⟨cl, cld, .cell (some (.ref C)), csl⟩ ∧ K.lookup cda = some ⟨ccl, cdd, .fields vs, ccs⟩ ∧ vs[2]? = some (.str file tf) ∧ ((prog.main.file : Str) == file) = true
  body : ∃ (word : Str) (j : Nat) (p0 p1 p2 p3 p4 p5 q1 q2 q3 q4 : Pos), defBody st = [.Expr (.Call (.Attribute (.Call (.Name "super" p0) [] [] p1) "__init__" p2) [.Constant (.str word) j p3] [] p4) p5, .Assign [.Attribute (.Name "self" q1) fld q2] (.Name par q3) q4] ∧
    ∀ (L f cc : Addr) (cda : Value), ∃ pl : Sem Bool, eval (.Call (.Attribute (.Call (.Name "super" p0) [] [] p1) "__init__" p2) [.Constant (.str word) j p3] [] p4) (ksEnv qual (defScope st) L f cda cc) = (do
      let ov ← attributeBase (.Call (.Name "super" p0) [] [] p1) "__init__" (ksEnv qual (defScope st) L f cda cc) (eval (.Call (.Name "super" p0) [] [] p1) (ksEnv qual (defScope st) L f cda cc))
      standAt p2.atName
      let (f0, first) ← holding [ov] (getMethod ov "__init__" pl)
      callWith p4 f0 first (backTo p4 (starEach [.Constant (.str word) j p3] (ksEnv qual (defScope st) L f cda cc))) [])
  bnd : ∀ (doc pm cda ct x v : Value) (an : Option Addr) (cc : Addr), bindArgs (ksFn "__init__" qual (defArgs st) (defBody st) (defScope st) .none .none doc pm an cda ct cc) ⟨[x, v], []⟩ = pure [(("self" : Str), x), (par, v)]
  arg : ∃ ar, ((defArgs st).posonlyargs ++ (defArgs st).args).head? = some ar ∧ ar.arg = "self"
  sc : (defScope st).kind = .function ∧ (defScope st).isCoroutine = false ∧ (defScope st).isGenerator = false ∧ (∀ x ∈ (defScope st).names, x.2 ≠ .cell) ∧ (defScope st).names.lookup ("super" : Str) = some .globalImplicit ∧
    (defScope st).names.lookup ("__class__" : Str) = some .free ∧ (defScope st).names.lookup ("self" : Str) = some .local ∧ (defScope st).names.lookup par = some .local
  pn : (("self" : Str) == par) = false ∧ (par == ("__debug__" : Str)) = false
/-- what __init__ leaves of a new one at x -/
structure InitEnd (h h' : Heap) (x C dx t1 : Addr) (fld : Str) (v : Value) : Prop where
  keep : ∀ b o, b ≠ x → h.get? b = some o → h'.get? b = some o
  obj : h'.get? x = some { cls := .ref C, dict := some dx, data := .fields #[.ref t1, .none, .none, .none, .bool false, .none] }
  dbig : h.objs.size ≤ dx
  dne : dx ≠ x
  ns : h'.Ns1 dx (fun y => if y = fld then some v else none)
/-- one made -/
structure Made1 (h h' : Heap) (e C d : Addr) (fld : Str) (v : Value) : Prop where
  keep : ∀ b o, h.get? b = some o → h'.get? b = some o
  new : h.objs.size ≤ e
  obj : ∃ oe vs, h'.get? e = some oe ∧ oe.cls = .ref C ∧ oe.dict = some d ∧ oe.data = .fields vs ∧ vs[1]? = some .none
  dbig : h.objs.size ≤ d
  dne : d ≠ e
  ns : h'.Ns1 d (fun y => if y = fld then some v else none)
section
variable {prog : Program} {w : World} {A : Around} {E : Value → Shared → Prop} {R : Result → Shared → Prop} {s : Shared} {K : Frag} {mg : Str → Option Value} {C fI : Addr}
variable {st : Stmt} {cx qual fld par : Str} {Bn newId Bi initId : String} {bmB tl : List Value}
theorem ldn {M : Model} {s : Shared} {env : Env} {m : Str → Option Value} {x : Str} {pos : Pos} {v : Value} {Q : Value → Shared → Prop} (hn : s.heap.Ns env.locals m) (hv : m x = some v) (h : Q v s)
    (hk : env.scope.kind = .function) (hl : env.scope.names.lookup x = some .local) (hd : (x == ("__debug__" : Str)) = false) : wpAny M A (eval (.Name x pos) env) Q E s := wpAny_Name (wpAny_loadName_local hk hl hn hv h) hd
theorem x_init (T : XTxt K prog mg C fI st cx qual fld par Bn newId bmB Bi initId tl) {x t0 : Addr} {v : Value} (X : K.In s.heap) (G : s.heap.Ns mainGlobals mg) (B : ∃ mb, s.heap.Ns builtinsNs mb ∧ mb "super" = some (.type "super"))
    (hlim : s.heap.NoLimit) (hx : s.heap.get? x = some (excO C t0)) (hnx : K.lookup x = none) (hroom : A.depth < recursionLimit)
    (hq : ∀ h' tk dx t1, InitEnd s.heap h' x C dx t1 fld v → R (.ok (.ret .none)) { s with heap := h', toks := tk }) : codeAny (model prog w) A (.call (.ref fI) ⟨[.ref x, v], []⟩) R s := by
  obtain ⟨cc, cda, oc, doc, pm, ct, cl, ccl, od, an, cld, cdd, osl, csl, ccs, vs, file, tf, hf, hcd, hcc, hco, hvs, hfile⟩ := T.fn
  obtain ⟨word, j, p0, p1, p2, p3, p4, p5, q1, q2, q3, q4, hbody, hev⟩ := T.body
  obtain ⟨ar, har, har2⟩ := T.arg
  obtain ⟨sk, sco, sge, sce, ssu, scl, sse, spa⟩ := T.sc
  obtain ⟨nm, q, N, bs, sn, sub, ab, col, dd, k0, k1, k2, k3, k5, hC⟩ := T.cls
  have hcl : clsIn K C = some { name := nm, bases := bs, mro := .ref C :: tl, ns := N, qualname := q, hasDict := true, slotNames := sn, subclasses := sub, abstract := ab, collection := col, hasDel := false } := by unfold clsIn; rw [hC] <;> rfl
  refine ks_codeAny_call_defAt (fd := ksFn "__init__" qual (defArgs st) (defBody st) (defScope st) .none .none doc pm an (.ref cda) ct cc) (body := defBody st) (binds := [("self", .ref x), (par, v)]) hroom (X _ _ hf) rfl hlim (codeRec_of X hcd) rfl ?_ sce ?_ (fun h1 hn k1' => ?_) sco sge sk
  · exact BindsTo.of_eq (T.bnd ..)
  · intro y hy
    rcases List.mem_cons.mp hy with rfl | hy
    · exact sse
    · rcases List.mem_cons.mp hy with rfl | hy
      · exact spa
      · cases hy
  have X1 : K.In h1 := X.keeps k1'
  have G1 := G.keeps k1'
  obtain ⟨mb, B0, hsb⟩ := B
  have B1 := B0.keeps k1'
  have x1 := k1' _ _ hx
  have lx : (List.reverse [(("self" : Str), Value.ref x), (par, v)]).lookup ("self" : Str) = some (.ref x) := by
    show (match (("self" : Str) == par) with | true => some v | false => _) = _
    rw [T.pn.1]
    rfl
  have lv : (List.reverse [(("self" : Str), Value.ref x), (par, v)]).lookup par = some v := by
    show (match (par == par) with | true => some v | false => _) = _
    rw [beq_self_eq_true]
  have lim : s.heap.objs.size < h1.objs.size := hn.lt
  obtain ⟨hh, g, d, tk, os⟩ := s
  have I1 : InstAt h1 x (excO C t0) C none := ⟨x1, rfl, rfl, trivial⟩
  have hD1 : h1.get? C = some (excClassObj nm q C N bs tl true sn sub ab col dd k0 k1 k2 k3 k5 newId) := X1 _ _ hC
  obtain ⟨pl, hev⟩ := hev hh.objs.size fI cc (.ref cda)
  rw [hbody]
  refine ks_wpAt_execs_cons (ks_wpAt_Expr_any (hi := by show ((defScope st).kind == ScopeKind.module && _) = false; rw [sk]; rfl) (ks_wpAt_MethodCall (he := hev) (ks_wpAt_super_base (env := ksEnv qual (defScope st) hh.objs.size fI (.ref cda) cc) ssu scl (by decide) rfl (X1 _ _ hf) rfl har rfl (X1 _ _ hco) rfl hvs hfile T.top ?_)))
  refine ks_loadName_global sk ssu (loadGlobal_builtin (env := ksEnv qual (defScope st) hh.objs.size fI (.ref cda) cc) G1 T.noS B1 hsb ⟨rfl, ?_⟩)
  refine wpAny_loadName_free sk scl rfl ⟨_, X1 _ _ hcc, rfl⟩ ?_
  rw [har2]
  refine wpAny_loadName_local sk sse hn lx ?_
  refine ks_wpAny_isType_cls hD1 rfl ⟨rfl, ?_⟩
  refine ks_wpAny_call_super hD1 rfl x1 rfl (fun c e => Data.noConfusion e) (looks_mroIn X1 ?_) (fun h2 e2 k2' => ?_)
  · unfold mroIn
    rw [hcl, Option.bind_some, if_neg (show ¬ (List.isEmpty (Value.ref C :: tl) = true) from Bool.false_ne_true)]
    show some ((Value.ref C :: tl).contains (.ref C)) = some true
    simp
  have X2 := X1.keeps k2'
  have x2 := k2' _ _ x1
  have I2 : InstAt h2 x (excO C t0) C none := ⟨x2, rfl, rfl, trivial⟩
  have xC : x ≠ C := fun z => by
    rw [z, X _ _ hC] at hx
    cases hx
  refine kxs_getMethod T.ch.fi.kx e2 (looks_opaque X2 T.ope) (l₀ := Value.ref C :: tl) ?_ rfl X2 ?_ (I2.type.andThen (looks_subIn X2 T.hB)) xC (by decide) ?_
  · exact fun A Q E s k q => wpAny_bind ((looks_clsIn X2 hcl) A _ E s k (wpAny_pure q))
  · rw [List.dropWhile_cons]
    simp only [bne_self_eq_false, Bool.false_eq_true, if_false, List.drop_succ_cons, List.drop_zero]
    exact T.sup
  have k3' : ∀ b o, h2.get? b = some o → (h2.push (kxs_mw initId x)).get? b = some o := fun b o e => Heap.get?_push_of_some _ e
  have u3 : (h2.push (kxs_mw initId x)).get? h2.objs.size = some (kxs_mw initId x) := Heap.get?_push_at rfl rfl
  have hs : starEach [.Constant (.str word) j p3] (ksEnv qual (defScope st) hh.objs.size fI (.ref cda) cc) = (false, eval (.Constant (.str word) j p3) (ksEnv qual (defScope st) hh.objs.size fI (.ref cda) cc)) :: starEach [] (ksEnv qual (defScope st) hh.objs.size fI (.ref cda) cc) := rfl
  show wpAny _ _ (callWith p4 (.ref h2.objs.size) [] (backTo p4 (starEach [.Constant (.str word) j p3] (ksEnv qual (defScope st) hh.objs.size fI (.ref cda) cc))) []) _ _ _
  refine kxs_callWith (i := initId) (x := x) rfl ?_
  rw [hs]
  refine evalArgs_plain ?_
  show wpAny _ _ (spliced (backTo p4 ((false, eval (.Constant (.str word) j p3) (ksEnv qual (defScope st) hh.objs.size fI (.ref cda) cc)) :: starEach [] (ksEnv qual (defScope st) hh.objs.size fI (.ref cda) cc)))) _ _ _
  rw [← hs]
  refine spliced_more (Calls.Constant_str (spliced_none ⟨u3, ?_⟩)) rfl
  refine run_bound T.ch.fi (X2.keeps k3' _ _ hC) (k3' _ _ x2) u3 (by rw [sizeLine_eq]; exact (by decide : 1 ≤ 16777216)) fun h4 t4 k4 x4 => ?_
  have kk : ∀ b o, b ≠ x → hh.get? b = some o → h4.get? b = some o := fun b o n e => k4 b o n (k3' b o (k2' b o (k1' b o e)))
  have X4 : K.In h4 := fun b o e => kk b o (fun z => by
    rw [z, hnx] at e
    cases e) (X _ _ e)
  have n4 : h4.Ns hh.objs.size (fun y => (List.reverse [(("self" : Str), Value.ref x), (par, v)]).lookup y) := by
    obtain ⟨oL, es, ep, hL, r⟩ := hn
    refine ⟨oL, es, ep, k4 _ _ (fun z => ?_) (k3' _ _ (k2' _ _ hL)), r⟩
    rw [z, x1] at hL
    cases Option.some.inj hL
    cases r.1
  refine ks_wpAt_execs_cons (ks_wpAt_Assign_Attr (hs := by rfl) ?_)
  refine PySem.wpAt_of_wpAny (ldn (m := fun y => (List.reverse [(("self" : Str), Value.ref x), (par, v)]).lookup y) n4 lv (ldn n4 lx ?_ sk sse (by decide)) sk spa T.pn.2)
  refine set_plain X4 (ox := excO C t4) (od := none) ⟨x4, rfl, rfl, trivial⟩ T.sa ?_
  refine store_first T.ch X4 x4 hcl rfl rfl T.noN fun h5 tk5 dx k5 dn dne x5 n5 => ?_
  refine PySem.wpAt_of_wpAny (wpAny_execs_nil (hq h5 tk5 dx t4 ⟨fun b o hb e => k5 b o hb (kk b o hb e), x5, ?_, dne, n5⟩))
  exact Nat.le_of_lt (Nat.lt_of_lt_of_le n4.lt dn)
theorem x_made (T : XTxt K prog mg C fI st cx qual fld par Bn newId bmB Bi initId tl) {v : Value} (X : K.In s.heap) (G : s.heap.Ns mainGlobals mg) (B : ∃ mb, s.heap.Ns builtinsNs mb ∧ mb "super" = some (.type "super"))
    (hlim : s.heap.NoLimit) (hroom : A.depth + 1 < recursionLimit) (hq : ∀ h' tk e d, Made1 s.heap h' e C d fld v → R (.ok (.ret (.ref e))) { s with heap := h', toks := tk }) :
    codeAny (model prog w) A (.call (.ref C) ⟨[v], []⟩) R s := by
  obtain ⟨nm, q, N, bs, sn, sub, ab, col, dd, k0, k1, k2, k3, k5, hC⟩ := T.cls
  obtain ⟨hp, g, dr, tk, os⟩ := s
  have k : ∀ b o, hp.get? b = some o → ((hp.push (kdv_tup [v])).push (excO C hp.objs.size)).get? b = some o := fun b o e => Heap.get?_push_of_some _ (Heap.get?_push_of_some _ e)
  have hget : ((hp.push (kdv_tup [v])).push (excO C hp.objs.size)).get? (hp.objs.size + 1) = some (excO C hp.objs.size) := by heap_get
  have hnx : K.lookup (hp.objs.size + 1) = none := by
    cases e : K.lookup (hp.objs.size + 1) with
    | none => rfl
    | some o => exact absurd (Nat.lt_of_succ_lt (Heap.lt_size (show hp.get? _ = some o from X _ _ e))) (Nat.lt_irrefl _)
  obtain ⟨mb, hmb, hsb⟩ := B
  refine run_class T.ch (X _ _ hC) (looks_findIn X T.iC) (fun self => bind_fn X self T.tC) (by rw [sizeLine_eq]; exact (by decide : 1 ≤ 16777216)) ?_
  refine x_init (s := ⟨(hp.push (kdv_tup [v])).push (excO C hp.objs.size), g, dr, tk, os⟩) T (X.keeps k) (G.keeps k) ⟨mb, hmb.keeps k, hsb⟩ (hlim.keeps k) hget hnx hroom fun h' tk' dx t1 ⟨k', hx, dn, dne, hns⟩ => ?_
  have old : ∀ b o, hp.get? b = some o → h'.get? b = some o := fun b o e => k' b o (Nat.ne_of_lt (Nat.lt_succ_of_lt (Heap.lt_size e))) (k b o e)
  have z : hp.objs.size + 1 + 1 ≤ dx := by
    have q := dn
    rw [Heap.size_push, Heap.size_push] at q
    exact q
  exact ⟨rfl, hq h' tk' (hp.objs.size + 1) dx ⟨old, Nat.le_succ _, ⟨_, _, hx, rfl, rfl, rfl, rfl⟩, Nat.le_trans (Nat.le_trans (Nat.le_succ _) (Nat.le_succ _)) z, dne, hns⟩⟩
end
end K34
namespace K34
open PySem PySem.Spec PyProof.Rows L2
theorem relO_one {fld : Str} {v : V} {v' : Value} (r : RelV v v') (f : Str) : RelO (List.lookup f [(fld, v)]) (if f = fld then some v' else none) := by
  by_cases hw : f = fld
  · subst hw
    rw [if_pos rfl, show List.lookup f [(f, v)] = some v by simp [List.lookup]]
    exact r
  · rw [if_neg hw, show List.lookup f [(fld, v)] = none by simp [List.lookup, show (f == fld) = false by simpa using hw]]
    exact True.intro
section
variable {X : Cx} {C fI : Addr} {st : Stmt} {cx qual fld par : Str} {Bn newId Bi initId : String} {bmB tl : List Value}
/-- C(e): a new one, its field in its own new dict -/
def tMk1 (C : Addr) (fld : Str) (ta : TA) : L2.St → Hp → XK → Prop := fun σ H Q => ta σ H fun vs H1 => ∃ v, vs = [v] ∧ ∀ d, H1 d = none → Q (.ref C) (some d) (upd H1 d (.xd [(fld, v)]))
theorem pmk_1 {a : Expr} {ta : TA} {p pos : Pos} {k : Nat} (T : XTxt X.K X.prog X.mg C fI st cx qual fld par Bn newId bmB Bi initId tl) (hr : Room k X.A) (ha : PA X [a] ta) (hg : Gl X cx) (hdb : (cx == ("__debug__" : Str)) = false := by decide)
    (he : starEach (a :: []) X.env = (false, eval a X.env) :: starEach [] X.env := by rfl) (hpl : (backTo pos (starEach [] X.env)).any (·.1) = false := by rfl) :
    PMk X (.Call (.Name cx p) [a] [] pos) (tMk1 C fld ta) := by
  intro pins s σ H Q I h
  refine wpAny_Call_Name_kw (ld_glob I hg T.gC ?_ hdb)
  refine PySem.W.callWith_K (h₀ := X.base) I.ok.mod.kin T.kC (thn (ha.run pos pins s σ H _ I h) fun us s1 hh => ?_) he hpl
  obtain ⟨vs, H1, I1, r1, v, rfl, q1⟩ := hh
  refine ⟨I1.kIn, ?_⟩
  cases r1 with
  | cons rv rn =>
    rename_i v' us'
    cases rn
    show wpAny _ _ (call (.ref C) [v']) _ _ _
    have hlim := I1.nolimit
    obtain ⟨mb, hmb, hmx⟩ := I1.ok.mod.blt
    have G1 := I1.ok.mod.glob.keeps I1.bk
    have B1 := hmb.keeps I1.bk
    obtain ⟨hp, g, dr, tk, os⟩ := s1
    refine wpAny_call (x_made T I1.kIn G1 ⟨mb, B1, (hmx _ (by decide)).trans (by decide +kernel)⟩ hlim (by have := hr.dp; omega) fun h' tk' e d M => ?_)
    show MkP X pins σ Q (.ref e) ⟨h', g, dr, tk', os⟩
    obtain ⟨oe, fv, hoe, hc, hd, hdat, h1⟩ := M.obj
    have hns := M.ns
    obtain ⟨G', g1, g2⟩ := restrict h' fun b => decide (b ≠ e)
    have gk : ∀ b, b ≠ e → G'.get? b = h'.get? b := fun b hb => g1 b (decide_eq_true hb)
    have ge : G'.get? e = none := g2 e (by simp)
    have old : ∀ b o, hp.get? b = some o → G'.get? b = some o := fun b o q => (gk b (Nat.ne_of_lt (Nat.lt_of_lt_of_le (Heap.lt_size q) M.new))).trans (M.keep b o q)
    have J : Inv X pins σ (upd H1 d (.xd [(fld, v)])) ⟨G', g, dr, tk', os⟩ := I1.laid (t' := tk') old M.dbig ⟨_, hns.at (fun o q => (gk d M.dne).trans q), fun f => relO_one rv f⟩
    refine ⟨e, oe, fv, ⟨G', g, dr, tk', os⟩, _, .ref C, some d, rfl, J, fun b o q => ?_, ge, hoe, ⟨hc, hd⟩, hdat, h1, ?_, rfl, I1.bare, raises_own T.exC T.tyC, q1 d (I1.hok.fresh M.dbig)⟩
    · by_cases hb : b = e
      · have q' : G'.get? b = some o := q
        rw [hb, ge] at q'
        cases q'
      · exact (gk b hb).symm.trans q
    · rw [upd_ne (Ne.symm M.dne)]
      exact I1.hok.fresh M.new
end
end K34
end
section
set_option linter.all false
set_option maxRecDepth 100000
/-! Heaps and lists in the making. -/
namespace K34
open PySem PySem.Spec PyProof.Rows L2
theorem same_new {H : Hp} {p : Addr} {o : HO} (h : H p = none) : Same H (upd H p o) := fun b x e => by
  rw [upd_ne (ne_of_none e h)]
  exact e
theorem same_put {H H' : Hp} {p : Addr} {o : HO} (h : H p = none) (s : Same H H') : Same H (upd H' p o) := fun b x e => by
  rw [upd_ne (ne_of_none e h)]
  exact s b x e
theorem SqT.same {K : PySem.W.Frag} {H H' : Hp} {p : Addr} {xs : List V} (s : Same H H') (h : SqT K H p xs) : SqT K H' p xs := by
  rcases h with (h | ⟨o, h⟩) | h
  · exact .inl (.inl (s _ _ h))
  · exact .inl (.inr ⟨o, s _ _ h⟩)
  · exact .inr h
theorem take_succ_map {A B : Type} {f : A → B} {l : List A} {i : Nat} {x : A} (h : l[i]? = some x) : (l.take (i + 1)).map f = (l.take i).map f ++ [f x] := by
  rw [List.take_add_one, h, List.map_append]
  rfl
theorem take_succ_keep {A : Type} {p : A → Bool} {l : List A} {i : Nat} {x : A} (h : l[i]? = some x) (hp : p x = true) : (l.take (i + 1)).filter p = (l.take i).filter p ++ [x] := by
  rw [List.take_add_one, h, List.filter_append]
  congr 1
  show List.filter p [x] = [x]
  rw [List.filter_cons, if_pos hp]
  rfl
theorem take_succ_drop {A : Type} {p : A → Bool} {l : List A} {i : Nat} {x : A} (h : l[i]? = some x) (hp : p x = false) : (l.take (i + 1)).filter p = (l.take i).filter p := by
  rw [List.take_add_one, h, List.filter_append]
  show List.filter p (l.take i) ++ List.filter p [x] = _
  rw [List.filter_cons, if_neg (by rw [hp]; exact Bool.false_ne_true)]
  exact List.append_nil _
theorem take_all {A : Type} (l : List A) : l.take l.length = l := List.take_length
theorem get_lt {A : Type} {l : List A} {i : Nat} {x : A} (h : l[i]? = some x) : i < l.length := (List.getElem?_eq_some_iff.mp h).1
/-- a comprehension's list at D, out so far; what stood at its start stands -/
def LcS (H1 : Hp) (D : Addr) (out : List V) (H : Hp) : Prop := Same H1 H ∧ H D = some (.lst out)
section
variable {H1 H H4 : Hp} {D : Addr} {out out' : List V} {y : V}
theorem LcS.zero (hD : H1 D = none) : LcS H1 D [] (upd H1 D (.lst [])) := ⟨same_new hD, upd_same⟩
theorem LcS.to (c : LcS H1 D out H) (s : Same H H4) : LcS H1 D out H4 := ⟨c.1.trans s, s _ _ c.2⟩
theorem LcS.step (hD : H1 D = none) (c : LcS H1 D out H) (s : Same H H4) (hl : out.length < sizeLine) (e : out' = out ++ [y]) :
    ∃ acc, H4 D = some (.lst acc) ∧ acc.length < sizeLine ∧ LcS H1 D out' (upd H4 D (.lst (acc ++ [y]))) :=
  ⟨out, s _ _ c.2, hl, same_put hD (c.1.trans s), by rw [e]; exact upd_same⟩
end
/-- no test in the comprehension -/
theorem yesT {σ : L2.St} {H : Hp} {A B : Hp → Prop} (h : A H) : tYes σ H fun b H3 => if b = true then A H3 else B H3 := iteT (A := A H) (B := B H) h
theorem line_of {n : Nat} (h : n ≤ 1000) : n < sizeLine := small1000 h
theorem iteT' {c : Bool} {A B : Prop} (h : c = true) (k : A) : if c = true then A else B := by
  rw [if_pos h]
  exact k
theorem iteF' {c : Bool} {A B : Prop} (h : c = false) (k : B) : if c = true then A else B := by
  rw [if_neg (by rw [h]; exact Bool.false_ne_true)]
  exact k
end K34
end
section
set_option linter.all false
set_option maxRecDepth 100000
/-! The program's words. -/
namespace K34
open PySem PySem.Spec PyProof.Rows L2
section
variable {P : Program} {w : World} {K : PySem.W.Frag} {mg : Str → Option Value} {base : Heap} {a : Ad}
theorem boot_isi : bootBuiltins "isinstance" = some (.builtin "isinstance") := by decide +kernel
theorem boot_all : bootBuiltins "all" = some (.builtin "all") := by decide +kernel
theorem rel_ty (n : String) : RelV (.ty n) (.type n) := rfl
def isI : V → Bool
  | .int _ => true
  | _ => false
theorem isI_eq : ∀ v, flatV v = true → (isIntV v && !isBlV v) = isI v
  | .non, _ => rfl
  | .bl _, _ => rfl
  | .int _, _ => rfl
  | .str _, _ => rfl
  | .byt _, h => nomatch h
  | .flt _, h => nomatch h
  | .ref _, h => nomatch h
  | .ty _, h => nomatch h
def spIsInteger : Sp := fun vs H Q _ => ∃ v, vs = [v] ∧ flatV v = true ∧ Q (.bl (isI v)) H
theorem ok_IsInteger (T : Tx K mg a) : Ca P w K mg base CX0 1 "is_integer" spIsInteger := by
  refine ca0 T.dIsInteger cIsInteger (fun vs H Q E h => ?_) (fun f cdv A outer s H vs Q E hr h => ?_)
  · obtain ⟨v, rfl, _⟩ := h
    rfl
  · obtain ⟨v, rfl, hv, q⟩ := h
    refine ⟨_, pss_one (ps_ret (pe_and (pe_callB call_isi (by rfl) T.m_isinstance boot_isi (pa_cons (pv 0) (pa_cons (pe_bltn (by rfl) T.m_int PyProof.Rows.boot_int (rel_ty _)) pa_nil)))
      (pe_one (pe_not (pe_callB call_isi (by rfl) T.m_isinstance boot_isi (pa_cons (pv 0) (pa_cons (pe_bltn (by rfl) T.m_bool PyProof.Rows.boot_bool (rel_ty _)) pa_nil))))))), ?_⟩
    obtain ⟨t, ty, h1, h2, _⟩ := flat_ty (K := K) H hv
    refine ⟨v, rfl, v, .ty "int", t, .type "int", isIntV v, rfl, .ty _, ty, h1, isIntV v, rfl, ite2 (fun e => ?_) (fun e => ?_)⟩
    · refine ⟨v, rfl, v, .ty "bool", t, .type "bool", isBlV v, rfl, .ty _, ty, h2, isBlV v, rfl, ?_⟩
      have z := isI_eq v hv
      rw [e, Bool.true_and] at z
      rw [← z] at q
      exact q
    · have z := isI_eq v hv
      rw [Bool.eq_false_iff.mpr e, Bool.false_and] at z
      rw [← z] at q
      exact q

def spIsNumber : Sp := fun vs H Q _ => ∃ v, vs = [v] ∧ flatV v = true ∧ Q (.bl (match v with | .int i => decide (0 ≤ i) | _ => false)) H
theorem ok_IsNumber (T : Tx K mg a) : Ca P w K mg base CX0 2 "is_number" spIsNumber := by
  have G : Ca P w K mg base CX0 1 "is_integer" spIsInteger := ok_IsInteger T
  refine ca0 T.dIsNumber cIsNumber (fun vs H Q E h => ?_) (fun f cdv A outer s H vs Q E hr h => ?_)
  · obtain ⟨v, rfl, _⟩ := h
    rfl
  · obtain ⟨v, rfl, hv, q⟩ := h
    refine ⟨_, pss_one (ps_ret (pe_and (pe_c0 G hr (by decide) (by rfl) (pa_cons (pv 0) pa_nil)) (pe_one (pe_cmpR op_ge (pv 0) pe_int (nomark _))))), ?_⟩
    refine ⟨v, rfl, v, rfl, hv, isI v, rfl, ?_⟩
    cases v with
    | int i => exact iteT ⟨.int i, rfl, i, 0, rfl, rfl, q⟩
    | non => exact iteF q
    | bl _ => exact iteF q
    | str _ => exact iteF q
    | byt _ => exact nomatch hv
    | flt _ => exact nomatch hv
    | ref _ => exact nomatch hv
    | ty _ => exact nomatch hv
def spIsBelow : Sp := fun vs H Q _ => ∃ i n : Int, vs = [.int i, .int n] ∧ Q (.bl (decide (0 ≤ i ∧ i < n))) H
theorem ok_IsBelow (T : Tx K mg a) : Ca P w K mg base CX0 2 "is_below" spIsBelow := by
  have G : Ca P w K mg base CX0 1 "is_integer" spIsInteger := ok_IsInteger T
  refine ca0 T.dIsBelow cIsBelow (fun vs H Q E h => ?_) (fun f cdv A outer s H vs Q E hr h => ?_)
  · obtain ⟨i, n, rfl, _⟩ := h
    rfl
  · obtain ⟨i, n, rfl, q⟩ := h
    refine ⟨_, pss_one (ps_ret (pe_and (pe_c0 G hr (by decide) (by rfl) (pa_cons (pv 0) pa_nil)) (pe_one (pe_chain op_le op_lt pe_int (pv 0) (pv 1))))), ?_⟩
    refine ⟨.int i, rfl, .int i, rfl, rfl, true, rfl, iteT ?_⟩
    refine ⟨.int i, rfl, 0, i, rfl, rfl, _, rfl, ite2 (fun e => ?_) (fun e => ?_)⟩
    · have e := of_decide_eq_true e
      refine ⟨.int n, rfl, i, n, rfl, rfl, ?_⟩
      have z : decide (i < n) = decide (0 ≤ i ∧ i < n) := by
        by_cases h : i < n <;> simp [h, e]
      rw [← z] at q
      exact q
    · have e : ¬ (0 ≤ i) := fun h => e (decide_eq_true h)
      have z : decide (0 ≤ i ∧ i < n) = false := decide_eq_false fun h => e h.1
      rw [z] at q
      exact q
def spIsText : Sp := fun vs H Q _ => ∃ v, vs = [v] ∧ flatV v = true ∧ Q (.bl (isStrV v)) H
theorem ok_IsText (T : Tx K mg a) : Ca P w K mg base CX0 1 "is_text" spIsText := by
  refine ca0 T.dIsText cIsText (fun vs H Q E h => ?_) (fun f cdv A outer s H vs Q E hr h => ?_)
  · obtain ⟨v, rfl, _⟩ := h
    rfl
  · obtain ⟨v, rfl, hv, q⟩ := h
    refine ⟨_, pss_one (ps_ret (pe_callB call_isi (by rfl) T.m_isinstance boot_isi (pa_cons (pv 0) (pa_cons (pe_bltn (by rfl) T.m_str PyProof.Rows.boot_str (rel_ty _)) pa_nil)))), ?_⟩
    obtain ⟨t, ty, _, _, h3⟩ := flat_ty (K := K) H hv
    exact ⟨v, rfl, v, .ty "str", t, .type "str", isStrV v, rfl, .ty _, ty, h3, q⟩
/-- the signs of a name -/
def letters : Str := "abcdefghijklmnopqrstuvwxyz"
def nameB (z : Str) : Bool := decide (1 ≤ z.length) && decide (z.length ≤ 8) && z.cps.toList.all fun c => decide (c ∈ letters.cps.toList)
def isNameV : V → Bool
  | .str z => nameB z
  | _ => false
def spIsName : Sp := fun vs H Q _ => ∃ v, vs = [v] ∧ flatV v = true ∧ (∀ z, v = .str z → z.length ≤ 1000) ∧ ∀ H', Same H H' → Q (.bl (isNameV v)) H'
theorem ok_IsName (T : Tx K mg a) : Ca P w K mg base CX0 2 "is_name" spIsName := by
  have G : Ca P w K mg base CX0 1 "is_text" spIsText := ok_IsText T
  refine ca0 T.dIsName cIsName (fun vs H Q E h => ?_) (fun f cdv A outer s H vs Q E hr h => ?_)
  · obtain ⟨v, rfl, _⟩ := h
    rfl
  · obtain ⟨v, rfl, hv, hz, q⟩ := h
    refine ⟨_, pss_one (ps_ret (pe_and (pe_c0 G hr (by decide) (by rfl) (pa_cons (pv 0) pa_nil)) (pe_and
      (pe_chain op_le op_le pe_int (pe_callB call_len_str (by rfl) T.m_len PySem.boot_len (pa_cons (pv 0) pa_nil)) (by obtain ⟨u, h1, h2⟩ := T.gLongest; exact pe_glob (by rfl) h1 h2))
      (pe_one (pe_callB (cr_all rfl) (by rfl) T.m_all boot_all (pa_cons
        (pe_lc (own := [("sign", 1)]) (g := gName 1) (tt := tYes) rfl cIsName.nd (pi_str (pv 0)) (blkOk_by (N := nIsName) (sc := defScope sIsName) (by decide +kernel)) (fun _ _ _ _ _ => pg_name (i := 1) cIsName.nd rfl (Or.inl rfl)) (fun _ _ _ _ _ => pts_nil)
          (fun _ _ _ _ _ => pe_cmpR op_in_sign (pv 1) (by obtain ⟨u, h1, h2⟩ := T.gLetters; exact pe_glob (by rfl) h1 h2) (by rfl))) pa_nil)))))), ?_⟩
    refine ⟨v, rfl, v, rfl, hv, isStrV v, rfl, ite2 (fun e => ?_) (fun e => ?_)⟩
    · obtain ⟨z, rfl⟩ : ∃ z, v = .str z := by
        cases v with
        | str z => exact ⟨z, rfl⟩
        | _ => cases e
      have hz := hz z rfl
      have hl : z.length ≤ sizeLine := Nat.le_of_lt (small1000 hz)
      refine ⟨.str z, rfl, z, rfl, hl, 1, _, rfl, rfl, _, rfl, ite2 (fun h1 => ?_) (fun h1 => ?_)⟩
      · have h1 := of_decide_eq_true h1
        refine ⟨_, _, rfl, rfl, _, rfl, ite2 (fun h8 => ?_) (fun h8 => ?_)⟩
        · have h8 := of_decide_eq_true h8
          refine ⟨.str z, rfl, z, rfl, fun D hD => ?_⟩
          refine lc_it walk_str (fun i H' => LcS H D ((z.cps.toList.take i).map fun c => V.bl (decide (c ∈ letters.cps.toList))) H') (LcS.zero hD) (fun _ _ _ _ => True.intro) (fun i x H1 H2 hi hP hY => ?_) (fun H' hP => ?_)
          · obtain ⟨rfl, c, hc, rfl⟩ := hY
            have hc' : z.cps.toList[i]? = some c := by rw [Array.getElem?_toList]; exact hc
            refine ⟨rfl, ?_⟩
            refine yesT ?_
            refine ⟨.str ⟨#[c]⟩, rfl, c, letters, rfl, rfl, ?_⟩
            exact LcS.step hD hP (Same.refl _) (by rw [List.length_map, List.length_take]; have : z.cps.toList.length = z.length := rfl; exact Nat.lt_of_le_of_lt (Nat.min_le_right _ _) (small1000 hz)) (take_succ_map hc')
          · have e1 : z.cps.toList.take z.cps.size = z.cps.toList := take_all _
            rw [e1] at hP
            refine ⟨D, z.cps.toList.map fun c => decide (c ∈ letters.cps.toList), rfl, .of (by rw [List.map_map]; exact hP.2), ?_⟩
            have e2 : (z.cps.toList.map fun c => decide (c ∈ letters.cps.toList)).all id = isNameV (.str z) := by
              show _ = nameB z
              unfold nameB
              rw [decide_eq_true (show 1 ≤ z.length by omega), decide_eq_true (show z.length ≤ 8 by omega), Bool.true_and, Bool.true_and, List.all_map]
              rfl
            rw [e2]
            exact q H' hP.1
        · have h8 : ¬ (z.length : Int) ≤ 8 := fun h => h8 (decide_eq_true h)
          have e2 : isNameV (.str z) = false := by
            show nameB z = false
            unfold nameB
            rw [decide_eq_false (show ¬ z.length ≤ 8 by omega), Bool.and_false, Bool.false_and]
          rw [e2] at q
          exact q H (Same.refl H)
      · have h1 : ¬ (1 : Int) ≤ (z.length : Int) := fun h => h1 (decide_eq_true h)
        have e2 : isNameV (.str z) = false := by
          show nameB z = false
          unfold nameB
          rw [decide_eq_false (show ¬ 1 ≤ z.length by omega), Bool.false_and, Bool.false_and]
        rw [e2] at q
        exact ⟨false, rfl, iteF (q H (Same.refl H))⟩
    · have e2 : isNameV v = false := by
        cases v with
        | str z => exact absurd rfl e
        | _ => rfl
      rw [e2] at q
      exact q H (Same.refl H)
end
end K34
end
section
set_option linter.all false
/-! Texts by their order. -/
namespace K34
open PySem PySem.Spec PyProof.Rows
def ltS (a b : Str) : Bool := decide (a.cps.toList < b.cps.toList)
theorem ltS_cps (a b : Str) : ltCps a.cps.toList b.cps.toList = ltS a b := ltCps_eq _ _
theorem str_ext {a b : Str} (h : a.cps.toList = b.cps.toList) : a = b := by
  obtain ⟨x⟩ := a
  obtain ⟨y⟩ := b
  have : x = y := Array.toList_inj.mp h
  rw [this]
theorem ordS : Ord ltS where
  tri := fun a b h k => str_ext (List.le_antisymm (of_decide_eq_false k) (of_decide_eq_false h))
  irr := fun a => decide_eq_false (List.lt_irrefl _)
  asym := fun a b h => decide_eq_false (List.lt_asymm (of_decide_eq_true h))
  neg := fun a b c h k => by
    have h1 : b.cps.toList ≤ a.cps.toList := of_decide_eq_false h
    have h2 : c.cps.toList ≤ b.cps.toList := of_decide_eq_false k
    exact decide_eq_false (List.not_lt.mpr (List.le_trans h2 h1))
/-- none of them above a later one -/
def Up (l : List Str) : Prop := l.Pairwise fun a b => ltS b a = false
theorem up_of_rising : ∀ (p : Str) (l : List Str), risingS p l = true → (p :: l).Pairwise fun a b => ltS b a = false
  | p, [], _ => List.pairwise_singleton _ _
  | p, x :: r, h => by
    have h' : (!ltCps x.cps.toList p.cps.toList && risingS x r) = true := h
    rw [Bool.and_eq_true, Bool.not_eq_true', ltS_cps] at h'
    have ih := up_of_rising x r h'.2
    refine List.pairwise_cons.mpr ⟨fun y hy => ?_, ih⟩
    rcases List.mem_cons.mp hy with e | e
    · rw [e]
      exact h'.1
    · exact ordS.neg y x p ((List.pairwise_cons.mp ih).1 y e) h'.1
theorem up_of : ∀ {l : List Str}, sortedS l = true → Up l
  | [], _ => List.Pairwise.nil
  | x :: r, h => up_of_rising x r h
theorem up_unique : ∀ {l m : List Str}, l.Perm m → Up l → Up m → l = m
  | [], m, p, _, _ => (List.perm_nil.mp p.symm).symm
  | a :: l, [], p, _, _ => absurd (List.perm_nil.mp p) (List.cons_ne_nil _ _)
  | a :: l, b :: m, p, h, k => by
    have h1 := List.pairwise_cons.mp h
    have k1 := List.pairwise_cons.mp k
    have e : a = b := by
      have ha : a ∈ b :: m := p.mem_iff.mp List.mem_cons_self
      have hb : b ∈ a :: l := p.mem_iff.mpr List.mem_cons_self
      rcases List.mem_cons.mp ha with z | z
      · exact z
      · rcases List.mem_cons.mp hb with y | y
        · exact y.symm
        · exact ordS.tri a b (k1.1 a z) (h1.1 b y)
    subst e
    rw [up_unique ((List.perm_cons a).mp p) h1.2 k1.2]
/-- the lot of some texts -/
def lot (l : List Str) : List Str := l.mergeSort fun a b => !ltS b a
theorem lot_perm (l : List Str) : (lot l).Perm l := List.mergeSort_perm _ _
theorem lot_up (l : List Str) : Up (lot l) := by
  have h := List.pairwise_mergeSort (le := fun a b => !ltS b a) (fun a b c h k => by
      have h : (!ltS b a) = true := h
      have k : (!ltS c b) = true := k
      rw [Bool.not_eq_true'] at h k
      show (!ltS c a) = true
      rw [ordS.neg c b a k h]
      rfl) (fun a b => by
      show (!ltS b a || !ltS a b) = true
      cases e : ltS b a with
      | false => rfl
      | true =>
        rw [ordS.asym b a e]
        rfl) l
  exact h.imp fun {a b} z => by
    have z : (!ltS b a) = true := z
    rwa [Bool.not_eq_true'] at z
theorem lot_eq {l ys : List Str} (p : ys.Perm l) (s : sortedS ys = true) : ys = lot l := up_unique (p.trans (lot_perm l).symm) (up_of s) (lot_up l)
theorem lot_congr {l m : List Str} (p : l.Perm m) : lot l = lot m := up_unique ((lot_perm l).trans (p.trans (lot_perm m).symm)) (lot_up l) (lot_up m)
theorem lot_nodup {l : List Str} (h : l.Nodup) : (lot l).Nodup := (lot_perm l).nodup_iff.mpr h
theorem lot_length (l : List Str) : (lot l).length = l.length := (lot_perm l).length_eq
theorem mem_lot {l : List Str} {x : Str} : x ∈ lot l ↔ x ∈ l := (lot_perm l).mem_iff
end K34
end
section
set_option linter.all false
set_option maxRecDepth 100000
set_option maxHeartbeats 4000000
/-! Further rules: == by an own __eq__, whatever it answers; xs[i] op= e; xs.remove(text); list(d.values()); max(xs, default=0); t[::-1]. -/
namespace K34
open PySem PySem.Spec PyProof.Rows L2
theorem getD_memI {ns : List Int} {i : Nat} (h : i < ns.length) : ns.getD i 0 ∈ ns := by
  rw [List.getD_eq_getElem?_getD, List.getElem?_eq_getElem h]
  exact List.getElem_mem h
section
variable {X : Cx}
/-- == of two instances of the class at C, by its own __eq__ -/
def rEqOwn (C : Addr) (sp : Sp) (E : XK) : R2 := fun x y H Q => ∃ a b dx dy fs gs, x = .ref a ∧ y = .ref b ∧ H a = some (.ins C dx fs) ∧ H b = some (.ins C dy gs) ∧ sp [x, y] H (fun v H' => (∃ k, v = .bl k) ∧ Q v H') E
theorem op_eqOwn {CX : CXT} {n : Nat} {C f : Addr} {fd : FuncData} {ps : List Str} {sp : Sp} {E : XK} (F : FnOk X.prog X.w X.K X.mg X.base CX n f fd ps sp) (hr : Room n X.A)
    (hs : PySem.W.findIn X.K (.ref C) "__eq__" = some (some (.ref f))) (hf : PySem.W.isFn X.K (.ref f) = true) (hb : Binds X.K fd ps []) (hx : Passes CX X E) : OpR X (compareOp .Eq) (rEqOwn C sp E) := by
  intro pins s σ H x y v u Q I rx ry hq
  obtain ⟨a, b, dx, dy, fs, gs, rfl, rfl, ha, hb', q⟩ := hq
  cases rx
  cases ry
  obtain ⟨mA, J, _⟩ := ins_get I.hok ha
  obtain ⟨mB, J', _⟩ := ins_get I.hok hb'
  obtain ⟨od, J, _⟩ := J.look
  obtain ⟨od', J', _⟩ := J'.look
  obtain ⟨m, hF⟩ := I.fr
  show wpAny _ _ (richCompare .Eq (.ref a) (.ref b)) _ _ _
  refine PySem.W.cmp_K (op := .Eq) (tb := .ref C) (by have := hr.un; omega) hF I.ok.mod.kin J J'.type (by simp [PySem.W.notFirst]) hs hf ?_
  have hl := F.len _ _ _ _ q
  have r2 : Vals [V.ref a, V.ref b] [Value.ref a, Value.ref b] := .cons rfl (.cons rfl .nil)
  refine wpAny_call (codeAny_mono (F.run X.A X.stack s H ⟨[.ref a, .ref b], []⟩ [.ref a, .ref b] [.ref a, .ref b] _ E hr I.env0 (by
    have := hb s [.ref a, .ref b] I.kIn (by simpa using hl)
    simpa using this) r2 q) fun r s' hq => ?_)
  cases r with
  | error e => exact hx pins σ H s e s' I hq
  | ok fl =>
    cases fl with
    | ret w =>
      obtain ⟨z, H', I', rz, ⟨k, ez⟩, q'⟩ := I.after hq
      subst ez
      cases rz
      exact ⟨.bl k, H', I', rfl, q'⟩
    | next => exact False.elim hq
    | brk => exact False.elim hq
    | cont => exact False.elim hq
/-- xs[i] before it is written -/
def rGetL (K : PySem.W.Frag) : V → V → Hp → VK → Prop := fun o i H Q => ∃ (p : Addr) (xs : List V) (k : Nat) (v : V), o = .ref p ∧ i = .int (k : Nat) ∧ SqL K H p xs ∧ xs[k]? = some v ∧ Q v H
theorem get_list : PGet X (rGetL X.K) := by
  intro pins s σ H o i ov iv Q I ro ri h
  obtain ⟨p, xs, k, v, rfl, rfl, hq, hk, q⟩ := h
  cases ro
  obtain ⟨t, rfl⟩ := ri
  obtain ⟨its, r, pl, hz⟩ := I.list hq
  obtain ⟨w, ew, rw'⟩ := r.get hk
  have hl := r.length
  have hlt : k < its.length := (List.getElem?_eq_some_iff.mp ew).1
  have hn := line63
  exact wpAny_getItem_list pl.isList (k := ((k : Nat) : Int)) (Int.natCast_nonneg k) (by omega) (by simpa using ew) ⟨v, H, I, rw', q⟩
/-- xs.remove(z), z there -/
def rRemS : V → List V → Hp → VK → Prop := fun x xs H Q => ∃ (l : Addr) (zs : List Str) (z : Str), x = .ref l ∧ xs = [.str z] ∧ H l = some (.lst (zs.map V.str)) ∧ z ∈ zs ∧ Q .non (upd H l (.lst ((zs.erase z).map V.str)))
theorem first_at' {zs : List Str} {z : Str} (h : z ∈ zs) : ∃ j, j < zs.length ∧ zs[j]? = some z ∧ (∀ i, i < j → zs[i]? ≠ some z) ∧ zs.eraseIdx j = zs.erase z := by
  induction zs with
  | nil => cases h
  | cons a r ih =>
    by_cases e : a = z
    · refine ⟨0, Nat.succ_pos _, by rw [e] <;> rfl, fun i hi => absurd hi (Nat.not_lt_zero _), ?_⟩
      rw [e, List.erase_cons_head] <;> rfl
    · have hr : z ∈ r := (List.mem_cons.mp h).elim (fun q => absurd q.symm e) id
      obtain ⟨j, h1, h2, h3, h4⟩ := ih hr
      refine ⟨j + 1, Nat.succ_lt_succ h1, h2, fun i hi => ?_, ?_⟩
      · cases i with
        | zero => exact fun q => e (Option.some.inj q)
        | succ i => exact h3 i (Nat.lt_of_succ_lt_succ hi)
      · rw [List.erase_cons_tail (by rw [beq_iff_eq]; exact e), ← h4] <;> rfl
theorem map_eraseS : ∀ (ns : List Str) (j : Nat), (ns.map V.str).eraseIdx j = (ns.eraseIdx j).map V.str
  | [], _ => rfl
  | _ :: _, 0 => rfl
  | n :: r, j + 1 => congrArg (V.str n :: ·) (map_eraseS r j)
def isTxt (z : Str) (v : Value) : Bool := match v with
  | .str x _ => x.cps.toList == z.cps.toList
  | _ => false
theorem mt_removeS : MtR X "list.remove" rRemS := by
  intro pins s σ H x xs v us Q I rx rs h
  obtain ⟨l, zs, z, rfl, rfl, hH, hz, q⟩ := h
  cases rx
  obtain ⟨u, rfl, t, rfl⟩ := rs.one
  obtain ⟨hzl, its, n, r, hl, e0⟩ := I.lstM hH
  have item : ∀ i (hi : i < its.length), ∃ t', its[i] = Value.str (zs.getD i "") t' := fun i hi => by
    have hi' : i < zs.length := by
      rw [← List.length_map (f := V.str), hl]
      exact hi
    obtain ⟨u', hu', ru'⟩ := r.get (i := i) (x := V.str (zs.getD i "")) (by rw [List.getElem?_map, List.getElem?_eq_getElem hi', List.getD_eq_getElem?_getD, List.getElem?_eq_getElem hi']; rfl)
    rw [List.getElem?_eq_getElem hi] at hu'
    rw [Option.some.inj hu']
    exact ru'
  have hlen : zs.length = its.length := by
    rw [← hl, List.length_map]
  obtain ⟨j, j1, j2, j3, j4⟩ := first_at' hz
  have hj : j < its.length := by omega
  have at_ : ∀ i, i < zs.length → zs[i]? = some (zs.getD i "") := fun i hi => by
    rw [List.getD_eq_getElem?_getD, List.getElem?_eq_getElem hi]
    rfl
  refine call_meets PySem.F.slot_list_remove ⟨_, e0, rfl⟩ PySem.F.entry_list_remove (PySem.F.args_list_remove_2 _ _)
    (MeetsSeq.list_remove l its.toArray n (.str z t) (isTxt z) (fun y hy => ?he) j (by rw [List.size_toArray]; exact hj) ?hit (fun i hi2 hlt => ?hno) (by rw [List.size_toArray, ← hl]; exact hzl)) ⟨e0, ?_⟩
  case he =>
    obtain ⟨i, hi, rfl⟩ := List.mem_iff_getElem.mp (show y ∈ its by simpa using hy)
    obtain ⟨t', e⟩ := item i hi
    rw [e]
    exact SeqRoads2.EqGives.str _ _ _ _
  case hit =>
    show isTxt z its[j] = true
    obtain ⟨t', e⟩ := item j hj
    rw [e, show zs.getD j "" = z from Option.some.inj ((at_ j j1).symm.trans j2)]
    exact beq_self_eq_true _
  case hno =>
    have hi3 : i < its.length := by rw [List.size_toArray] at hi2; exact hi2
    show isTxt z its[i] = false
    obtain ⟨t', e⟩ := item i hi3
    rw [e, Bool.eq_false_iff]
    intro w
    refine j3 i hlt ((at_ i (by omega)).trans (congrArg some ?_))
    exact str_ext (eq_of_beq (show ((zs.getD i "").cps.toList == z.cps.toList) = true from w))
  have r2 : Vals ((zs.erase z).map V.str) (its.eraseIdx j) := by
    have w := r.eraseIdx j
    rw [map_eraseS, j4] at w
    exact w
  refine ⟨.non, _, I.lset (its' := its.eraseIdx j) hH e0 ?_ r2 ?_, rfl, q⟩
  · show its.toArray.eraseIdxIfInBounds j = (its.eraseIdx j).toArray
    rw [List.eraseIdxIfInBounds_toArray]
  · rw [List.length_map]
    have := List.length_erase_le (a := z) (l := zs)
    rw [List.length_map] at hzl
    omega
theorem vals_snd {kvs : List (Key × V)} {vs : List (Key × Value)} (r : KV kvs vs) : Vals (kvs.map Prod.snd) (vs.map (·.2)) := by
  unfold KV at r
  induction r with
  | nil => exact .nil
  | cons h t ih => exact .cons h.2 ih
/-- list(o.values()) -/
def tLVals (to : TE) : TE := fun σ H Q => to σ H fun x H1 => ∃ (d : Addr) (kvs : List (Key × V)), x = .ref d ∧ H1 d = some (.dK kvs) ∧ ∀ p, H1 p = none → Q (.ref p) (upd H1 p (.lst (kvs.map Prod.snd)))
theorem pe_listVals {e : Expr} {te : TE} {p apos cpos pos : Pos} (hc : X.calm = true) (he : PE X e te) (hg : Gl X "list") (hm : X.mg "list" = none) (hbase : attributeBase e "values" X.env (eval e X.env) = eval e X.env := by rfl) (hline : (apos.endLine == cpos.line) = true := by rfl)
    (hs : starEach [.Call (.Attribute e "values" apos) [] [] cpos] X.env = (false, eval (.Call (.Attribute e "values" apos) [] [] cpos) X.env) :: starEach [] X.env := by rfl) :
    PE X (.Call (.Name "list" p) [.Call (.Attribute e "values" apos) [] [] cpos] [] pos) (tLVals te) := by
  refine ⟨fun pins s σ H Q I hq => ?_⟩
  refine wpAny_Call_Name_kw (ld_blt I hg hm PyProof.Rows.boot_list ?_)
  refine PyProof.Rows.callWith_type1 ?_ hs rfl
  rw [hs]
  show wpAny _ _ (spliced ((false, eval (.Call (.Attribute e "values" apos) [] [] cpos) X.env) :: backTo pos (starEach [] X.env))) _ _ s
  refine Calls.spliced_cons (wpAny_Call_method (T := "dict") (id := "dict.values") hbase rfl hline F.plainAttrs_dict F.slot_dict_values F.type_dict_values (thn (he.run pins s σ H _ I hq) fun u s1 ⟨x, H1, I1, rx, d, kvs, ex, hd, q⟩ => ?_))
  subst ex
  obtain rfl : u = Value.ref d := rx
  obtain ⟨hz, hs0, vs, kv, hdo⟩ := I1.hok d _ hd
  obtain ⟨ep, hat⟩ := hdo.dictAt
  have lk : kvs.length = vs.length := Paired.length kv
  refine ⟨hdo.typeIs, hdo.mapOf.noDict, ?_⟩
  show wpAny _ _ (callWith cpos (.builtin "dict.values") [.ref d] [] []) _ X.xe s1
  refine method_meetsIn F.slot_dict_values F.entry_dict_values rfl (PySem.evalArgs_none ⟨rfl, hdo.typeIs, F.args_dict_values_1 _, _, meets_dict_values (mixKind X.prog X.w) d hs0, ⟨vs, hdo⟩, ?_⟩)
  refine Calls.spliced_nil ?_
  have I2 : Inv X pins σ H1 { s1 with heap := s1.heap.push { cls := .type "dict_values", data := .fields #[.ref d] } } := I1.kept (t' := s1.toks) fun b ob q => Heap.get?_push_of_some _ q
  refine PySem.W.kdl_call (PySem.W.kdl_values (knd := mixKind X.prog X.w) (kvs := vs) (ep := ep)) (I1.ok.hd hc) ⟨⟨_, Heap.get?_push_size _ rfl, rfl, rfl⟩, hat.push _⟩ (by omega) fun h' tk acc c hk hS hacc => ?_
  have I3 := I2.kept (t' := tk) hk
  have newS : H1 (s1.heap.push { cls := .type "dict_values", data := .fields #[.ref d] }).objs.size = none := I2.hok.fresh (Nat.le_refl _)
  refine ⟨.ref _, _, I2.laid (t' := tk) (o := .lst (kvs.map Prod.snd)) hk (Nat.le_refl _) ?_, rfl, q _ newS⟩
  refine ⟨by rw [List.length_map]; exact hz, acc.toList, c, ?_, by rw [Array.toArray_toList]; exact hS⟩
  have hsz : acc.toList.length = vs.length := by
    rw [Array.length_toList]
    exact hacc.1
  have e1 : acc.toList = vs.map (·.2) := PySem.W.kdl_vals_eq acc.toList hsz fun j v hj => hacc.2 j v (by rw [← Array.getElem?_toList]; exact hj)
  rw [e1]
  exact vals_snd kv
/-- max(xs, default=0) -/
def rMaxD (K : PySem.W.Frag) : List V → List V → Hp → VK → Prop := fun vs zs H Q => ∃ (a : Addr) (ns : List Int), vs = [V.ref a] ∧ zs = [.int 0] ∧ SqL K H a (ns.map V.int) ∧ ∀ m : Int, (ns = [] → m = 0) → (ns ≠ [] → m ∈ ns) → (∀ y ∈ ns, y ≤ m) → Q (.int m) H
theorem cr_maxD (hc : X.calm = true) : CallRK X (.builtin "max") [("default" : Str)] (rMaxD X.K) := by
  intro pins s σ H xs zs us ws Q I rx rz h
  obtain ⟨a, ns, rfl, rfl, hq, q⟩ := h
  obtain ⟨u, rfl, ru⟩ := rx.one
  obtain rfl : u = Value.ref a := ru
  obtain ⟨dv, rfl, t0, rfl⟩ := rz.one
  obtain ⟨its, r, pl, hz⟩ := I.list hq
  have hlen : its.length = ns.length := by
    have := r.length
    rw [List.length_map] at this
    exact this.symm
  have item : ∀ i v, its.toArray[i]? = some v → ∃ t, v = Value.int (ns.getD i 0) t := fun i v hi => by
    have hi' : its[i]? = some v := by simpa using hi
    have hlt : i < ns.length := by
      rw [← hlen]
      exact (List.getElem?_eq_some_iff.mp hi').1
    obtain ⟨u', hu', ru'⟩ := r.get (i := i) (x := V.int (ns.getD i 0)) (by rw [List.getElem?_map, List.getElem?_eq_getElem hlt, List.getD_eq_getElem?_getD, List.getElem?_eq_getElem hlt]; rfl)
    rw [hi'] at hu'
    cases hu'
    exact ru'
  show wpAny _ _ (call (.builtin "max") [.ref a] [(("default" : Str), .int 0 t0)]) _ _ _
  have fin : ∀ {s2 : Shared} {o : Obj} {s' : Shared}, s2 = { s with heap := s.heap.push o } → Moved [s.heap.objs.size] (fun a b => b = a) s2 s' → Inv X pins σ H s' := fun e m => by
    obtain ⟨h', tk, rfl, k⟩ := PySem.W.moved_old e rfl m
    exact I.kept (t' := tk) k
  refine call_max_walkD (PySem.W.iter_listW (A := X.A.in1) (I.ok.hd hc) pl.isList fun s2 e2 W st0 hfp hI k2 => ?_)
  refine ⟨_, _, _, _, _, _, _, s.heap, (fun i j => decide (ns.getD i 0 > ns.getD j 0)), rfl, W, st0, hfp, hI, k2, fun hn s' hm => ?_, fun hn => ⟨fun i j vi vj s' Q' E' _ hi hj hQ => CmpOf.ints_gt (fun i => ns.getD i 0) item i j vi vj s' Q' E' hi hj hQ, fun v s' hP hm => ?_⟩⟩
  · have e : ns = [] := List.eq_nil_of_length_eq_zero (by rw [← hlen]; simpa using hn)
    subst e
    exact ⟨.int 0, H, fin e2 hm, ⟨t0, rfl⟩, q 0 (fun _ => rfl) (fun h => absurd rfl h) fun y hy => absurd hy (by simp)⟩
  · obtain ⟨t, rfl⟩ := item _ v hP
    obtain ⟨b1, b2⟩ := argBest_gt (fun i => ns.getD i 0) (its.toArray.size - 1)
    have hn' : 0 < ns.length := by
      rw [← hlen]
      simpa using hn
    have hsz : its.toArray.size = ns.length := by simpa using hlen
    refine ⟨.int _, H, fin e2 hm, ⟨t, rfl⟩, q _ (fun h => by rw [h] at hn'; cases hn') (fun _ => getD_memI (by omega)) fun y hy => ?_⟩
    obtain ⟨j, hj, rfl⟩ := List.mem_iff_getElem.mp hy
    have := b2 j (by omega)
    rwa [List.getD_eq_getElem?_getD (i := j), List.getElem?_eq_getElem hj] at this
/-- t[::-1] -/
theorem adjust_rev (n : Nat) : Builtin.Slice.sliceAdjust none none (-1) (n : Int) = ((n : Int) - 1, -1) := rfl
theorem places_rev (n : Nat) : Builtin.Slice.slicePlaces ((n : Int) - 1) (-1) (-1) = n := by
  unfold Builtin.Slice.slicePlaces
  rw [if_neg (by decide)]
  by_cases h : (n : Int) - 1 > -1
  · rw [if_pos h, show (-(-1 : Int)) = 1 by decide, Int.ediv_one]
    omega
  · rw [if_neg h]
    have : n = 0 := by omega
    rw [this]
    rfl
theorem fm_congr {A B : Type} {f g : A → Option B} : ∀ {l : List A}, (∀ a ∈ l, f a = g a) → l.filterMap f = l.filterMap g
  | [], _ => rfl
  | a :: l, h => by
    rw [List.filterMap_cons, List.filterMap_cons, h a List.mem_cons_self, fm_congr fun b hb => h b (List.mem_cons_of_mem _ hb)]
theorem pick_rev (xs : Array Value) : ((List.range xs.size).filterMap fun (k : Nat) => xs[((xs.size : Int) - 1 + (k : Int) * -1).toNat]?) = xs.toList.reverse := by
  have e : (List.range xs.size).filterMap (fun (k : Nat) => xs[((xs.size : Int) - 1 + (k : Int) * -1).toNat]?) = ((List.range xs.size).map fun k => xs.size - 1 - k).filterMap (xs[·]?) := by
    rw [List.filterMap_map]
    refine fm_congr fun k hk => ?_
    have := List.mem_range.mp hk
    show xs[_]? = xs[xs.size - 1 - k]?
    congr 1
    omega
  rw [e, PySem.W.krv_range, List.filterMap_reverse, PySem.W.krv_all]
def tRevT (K : PySem.W.Frag) (te : TE) : TE := fun σ H Q => te σ H fun x H1 => ∃ a xs, x = .ref a ∧ SqT K H1 a xs ∧ ∀ p, H1 p = none → Q (.ref p) (upd H1 p (.tup xs.reverse))
theorem pe_revT {e : Expr} {te : TE} {k : Nat} {p1 p2 p3 pos : Pos} (he : PE X e te) : PE X (.Subscript e (.Slice none none (some (.UnaryOp .USub (.Constant (.int 1) k p1) p2)) p3) pos) (tRevT X.K te) := by
  refine ⟨fun pins s σ H Q I h => ?_⟩
  refine Subscript_ (thn (he.run pins s σ H _ I h) fun v s1 ⟨x, H1, I1, r1, q1⟩ => ?_)
  obtain ⟨a, xs, rfl, hx, q⟩ := q1
  cases r1
  have hst : PO X (some (.UnaryOp .USub (.Constant (.int 1) k p1) p2)) (tPart (tUn (rU fun i => .int (-i)) (tC (.int 1)))) := po_some (pe_un un_neg pe_int)
  refine wpAny_Slice (thn (po_none.run pins s1 σ H1 (fun o H2 => o = none ∧ H2 = H1) I1 ⟨rfl, rfl⟩) fun vl s2 ⟨l, H2, I2, pl, el, e2⟩ => ?_)
  subst el e2
  refine thn (po_none.run pins s2 σ H2 (fun o H3 => o = none ∧ H3 = H2) I2 ⟨rfl, rfl⟩) fun vu s3 ⟨u, H3, I3, pu, eu, e3⟩ => ?_
  subst eu e3
  refine thn (hst.run pins s3 σ H3 (fun o H4 => o = some (-1) ∧ H4 = H3) I3 ⟨1, rfl, -1, rfl, rfl, rfl⟩) fun vs s4 ⟨o, H4, I4, ps, eo, e4⟩ => ?_
  subst eo e4
  obtain rfl : vl = .none := by
    cases pl
    rfl
  obtain rfl : vu = .none := by
    cases pu
    rfl
  obtain ⟨ts, rfl⟩ : ∃ t, vs = .int (-1) t := by
    cases ps
    exact ⟨_, rfl⟩
  have I5 : Inv X pins σ H4 { s4 with heap := s4.heap.push { cls := .type "slice", data := .fields #[.none, .none, .int (-1) ts] } } := I4.kept (t' := s4.toks) fun b ob q => Heap.get?_push_of_some _ q
  obtain ⟨its, r, ht, hz⟩ := I5.tuple hx
  have hlen := r.length
  show wpAny (model X.prog X.w) X.A (subscriptTail e (.Slice none none (some (.UnaryOp .USub (.Constant (.int 1) k p1) p2)) p3) (.ref a) (.ref s4.heap.objs.size)) (EP X pins σ Q) X.xe { s4 with heap := s4.heap.push { cls := .type "slice", data := .fields #[.none, .none, .int (-1) ts] } }
  refine tail_any (ops := [.ref a, .ref s4.heap.objs.size]) ht.typeIs PyProof.Rows.slot_tuple_getitem.lookup ?_ (by with_unfolding_all rfl)
  have hos : (s4.heap.push { cls := .type "slice", data := .fields #[.none, .none, .int (-1) ts] }).get? s4.heap.objs.size = some { cls := .type "slice", data := .fields #[.none, .none, .int (-1) ts] } := Heap.get?_push_size _ rfl
  have hTs : Shared.TypeIs { s4 with heap := s4.heap.push { cls := .type "slice", data := .fields #[.none, .none, .int (-1) ts] } } (.ref s4.heap.objs.size) "slice" := ⟨_, hos, rfl⟩
  unfold getItem
  try with_reducible refine wpAny_holding ?_
  refine wpAny_bind (wpAny_sequenceKey ht.typeIs (by decide) ?_)
  refine wpAny_bind (wpAny_callSpecial?_slot (name := Str.ofString "__getitem__") ht.typeIs PyProof.Rows.slot_tuple_getitem
    (wpAny_call_entry PyProof.Rows.slot_tuple_getitem ht.typeIs entry_tuple_getitem ?_ (args_tuple_getitem _ _)))
  show wpAny _ _ (Builtin.Tuple.tupleItemsOf (.ref a) >>= _) _ _ _
  refine wpAny_bind (tupleItemsOf_ ht (wpAny_bind (wpAny_typeOf hTs ?_)))
  rw [if_pos (by decide)]
  refine wpAny_bind (?_ : wpAny _ _ (Builtin.Slice.sliceApplied (.ref s4.heap.objs.size) (pure ((its.toArray.size : Nat) : Int))) _ _ _)
  unfold Builtin.Slice.sliceApplied Builtin.Slice.sliceFields
  refine wpAny_bind (wpAny_bind (wpAny_field hos rfl (x := .none) rfl (wpAny_bind (wpAny_field hos rfl (x := .none) rfl (wpAny_bind (wpAny_field hos rfl (x := .int (-1) ts) rfl (wpAny_pure ?_)))))))
  refine wpAny_bind (slicePart_int ?_)
  show wpAny _ _ (if ((-1 : Int) == 0) = true then _ else _) _ _ _
  rw [if_neg (by decide)]
  refine wpAny_bind (slicePart_none (wpAny_bind (slicePart_none (wpAny_bind (wpAny_pure ?_)))))
  show wpAny _ _ (match Builtin.Slice.sliceAdjust none none (-1) ((its.toArray.size : Nat) : Int) with | (lo, hi) => pure (lo, (-1 : Int), Builtin.Slice.slicePlaces lo hi (-1))) _ _ _
  rw [adjust_rev]
  show wpAny _ _ (pure (((its.toArray.size : Nat) : Int) - 1, (-1 : Int), Builtin.Slice.slicePlaces (((its.toArray.size : Nat) : Int) - 1) (-1) (-1))) _ _ _
  rw [places_rev]
  refine wpAny_pure ?_
  show wpAny _ _ (if (((its.toArray.size : Nat) : Int) - 1 == 0 && (-1 : Int) == 1 && its.toArray.size == its.toArray.size) = true then _ else _) _ _ _
  rw [if_neg (by simp), pick_rev]
  have szo : sizeOk (.seq its.toArray.toList.reverse.toArray) := by
    show its.toArray.toList.reverse.toArray.size ≤ sizeLine
    simp
    omega
  have fin : EP X pins σ Q (Value.ref (s4.heap.push { cls := .type "slice", data := .fields #[.none, .none, .int (-1) ts] }).objs.size) { s4 with heap := (s4.heap.push { cls := .type "slice", data := .fields #[.none, .none, .int (-1) ts] }).push { cls := .type "tuple", data := .seq its.toArray.toList.reverse.toArray } } := by
    refine ⟨.ref _, _, I5.laid (t' := s4.toks) (o := .tup xs.reverse) (fun b ob q => Heap.get?_push_of_some _ q) (Nat.le_refl _) ?_, rfl, q _ (I5.hok.fresh (Nat.le_refl _))⟩
    exact ⟨by rw [List.length_reverse]; exact hz, _, r.reverse, ⟨_, Heap.get?_push_size _ rfl, rfl, 0, by simp⟩⟩
  first
    | exact wpAny_bind (m := Builtin.Tuple.tupleExact _) (wpAny_newObj_type (wpAny_pure ⟨_, rfl, wpAny_pure fin⟩) szo)
    | exact wpAny_bind (m := Builtin.Tuple.tupleExact _) (wpAny_newObj_type (wpAny_bind (wpAny_pure (wpAny_pure ⟨_, rfl, wpAny_pure fin⟩))) szo)
    | exact wpAny_bind (wpAny_bind (m := Builtin.Tuple.tupleExact _) (wpAny_newObj_type (wpAny_pure (wpAny_pure ⟨_, rfl, wpAny_pure fin⟩)) szo))
    | exact wpAny_bind (wpAny_bind (m := Builtin.Tuple.tupleExact _) (wpAny_newObj_type (wpAny_pure ⟨_, rfl, wpAny_pure fin⟩) szo))
end
end K34
end
section
set_option linter.all false
set_option maxRecDepth 100000
/-! Rules of my own: enumerate and sum over a tuple. -/
namespace K34
open PySem PySem.Spec PyProof.Rows L2
section
variable {X : Cx} {pins : List (Addr × Obj)} {σ : L2.St} {H : Hp} {s : Shared}
theorem isTuple_of {h : Heap} {p : Addr} {its : Array Value} (t : IsTup h p its) : h.IsTuple p its := by
  obtain ⟨o, e, c, n, d⟩ := t
  exact ⟨o, e, c, n, d⟩
/-! ### enumerate(tuple) -/
/-- the tuple at t, each item in a new pair -/
def Iet (K : PySem.W.Frag) (t : Addr) : It :=
  ⟨fun i H => ∃ (xs : List V) (x : V), SqT K H t xs ∧ xs[i]? = some x,
    fun i H v H' => ∃ p x, v = .ref p ∧ H p = none ∧ H' = upd H p (.tup [.int (i : Nat), x]) ∧ ∀ xs, SqT K H t xs → xs[i]? = some x,
    fun i H => ∃ xs : List V, SqT K H t xs ∧ i = xs.length⟩
theorem turn_enumT {P : Program} {w : World} {K : PySem.W.Frag} {elts : List Expr} {kk : Nat} {tpos : Pos} (t e it : Addr) :
    Turn P w K (.Tuple elts kk tpos) (Iet K t) [e, it] e (fun i h => (∃ old, IsEnum h e it ((i : Nat) : Int) old) ∧ h.IsTupleIter it t i ∧ e ≠ it ∧ t ≠ e ∧ t ≠ it) where
  mem := List.mem_cons_self
  obj := fun i h st b hb => by
    obtain ⟨⟨old, he⟩, ⟨o, ho, hc, hd⟩, _⟩ := st
    rcases List.mem_cons.mp hb with z | z
    · subst z
      exact ⟨_, he, fun v q => Data.noConfusion q⟩
    · rw [List.mem_singleton.mp z]
      exact ⟨o, ho, fun v q => by
        rw [hd] at q
        cases q⟩
  keep := fun i h h' st k => by
    obtain ⟨⟨old, he⟩, hi, r⟩ := st
    exact ⟨⟨old, k e List.mem_cons_self _ he⟩, hi.at fun o q => k it (List.mem_cons_of_mem _ List.mem_cons_self) o q, r⟩
  item := by
    intro X hP hw hK hc i pins s σ H E I hf st hg
    subst hP hw hK
    obtain ⟨⟨old, he⟩, hit, n1, n2, n3⟩ := st
    obtain ⟨xs, x, hq, hx⟩ := hg
    obtain ⟨its, rv, p, hz⟩ := I.tuple hq
    obtain ⟨u, hu, ru⟩ := rv.get hx
    have hlt : i < its.toArray.size := by
      have := get_lt hu
      simpa using this
    have hel : e < s.heap.objs.size := Heap.lt_size he
    have hil : it < s.heap.objs.size := by
      obtain ⟨_, q, _⟩ := hit
      exact Heap.lt_size q
    have hh : X.A.in1.handled = none := I.ok.hd hc
    refine wpAny_pyNext_enum_itemC (Draws.tuple hh it t n3 its.toArray) he ⟨hit, isTuple_of p⟩ hlt n1 (fun hm => ?_) fun x1 h' tk hx1 ho hst hT hsz hk => ?_
    · rcases List.mem_cons.mp hm with z | z
      · exact n1 z
      · exact n2 (List.mem_singleton.mp z).symm
    · have ex : x1 = u := by
        have hx2 : its.toArray[i]? = some x1 := hx1
        rw [List.getElem?_toArray, hu] at hx2
        exact (Option.some.inj hx2).symm
      subst ex
      refine ⟨_, rfl, wpAny_letOwnedTupleGo_enum (s := { s with heap := h', toks := tk + 1 }) ho fun h2 he2 sb => ?_⟩
      have hT2 : h2.get? s.heap.objs.size = some { cls := .type "tuple", data := .seq #[.int i tk, x1] } := (sb.2 _ (Nat.ne_of_gt hel)).trans hT
      have new : ObjOk X.prog X.w (upd H s.heap.objs.size (.tup [.int (i : Nat), x])) h2 s.heap.objs.size (.tup [.int (i : Nat), x]) :=
        ⟨by show 2 ≤ sizeLine; decide, [.int i tk, x1], .cons ⟨_, rfl⟩ (.cons ru .nil), ⟨_, hT2, rfl, _, rfl⟩⟩
      have apart : ∀ b, b ∉ ([e, it] : List Addr) → b ≠ e ∧ b ≠ it := fun b hb =>
        ⟨fun z => hb (by rw [z]; exact List.mem_cons_self), fun z => hb (by rw [z]; exact List.mem_cons_of_mem _ List.mem_cons_self)⟩
      have I1 : Inv X pins σ (upd H s.heap.objs.size (.tup [.int (i : Nat), x])) { s with heap := h2, toks := tk + 1 } :=
        I.turnedNew (ch := [e, it]) (fun b ob hb q => (sb.2 b (apart b hb).1).trans (hk b ob (apart b hb).1 (apart b hb).2 q)) hf (Nat.le_refl _) new
      refine ⟨.ref s.heap.objs.size, _, I1, rfl, ⟨_, x, rfl, I.hok.fresh (Nat.le_refl _), rfl, fun ys hy => ?_⟩, ⟨⟨x1, ?_⟩, ?_, n1, n2, n3⟩, fun b hb => ?_⟩
      · rw [I.tuple_inj hy hq]
        exact hx
      · have e1 : ((i + 1 : Nat) : Int) = (i : Int) + 1 := by omega
        rw [e1]
        exact he2
      · exact hst.1.at fun o q => (sb.2 it (Ne.symm n1)).trans q
      · have hb' : b < s.heap.objs.size := by
          rcases List.mem_cons.mp hb with z | z
          · rw [z]
            exact hel
          · rw [List.mem_singleton.mp z]
            exact hil
        rw [upd_ne (Nat.ne_of_lt hb')]
        exact (hf b hb).1
  done := by
    intro X hP hw hK hc i pins s σ H E I hf st hg
    subst hP hw hK
    obtain ⟨⟨old, he⟩, hit, n1, n2, n3⟩ := st
    obtain ⟨xs, hq, hx⟩ := hg
    obtain ⟨its, rv, p, hz⟩ := I.tuple hq
    have hl := rv.length
    have hh : X.A.in1.handled = none := I.ok.hd hc
    obtain ⟨f0, f1, f2, f3, f4, f5⟩ := hf it (List.mem_cons_of_mem _ List.mem_cons_self)
    have ei : i = its.toArray.size := by rw [hx, hl, List.size_toArray]
    refine wpAny_pyNext_enum_endD (Draws.tuple hh it t n3 its.toArray) he ⟨by rw [← ei]; exact hit, isTuple_of p⟩ fun h' eb => ⟨rfl, ?_⟩
    exact I.turned (t' := s.toks) (fun b o hb q => eb b o hb q) f0 f1 f3 f4 f5
  self := fun A i s Q E st h => by
    obtain ⟨⟨_, he⟩, _⟩ := st
    exact wpAny_pyIter_enum he h
set_option maxHeartbeats 1000000 in
theorem meets_enumT (t : Addr) (its : Array Value) : Meets (Builtin.«enumerate.__new__» ⟨[.type "enumerate", .ref t], []⟩) (fun _ R s => s.heap.IsTuple t its ∧
    R (.ok (.ret (.ref (s.heap.push { cls := .type "tuple_iterator", data := .fields #[.ref t, .int 0 0] }).objs.size)))
      { s with heap := (s.heap.push { cls := .type "tuple_iterator", data := .fields #[.ref t, .int 0 0] }).push { cls := .type "enumerate", data := .fields #[.none, .bool false, .ref s.heap.objs.size, rawInt 0, .none, .none] } }) :=
  .of_wp fun prog w A R s h => by
    obtain ⟨hp, g, d, tk, os⟩ := s
    obtain ⟨h1, h2⟩ := h
    have hsub := sub_enumerate
    have it : ∀ {A2 : Around} {E : Value → Shared → Prop} {Q : Value → Shared → Prop}, Q (.ref hp.objs.size) ⟨hp.push { cls := .type "tuple_iterator", data := .fields #[.ref t, .int 0 0] }, g, d, tk, os⟩ → wpAny (model prog w) A2 (pyIter (.ref t)) Q E ⟨hp, g, d, tk, os⟩ :=
      fun q => (begins_tuple t its).iter prog w _ _ ⟨hp, g, d, tk, os⟩ _ h1 q
    wp_walk using it
    refine wpAny_stack_any fun st => wpAny_pure ?_
    split
    · rename_i c _ _ _ _ _
      cases (c == Value.type "enumerate")
      · wp_walk using it
        exact ⟨_, rfl, h2⟩
      · wp_walk using it
        exact ⟨_, rfl, h2⟩
    · wp_walk using it
      exact ⟨_, rfl, h2⟩
theorem call_enumT {prog : Program} {w : World} {A : Around} {E : Value → Shared → Prop} {s : Shared} {t : Addr} {its : Array Value} {Q : Value → Shared → Prop} (hT : s.heap.IsTuple t its)
    (h : ∀ h', IsEnum h' (s.heap.objs.size + 1) s.heap.objs.size 0 .none → h'.IsTupleIter s.heap.objs.size t 0 → (∀ b o, s.heap.get? b = some o → h'.get? b = some o) → Q (.ref (s.heap.objs.size + 1)) { s with heap := h' }) :
    wpAny (model prog w) A (call (.type "enumerate") [.ref t]) Q E s := by
  refine callType_new F.called_enumerate (by decide) (F.typeCall_enumerate_1 _) (F.newCall_enumerate_1 _) (fun obj => F.args_object_init_2 obj _) F.entry_enumerate_new (meets_enumT t its) ⟨hT, ?_⟩
  have hz : (s.heap.push { cls := .type "tuple_iterator", data := .fields #[.ref t, .int 0 0] }).objs.size = s.heap.objs.size + 1 := Heap.size_push ..
  show _ ∧ _
  rw [hz]
  have he : IsEnum ((s.heap.push { cls := .type "tuple_iterator", data := .fields #[.ref t, .int 0 0] }).push
      { cls := .type "enumerate", data := .fields #[.none, .bool false, .ref s.heap.objs.size, rawInt 0, .none, .none] }) (s.heap.objs.size + 1) s.heap.objs.size 0 .none := by
    have q := Heap.get?_push_size (s.heap.push { cls := .type "tuple_iterator", data := .fields #[.ref t, .int 0 0] })
      (o := { cls := .type "enumerate", data := .fields #[.none, .bool false, .ref s.heap.objs.size, rawInt 0, .none, .none] }) rfl
    rw [hz] at q
    exact q
  exact ⟨⟨_, he, rfl⟩, h _ he ⟨_, Heap.get?_push_of_some _ (Heap.get?_push_size _ rfl), rfl, rfl⟩ fun b o x => Heap.get?_push_of_some _ (Heap.get?_push_of_some _ x)⟩
def iEnumT (K : PySem.W.Frag) (ta : TA) : TI := fun σ H R => ta σ H fun vs H1 => ∃ t xs, vs = [.ref t] ∧ SqT K H1 t xs ∧ R (Iet K t) H1
theorem pi_enumT {X : Cx} {e : Expr} {ta : TA} {p pos tpos : Pos} {elts : List Expr} {kk : Nat} (hg : Gl X "enumerate") (hm : X.mg "enumerate" = none) (ha : PA X [e] ta) (hs : starEach [e] X.env = [(false, eval e X.env)] := by rfl) :
    PI X (.Tuple elts kk tpos) (.Call (.Name "enumerate" p) [e] [] pos) (iEnumT X.K ta) := by
  refine ⟨fun pins s σ H R I h => ?_⟩
  refine Call_ (ld_blt I hg hm boot_enumerate (PyProof.Rows.callWith_type1 (thn (ha.run pos pins s σ H _ I h) fun us s1 ⟨vs, H1, I1, r1, q1⟩ => ?_) hs rfl))
  obtain ⟨t, xs, rfl, hq, q⟩ := q1
  cases r1 with
  | @cons _ u _ ur ra rr =>
    cases rr
    obtain rfl : u = Value.ref t := ra
    obtain ⟨its, rv, p', hz⟩ := I1.tuple hq
    have htl : t < s1.heap.objs.size := p'.lt
    refine call_enumT (isTuple_of p') fun h' he hit hk => wpAny_pyIter_enum he ?_
    have I2 : Inv X pins σ H1 { s1 with heap := h' } := I1.kept (t' := s1.toks) hk
    refine ⟨s1.heap.objs.size + 1, [s1.heap.objs.size + 1, s1.heap.objs.size], _, _, H1, rfl, I2, turn_enumT t (s1.heap.objs.size + 1) s1.heap.objs.size,
      ⟨⟨.none, he⟩, hit, Nat.succ_ne_self _, Nat.ne_of_lt (Nat.lt_succ_of_lt htl), Nat.ne_of_lt htl⟩, fun b hb => ?_, q⟩
    have hle : s1.heap.objs.size ≤ b := by
      rcases List.mem_cons.mp hb with z | z
      · rw [z]
        exact Nat.le_add_right _ _
      · rw [List.mem_singleton.mp z]
        exact Nat.le_refl _
    exact I1.fpOk hle (I1.hok.fresh hle)
theorem walk_enumT {K : PySem.W.Frag} {t : Addr} {xs : List V} : Walk (Iet K t) xs.length (fun H => SqT K H t xs) (YPair (fun i => some (.int (i : Nat))) (fun i => xs[i]?)) := by
  refine ⟨fun i _ hi q => ⟨xs, xs[i], q, List.getElem?_eq_getElem hi⟩, fun _ q => ⟨xs, q, rfl⟩, fun i H v H' _ q y => ?_⟩
  obtain ⟨T, x, h1, h2, h3, h4⟩ := y
  exact ⟨T, .int (i : Nat), x, h1, h2, h3, rfl, h4 xs q⟩
/-! ### sum(tuple) -/
def rSumT (K : PySem.W.Frag) : List V → Hp → VK → Prop := fun vs H Q => ∃ (t : Addr) (ns : List Int), vs = [V.ref t] ∧ SqT K H t (ns.map V.int) ∧ Q (.int ns.sum) H
theorem cr_sumT (hc : X.calm = true) : CallR X (.builtin "sum") (rSumT X.K) := by
  intro pins s σ H vs us Q I r h
  obtain ⟨t, ns, rfl, hs, q⟩ := h
  obtain ⟨its, rv, p, _⟩ := I.tuple hs
  rw [Vals.ref1 r]
  have hi := rv.ints
  obtain ⟨xs, e⟩ := hi.allInts.items
  have hn : numsOf (intItems xs).toList = ns := by
    rw [← e]
    exact hi.numsOf
  rw [nums_intItems] at hn
  have ht := isTuple_of p
  rw [e] at ht
  refine PySem.W.ktm_sumG (I.ok.hd hc) ht fun h' tk t' hk => ⟨.int ns.sum, H, I.kept hk, ⟨t', ?_⟩, q⟩
  rw [preSum_eq, List.take_of_length_le (by simp), hn]
end
end K34
end
section
set_option linter.all false
set_option maxRecDepth 100000
/-! sorted(set(list of unlike texts)). -/
namespace K34
open PySem PySem.Spec PyProof.Rows L2
def strOfE (e : Int × Value) : Str := match e.2 with
  | .str x _ => x
  | _ => Str.empty
def GoodS (w : World) (e : Int × Value) : Prop := ∃ x tk, e.2 = Value.str x tk ∧ e.1 = hashStr w x
/-- the set of the texts ks at a; it can be walked -/
def SetS (w : World) (h : Heap) (a : Addr) (ks : List Str) : Prop :=
  ∃ o es ep t, h.get? a = some o ∧ o.ExactSet ∧ o.data = .set es ep t ∧ (∀ e ∈ es.toList, GoodS w e) ∧ (es.toList.map strOfE).Perm ks ∧
    es.size < scanBound ∧ t.fits es.size = true ∧ Ris t.place.toList ∧ (w.params.followText "set-order" = true ∨ t.led = true)
section
variable {P : Program} {w : World} {A : Around} {E : Value → Shared → Prop} {s : Shared} {a : Addr} {ks : List Str}
theorem SetS.at {h h' : Heap} (R : SetS w h a ks) (k : ∀ o, h.get? a = some o → h'.get? a = some o) : SetS w h' a ks := by
  obtain ⟨o, es, ep, t, ho, r⟩ := R
  exact ⟨o, es, ep, t, k o ho, r⟩
theorem goodS_elems {l : List (Int × Value)} (g : ∀ e ∈ l, GoodS w e) : ElemsOf (PySem.strKind P w) l := fun e he => by
  obtain ⟨x, tk, h1, h2⟩ := g e he
  refine ⟨⟨x, ?_, h2⟩, ?_⟩
  · rw [h1]
    exact strKind_is P w x tk
  · rw [h1]
    rfl
theorem goodS_is {e : Int × Value} (g : GoodS w e) (x : Str) : (PySem.strKind P w).is x e.2 = true → strOfE e = x := by
  obtain ⟨y, tk, h1, _⟩ := g
  unfold strOfE
  rw [h1]
  intro h
  have h : Value.isStrOf x (.str y tk) = true := h
  simpa [Value.isStrOf] using h
/-- what stands behind the storing of one more -/
theorem setS_tail {g : Bool → Sem Unit} (hg : ∀ (b : Bool) (s₁ : Shared) (Q' : Unit → Shared → Prop), Q' () s₁ → wpAny (model P w) A (g b) Q' E s₁)
    {o : Obj} {es : Array (Int × Value)} {ep : Nat} {t : SetTable} (ho : s.heap.get? a = some o) (hex : o.ExactSet) (hd : o.data = .set es ep t)
    {es1 : Array (Int × Value)} {t2 : SetTable} {ks1 : List Str} (g1 : ∀ e ∈ es1.toList, GoodS w e) (pk : (es1.toList.map strOfE).Perm ks1)
    (hb1 : es1.size < scanBound) (hf2 : t2.fits es1.size = true) (hr : Ris t2.place.toList) (hl : w.params.followText "set-order" = true ∨ t2.led = true) {wasDummy : Bool} {R : Option Bool → Shared → Prop}
    (hR : ∀ h', Heap.SameBut a s.heap h' → SetS w h' a ks1 → R (some true) { s with heap := h' }) :
    wpAny (model P w) A (storeSet a es1 t2 >>= fun _ => if (!wasDummy && t2.tooFull) = true then
        g (relayAll t2 es1 (SetTable.grown es1.size)).2.2 >>= fun _ => storeSet a (relayAll t2 es1 (SetTable.grown es1.size)).1 (relayAll t2 es1 (SetTable.grown es1.size)).2.1 >>= fun _ => pure (some true)
      else pure (some true)) R E s := by
  refine wpAny_bind (wpAny_storeSet_of ho hd ?_ (fits_of_scanBound hb1))
  have ho1 := store_at (es' := es1) (t' := t2) ho hd
  have sb1 := Heap.SameBut.update s.heap a (Obj.putSet es1 t2)
  split
  · have pm := relayAll_perm t2 es1 (SetTable.grown es1.size)
    have hf3 := relayAll_fits t2 es1 (SetTable.grown es1.size)
    have hr3 := relayAll_ris t2 es1 (SetTable.grown es1.size)
    have hl3 := relayAll_led t2 es1 (SetTable.grown es1.size)
    generalize relayAll t2 es1 (SetTable.grown es1.size) = Z at pm hf3 hr3 hl3 ⊢
    obtain ⟨es2, t3, gave⟩ := Z
    dsimp only at pm hf3 hr3 hl3 ⊢
    have hsz : es2.size = es1.size := by
      have := pm.length_eq
      rwa [Array.length_toList, Array.length_toList] at this
    have hb2 : es2.size < scanBound := by rw [hsz]; exact hb1
    refine wpAny_bind (hg _ _ _ (wpAny_bind (wpAny_storeSet_of ho1 rfl ?_ (fits_of_scanBound hb2))))
    have ho2 := store_at (es' := es2) (t' := t3) ho1 rfl
    refine wpAny_pure (hR _ (sb1.trans (Heap.SameBut.update _ a _)) ⟨_, es2, _, t3, ho2, hex, rfl, fun e he => g1 e (pm.mem_iff.mp he), (pm.map strOfE).trans pk, hb2, hf3, hr3, ?_⟩)
    rcases hl with z | z
    · exact .inl z
    · exact .inr (by rw [hl3]; exact z)
  · exact wpAny_pure (hR _ sb1 ⟨_, es1, _, t2, ho1, hex, rfl, g1, pk, hb1, hf2, hr, hl⟩)
theorem setS_add {k : Str} {tk : Tok} {Q : Bool → Shared → Prop} (R : SetS w s.heap a ks) (hk : k ∉ ks) (room : ks.length + 1 < scanBound)
    (hQ : ∀ h', Heap.SameBut a s.heap h' → SetS w h' a (k :: ks) → Q true { s with heap := h' }) :
    wpAny (model P w) A (setAddHashed a (.str k tk) ((PySem.strKind P w).hash k)) Q E s := by
  obtain ⟨o, es, ep, t, ho, hex, hd, g, pk, hb, hf, hr, hl⟩ := R
  have hkey : (PySem.strKind P w).is k (.str k tk) = true := strKind_is P w k tk
  have hsc : (Value.str k tk).scannable = true := rfl
  have hel : ElemsOf (PySem.strKind P w) es.toList := goodS_elems g
  have hfi : List.findIdx? (fun e => (PySem.strKind P w).is k e.2) es.toList = none := List.findIdx?_eq_none_iff.mpr fun e he => by
    cases q : (PySem.strKind P w).is k e.2 with
    | false => rfl
    | true =>
      have z := goodS_is (g e he) k q
      exact absurd (pk.mem_iff.mp (z ▸ List.mem_map_of_mem he)) hk
  unfold setAddHashed setAddHashedIn
  refine wpAny_holding (wpAny_bind (wpAny_setState_of ho hd hf ?_))
  dsimp only
  rw [byScan_of hsc hb hel]
  simp only [↓reduceIte]
  unfold setAddByScan
  refine wpAny_bind (wpAny_bind (wpAny_rule (wpAny_bind (wpAny_setScan_of hkey ho hd hf hel ?_))))
  rw [hfi]
  dsimp only
  have hgw : ∀ (b : Bool) {s₁ : Shared} {Q' : Unit → Shared → Prop}, Q' () s₁ → wpAny (model P w) A (match b with | true => rule "set.scan.the-table-gave-way" | false => pure ()) Q' E s₁ :=
    fun b s₁ Q' q => by
      cases b
      · exact wpAny_pure q
      · exact wpAny_rule q
  have pm := layNew_perm t es ((PySem.strKind P w).hash k) (.str k tk)
  have hf1 := layNew_fits t es ((PySem.strKind P w).hash k) (.str k tk)
  have hr1 := layNew_ris t es ((PySem.strKind P w).hash k) (.str k tk) hr
  have hl1 := layNew_led t es ((PySem.strKind P w).hash k) (.str k tk)
  generalize layNew t es ((PySem.strKind P w).hash k) (.str k tk) = Z at pm hf1 hr1 hl1 ⊢
  obtain ⟨es1, t1, wasDummy, gave⟩ := Z
  dsimp only at pm hf1 hr1 hl1 ⊢
  rw [Array.toList_push] at pm
  have pc : es1.toList.Perm (((PySem.strKind P w).hash k, Value.str k tk) :: es.toList) := pm.trans (List.perm_append_singleton _ _)
  have pk1 : (es1.toList.map strOfE).Perm (k :: ks) := (pc.map strOfE).trans (pk.cons k)
  have g1 : ∀ e ∈ es1.toList, GoodS w e := fun e he => by
    rcases List.mem_cons.mp (pc.mem_iff.mp he) with z | z
    · rw [z]
      exact ⟨k, tk, rfl, rfl⟩
    · exact g e z
  have hsz : es1.size = ks.length + 1 := by
    have := pk1.length_eq
    rwa [List.length_map, Array.length_toList, List.length_cons] at this
  have hb1 : es1.size < scanBound := by rw [hsz]; exact room
  have hled : w.params.followText "set-order" = true ∨ t1.led = true := by
    rcases hl with z | z
    · exact .inl z
    · exact .inr (by rw [hl1]; exact z)
  have grule : ∀ (b : Bool) (s₁ : Shared) (Q' : Unit → Shared → Prop), Q' () s₁ → wpAny (model P w) A (match b with | true => rule "set.scan.the-table-gave-way" | false => pure ()) Q' E s₁ := fun b s₁ Q' q => hgw b q
  refine wpAny_bind (hgw _ ?_)
  split
  · refine wpAny_bind ?_
    rw [hashByValue_scannable 8 hsc]
    refine wpAny_pure ?_
    refine setS_tail ?_ ho hex hd g1 pk1 hb1 ?_ ?_ ?_ ?_
    · intro b s₁ Q' q
      cases b <;> first | exact wpAny_pure q | exact wpAny_rule q
    · first | (split <;> first | exact hf1 | exact SetTable.fits_plain_off hf1) | exact hf1
    · first | (split <;> exact hr1) | exact hr1
    · first | (split <;> exact hled) | exact hled
    · intro h' sb r
      dsimp only
      exact wpAny_pure (hQ h' sb r)
  · refine wpAny_bind (wpAny_pure ?_)
    simp only [↓reduceIte]
    refine setS_tail ?_ ho hex hd g1 pk1 hb1 hf1 hr1 hled ?_
    · intro b s₁ Q' q
      cases b <;> first | exact wpAny_pure q | exact wpAny_rule q
    · intro h' sb r
      dsimp only
      exact wpAny_pure (hQ h' sb r)
theorem setS_fresh {h : Heap} (ho : h.get? a = some { cls := .type "set", dict := none, data := .set #[] 0 (.fresh 0 0 (!w.params.followText "set-order")) }) : SetS w h a [] := by
  refine ⟨_, #[], 0, _, ho, ⟨rfl, rfl, rfl⟩, rfl, fun e he => ?_, List.Perm.refl _, by decide, rfl, List.Pairwise.nil, ?_⟩
  · have he : e ∈ ([] : List (Int × Value)) := he
    cases he
  · show _ ∨ (!w.params.followText "set-order") = true
    cases w.params.followText "set-order"
    · exact .inr rfl
    · exact .inl rfl
/-- the loop that fills a new set -/
theorem setS_loop {I : Addr} {fp wr : List Addr} {G : Array GenState → Array GenState → Prop} {n : Nat} {Pv : Nat → Value → Prop} {St : Nat → Shared → Prop} {R : Result → Shared → Prop}
    (W : WalksS P w A.in1 I fp wr G n Pv St) (S : Addr) (hSf : S ∉ fp) (xs : List Str) (hnd : xs.Nodup) (hn : n = xs.length) (hb : xs.length + 1 < scanBound) (hval : ∀ i v, Pv i v → ∃ k t, xs[i]? = some k ∧ v = .str k t) :
    ∀ (k i : Nat) (s : Shared), n - i = k → i ≤ n → St i s → SetS w s.heap S (xs.take i).reverse →
      (∀ s', Moved (S :: wr) G s s' → SetS w s'.heap S xs.reverse → R (.ok (.ret .none)) s') →
      codeAny (model P w) A (.builtin "set.update.loop" ⟨[.ref S, .ref I], []⟩) R s := by
  have hSw : S ∉ wr := fun h => hSf (W.sub _ h)
  have hsub : ∀ b ∈ wr, b ∈ S :: wr := fun b hb => List.mem_cons_of_mem _ hb
  intro k
  induction k with
  | zero =>
    intro i s hk' hi hst hS hR
    obtain rfl : i = n := by omega
    refine codeAny_builtin F.entry_set_update_loop ?_
    rw [Around.under_plainId F.plain_set_update_loop _]
    show wpAny _ A.in1 (pyNext (.ref I) >>= _) _ _ s
    refine wpAny_bind (W.done s _ _ hst fun s' hm => ?_)
    show wpAny _ A.in1 (ret Value.none) _ _ s'
    rw [List.take_of_length_le (Nat.le_of_eq hn.symm)] at hS
    exact wpAny_pure (hR s' (hm.mono hsub) (hS.at fun o e => hm.heap S o hSw e))
  | succ k ih =>
    intro i s hk' hi hst hS hR
    have hlt : i < n := by omega
    refine codeAny_builtin F.entry_set_update_loop ?_
    rw [Around.under_plainId F.plain_set_update_loop _]
    show wpAny _ A.in1 (pyNext (.ref I) >>= _) _ _ s
    refine wpAny_bind (W.item i s _ _ hlt hst fun v s' hP hst' hm => ?_)
    obtain ⟨z, t, hz, rfl⟩ := hval i v hP
    have hS' := hS.at (h' := s'.heap) fun o e => hm.heap S o hSw e
    have hzi : z ∉ (xs.take i).reverse := fun hm2 => by
      obtain ⟨j, hj, ej⟩ := List.mem_iff_getElem.mp (List.mem_reverse.mp hm2)
      rw [List.length_take] at hj
      rw [List.getElem_take] at ej
      have hjl : j < xs.length := by omega
      have e2 : xs[j]? = some z := by rw [List.getElem?_eq_getElem hjl, ej]
      have := nd_ix hnd e2 hz
      omega
    show wpAny _ A.in1 (holding [Value.str z t] (setAdd S (.str z t)) >>= _) _ _ s'
    refine wpAny_bind (wpAny_holding ?_)
    unfold setAdd
    refine wpAny_holding ?_
    refine wpAny_bind ((PySem.strKind P w).pyHash (k := z) (strKind_is _ _ _ _) ?_)
    refine setS_add (s := { s' with toks := s'.toks + 1 }) hS' hzi (by rw [List.length_reverse, List.length_take]; omega) fun h' hsb hS2 => ?_
    have hS3 : SetS w h' S (xs.take (i + 1)).reverse := by
      rw [List.take_add_one, hz, List.reverse_append]
      exact hS2
    refine wpAny_pure ⟨plainId_quiet F.plain_set_update_loop _, ih (i + 1) _ (by omega) hlt (W.frame _ s' _ _ hst' (Nat.le_succ _) fun b hb o e => ?_) hS3 fun s'' hm'' hS'' => ?_⟩
    · rw [hsb.2 b (fun z => hSf (by rw [← z]; exact hb))]
      exact e
    · refine hR s'' (Moved.trans W.gtrans ((hm.mono hsub).then_heap (Nat.le_succ _) fun b o hb e => ?_) hm'') hS''
      rw [hsb.2 b (fun z => hb (by rw [z]; exact List.mem_cons_self))]
      exact e
end
end K34
end
section
set_option linter.all false
set_option maxRecDepth 100000
/-! set(list), sorted(set) of texts, as rules. -/
namespace K34
open PySem PySem.Spec PyProof.Rows L2
section
variable {P : Program} {w : World} {A : Around} {E : Value → Shared → Prop} {s : Shared} {a : Addr} {ks : List Str}
theorem strsAt : ∀ {vs : List Value} {ss : List Str}, StrsAre vs ss → ∀ (i : Nat) (v : Value), vs[i]? = some v → ∃ k t, ss[i]? = some k ∧ v = .str k t
  | _, _, .nil, i, v, h => by cases h
  | _, _, .cons x t r, 0, v, h => ⟨x, t, rfl, (Option.some.inj h).symm⟩
  | _, _, .cons x t r, i + 1, v, h => strsAt r i v h
/-- a set as set.__new__ leaves it -/
abbrev setNew (w : World) : Obj := { cls := .type "set", dict := none, data := .set #[] 0 (.fresh 0 0 (!w.params.followText "set-order")) }
set_option maxHeartbeats 3200000 in
theorem call_setS {l : Addr} {items : Array Value} (xs : List Str) {Q : Value → Shared → Prop} (hh : A.handled = none) (hl : s.heap.IsList l items) (hit : StrsAre items.toList xs) (hnd : xs.Nodup) (hb : xs.length + 1 < scanBound)
    (h : ∀ (h' : Heap) (tk : Nat), SetS w h' s.heap.objs.size xs.reverse → (∀ b o, s.heap.get? b = some o → h'.get? b = some o) → Q (.ref s.heap.objs.size) { s with heap := h', toks := tk }) :
    wpAny (model P w) A (call (.type "set") [.ref l]) Q E s := by
  have hisz : items.size = xs.length := by
    have q := StrsAre.length hit
    rwa [Array.length_toList] at q
  obtain ⟨c, tl, hmro⟩ := F.called_set.mro
  have hmade := F.called_set.made
  have hsub := F.called_set.sub
  have h1 := F.called_set.notType
  have h2 := F.called_set.canCreate
  have hct := F.typeCall_set_1 (.ref l)
  refine wpAny_call (codeAny_of_tree ?_)
  show wpAny _ _ (callAny (.type "set") _) _ _ _
  refine wpAny_pure ⟨Code.quiet_builtin _ (by decide +kernel), codeAny_builtin F.entry_type_call ?_⟩
  rw [Around.under_plain (weight_type_call_type "set" [.ref l] []) rfl]
  repeat (any_goals (first | assumption | wp_step))
  refine codeAny_mono (code_set_led1 (.ref l) (E := E) (Q₁ := fun obj s₁ => obj = .ref s.heap.objs.size ∧ s₁ = { s with heap := s.heap.push (setNew w) }) ⟨rfl, rfl⟩) fun r s₁ hr => ?_
  cases r with
  | error e => exact hr
  | ok fl =>
    cases fl with
    | next => exact hr.elim
    | brk => exact hr.elim
    | cont => exact hr.elim
    | ret obj =>
      obtain ⟨rfl, rfl⟩ := hr
      have hS : (s.heap.push (setNew w)).get? s.heap.objs.size = some (setNew w) := Heap.get?_push_size _ rfl
      have hT : Shared.TypeIs { s with heap := s.heap.push (setNew w) } (.ref s.heap.objs.size) "set" := ⟨_, hS, rfl⟩
      have hli := F.called_set.init.lookup
      have hbi := F.called_set.init.bind (.ref s.heap.objs.size)
      repeat (any_goals (first | assumption | wp_step))
      refine codeAny_mono (codeAny_call_builtin (R := wants (fun r s₂ => r = .none ∧ ∃ h' tk, s₂ = { s with heap := h', toks := tk } ∧ SetS w h' s.heap.objs.size xs.reverse ∧
          (∀ b o, s.heap.get? b = some o → h'.get? b = some o)) E) F.called_set.init.plain F.entry_set_init (check_set_init_1 hT ?_)) fun r₂ s₂ hr₂ => ?_
      · obtain ⟨⟨ocls, odict, odata, oslots⟩, hol, hcl, nl, hdl⟩ := hl
        simp only at hcl hdl
        subst hcl
        subst hdl
        have hol2 : (s.heap.push (setNew w)).get? l = some { cls := .type "list", dict := odict, data := .seq items nl, slots := oslots } := Heap.get?_push_of_some _ hol
        have hsls := F.sub_list_set
        have hslf := F.sub_list_frozenset
        have hne : (Value.type "list" == Value.type "dict") = false := by decide
        have hl1 : (s.heap.push (setNew w)).IsList l items := ⟨_, hol2, rfl, nl, rfl⟩
        unfold Builtin.«set.__init__» noKeywords Builtin.Frozenset.updateFrom
        generalize hPI : pyIter = PI
        wp_walk
        subst hPI
        refine wpAny_pyIter_list hl1 (wpAny_bind (wpAny_runValue ?_))
        have hlS : l < s.heap.objs.size := Heap.lt_size hol
        have hh3 : A.in1.in1.in1.handled = none := hh
        have hz1 : (s.heap.push (setNew w)).objs.size = s.heap.objs.size + 1 := Heap.size_push ..
        have hneI : l ≠ (s.heap.push (setNew w)).objs.size := by
          rw [hz1]
          exact Nat.ne_of_lt (Nat.lt_succ_of_lt hlS)
        have hSf : s.heap.objs.size ∉ [(s.heap.push (setNew w)).objs.size, l] := fun hm => by
          rcases List.mem_cons.mp hm with z | z
          · rw [hz1] at z
            exact absurd z (Nat.ne_of_lt (Nat.lt_succ_self _))
          · exact absurd (List.mem_singleton.mp z) (Nat.ne_of_gt hlS)
        have hval : ∀ (i : Nat) (v : Value), items[i]? = some v → ∃ k t, xs[i]? = some k ∧ v = .str k t := fun i v hv => by
          exact strsAt hit i v (by rw [Array.getElem?_toList]; exact hv)
        refine setS_loop ((Walks.list hh3 _ l hneI items).toS) s.heap.objs.size hSf xs hnd hisz hb hval (items.size - 0) 0 _ rfl (Nat.zero_le _)
          ⟨⟨_, Heap.get?_push_size _ rfl, rfl, rfl⟩, hl1.push _⟩ (setS_fresh (Heap.get?_push_of_some _ hS)) fun s' hm hS' => ?_
        obtain ⟨h', g2, d', tk', os'⟩ := s'
        obtain rfl : g2 = s.gens := hm.gens
        obtain rfl : d' = s.drawn := hm.drawn
        obtain rfl : os' = s.os := hm.os
        refine wpAny_pure ?_
        show wpAny _ _ (ret Value.none) _ _ _
        refine wpAny_pure ⟨rfl, h', tk', rfl, hS', fun b o e => ?_⟩
        have hb0 : b < s.heap.objs.size := Heap.lt_size e
        refine hm.heap b o (fun z => ?_) (Heap.get?_push_of_some _ (Heap.get?_push_of_some _ e))
        rcases List.mem_cons.mp z with z | z
        · exact absurd z (Nat.ne_of_lt hb0)
        · have z := List.mem_singleton.mp z
          rw [hz1] at z
          exact absurd z (Nat.ne_of_lt (Nat.lt_succ_of_lt hb0))
      · cases r₂ with
        | error e => exact hr₂
        | ok fl₂ =>
          cases fl₂ with
          | next => exact hr₂.elim
          | brk => exact hr₂.elim
          | cont => exact hr₂.elim
          | ret r =>
            obtain ⟨rfl, h', tk, rfl, hS', hk'⟩ := hr₂
            repeat (any_goals (first | assumption | wp_step))
            exact h _ _ hS' hk'
theorem strs_of : ∀ (l : List Value), (∀ v ∈ l, ∃ x tk, v = Value.str x tk) → StrsAre l (l.map strOf)
  | [], _ => .nil
  | v :: l, h => by
    obtain ⟨x, tk, rfl⟩ := h v List.mem_cons_self
    exact .cons x tk (strs_of l fun u hu => h u (List.mem_cons_of_mem _ hu))
theorem sorted_setS {Q : Value → Shared → Prop} (R : SetS w s.heap a ks) (hh : A.handled = none) (h64 : ks.length < 64)
    (hQ : ∀ s' p (out : Array Value) (c : Nat) (ys : List Str), (∀ b o, s.heap.get? b = some o → s'.heap.get? b = some o) → s'.gens = s.gens → s'.os = s.os → s.heap.objs.size ≤ p →
      s'.heap.get? p = some (seqObj "list" out c) → StrsAre out.toList ys → ys.Perm ks → sortedS ys = true → Q (.ref p) s') :
    wpAny (model P w) A (call (.builtin "sorted") [.ref a]) Q E s := by
  obtain ⟨o, es, ep, t, ho, hex, hd, g, pk, hb, hf, hr, hl⟩ := R
  have hn : es.size = ks.length := by
    have := pk.length_eq
    rwa [List.length_map, Array.length_toList] at this
  refine Calls.call_function_entry kind_sorted plain_sorted entry_sorted (args_sorted1 _) ?_
  unfold Builtin.«sorted»
  refine wpAny_bind (m := checkCount "sorted" 1 1 _) (wpAny_pure ?_)
  refine wpAny_bind (collect_set (A := A.in1) hh ⟨o, ho, hex.1, hd⟩ hf hb hr hl fun s1 vs k1 hz g1 o1 pm => ?_)
  have hvl : vs.length = ks.length := by
    rw [pm.length_eq, List.length_map, Array.length_toList, hn]
  have hI : StrsAre vs (vs.map strOf) := strs_of vs fun v hv => by
    obtain ⟨e, he, q⟩ := List.mem_map.mp (pm.mem_iff.mp hv)
    obtain ⟨x, tk, h1, _⟩ := g e he
    exact ⟨x, tk, by rw [← q]; exact h1⟩
  have pv : (vs.map strOf).Perm ks := by
    have q := pm.map strOf
    rw [List.map_map] at q
    exact q.trans pk
  refine wpAny_bind (wpAny_newList ?_ (by rw [hvl]; exact Nat.le_of_lt (small1000 (by omega))))
  have hoL : (s1.heap.push (seqObj "list" vs.toArray 0)).get? s1.heap.objs.size = some (seqObj "list" vs.toArray 0) := Heap.get?_push_size _ rfl
  refine wpAny_bind (wpAny_holding (wpAny_call_entry slot_list_sort ⟨_, hoL, rfl⟩ entry_list_sort (list_sort_treeK strKind_oneLt hoL hI.keysOf (fun v₁ v₂ rest e => keyKind_strs (by rw [← e]; exact hI)) (by rw [hvl]; exact h64) fun st' hp hs => ?_) (args_list_sort _)))
  obtain ⟨ys, a1, a2, a3⟩ := sorted_out_str hI hp hs
  obtain ⟨c, hc⟩ := sortedHeap_at (vs := vs) (out := (arrOf st').map (·.2)) hoL
  refine ⟨_, rfl, wpAny_pure ⟨_, rfl, hQ _ s1.heap.objs.size _ c ys (fun b u e => ?_) g1 o1 hz hc a1 (a2.trans pv) a3⟩⟩
  have q := k1 b u e
  have hlt := Heap.lt_size q
  show (sortedHeap (s1.heap.push (seqObj "list" vs.toArray 0)) s1.heap.objs.size vs _).get? b = some u
  rw [sortedHeap_old (Nat.ne_of_lt hlt) (by rw [size_push']; exact Nat.lt_succ_of_lt hlt)]
  exact Heap.get?_push_of_some _ q
end
/-! ### as rules -/
def SetSO (w : World) (a : Addr) (ks : List Str) : HO := .ext fun h => SetS w h a ks
theorem setSO_ok {P : Program} {w : World} {H : Hp} {h : Heap} {a : Addr} {ks : List Str} (R : SetS w h a ks) : ObjOk P w H h a (SetSO w a ks) := by
  refine ⟨R, ?_, fun h1 h2 z k => z.at k⟩
  obtain ⟨o, _, _, _, ho, _⟩ := R
  exact ⟨o, ho⟩
section
variable {X : Cx} {pins : List (Addr × Obj)} {σ : L2.St} {H : Hp} {s : Shared}
theorem setSO_get {a : Addr} {ks : List Str} (I : Inv X pins σ H s) (h : H a = some (SetSO X.w a ks)) : SetS X.w s.heap a ks := by
  have x : ObjOk X.prog X.w H s.heap a (.ext fun h => SetS X.w h a ks) := I.hok a _ h
  exact x.1
def rSetS (K : PySem.W.Frag) (w : World) : List V → Hp → VK → Prop := fun vs H Q => ∃ (a : Addr) (xs : List Str), vs = [V.ref a] ∧ SqL K H a (xs.map V.str) ∧ xs.Nodup ∧ xs.length ≤ 1000 ∧
  ∀ p, H p = none → Q (.ref p) (upd H p (SetSO w p xs.reverse))
theorem cr_setS (hc : X.calm = true) : CallR X (.type "set") (rSetS X.K X.w) := by
  intro pins s σ H vs us Q I r h
  obtain ⟨a, xs, rfl, hs, hnd, hle, q⟩ := h
  obtain ⟨its, rv, hl, _⟩ := I.list hs
  rw [Vals.ref1 r]
  refine call_setS xs (I.ok.hd hc) hl.isList rv.strs hnd (Nat.lt_of_le_of_lt (Nat.succ_le_succ hle) (by decide)) fun h' tk R k => ?_
  exact ⟨.ref _, _, I.laid k (Nat.le_refl _) (setSO_ok R), rfl, q _ (I.hok.fresh (Nat.le_refl _))⟩
def rSortedSetS (w : World) : List V → Hp → VK → Prop := fun vs H Q => ∃ (a : Addr) (ks : List Str), vs = [V.ref a] ∧ H a = some (SetSO w a ks) ∧ ks.length < 64 ∧
  ∀ (ys : List Str) (p : Addr), ys.Perm ks → sortedS ys = true → H p = none → Q (.ref p) (upd H p (.lst (ys.map V.str)))
theorem cr_sortedSetS (hc : X.calm = true) : CallR X (.builtin "sorted") (rSortedSetS X.w) := by
  intro pins s σ H vs us Q I r h
  obtain ⟨a, ks, rfl, ha, h64, q⟩ := h
  rw [Vals.ref1 r]
  refine sorted_setS (setSO_get I ha) (I.ok.hd hc) h64 fun s' p out c ys k g o hp hg hi hpm hst => ?_
  have hlen : (ys.map V.str).length ≤ sizeLine := by
    rw [List.length_map, hpm.length_eq]
    exact Nat.le_of_lt (small1000 (by omega))
  have hn : H p = none := I.hok.fresh hp
  have J : Inv X pins σ (upd H p (.lst (ys.map V.str))) { s with heap := s'.heap, gens := s'.gens, drawn := s'.drawn, toks := s'.toks } :=
    I.call (ch := []) (Un.laid k hp hn) (I.hok.laid k hp ⟨hlen, out.toList, c, vals_of_strs hi, hg⟩) (by rw [g]; exact I.bare) (fun b z => absurd z (by simp))
  have e : s' = { s with heap := s'.heap, gens := s'.gens, drawn := s'.drawn, toks := s'.toks } := by
    cases s'
    cases s
    cases o
    rfl
  rw [e]
  exact ⟨.ref p, _, J, rfl, q ys p hpm hst hn⟩
end
end K34
end
section
set_option linter.all false
set_option maxRecDepth 100000
/-! Yards, lots. -/
namespace K34
open PySem PySem.Spec PyProof.Rows L2
/-- a yard of the heights hs at y -/
def YardAt (a : Ad) (H : Hp) (y : Addr) (hs : List Nat) : Prop := ∃ dx t, H y = some (.ins a.Y dx [("heights", .ref t)]) ∧ H t = some (.tup (hs.map fun n : Nat => V.int n))
theorem YardAt.ext {a : Ad} {H H' : Hp} {y : Addr} {hs : List Nat} (h : YardAt a H y hs) (e : ∀ b o, H b = some o → (∀ ps, o ≠ .tbl ps) → H' b = some o) : YardAt a H' y hs := by
  obtain ⟨dx, t, h1, h2⟩ := h
  exact ⟨dx, t, e _ _ h1 (fun _ z => by cases z), e _ _ h2 (fun _ z => by cases z)⟩
theorem YardAt.same {a : Ad} {H H' : Hp} {y : Addr} {hs : List Nat} (h : YardAt a H y hs) (s : Same H H') : YardAt a H' y hs := h.ext fun b o e _ => s b o e
section
variable {P : Program} {w : World} {K : PySem.W.Frag} {mg : Str → Option Value} {base : Heap} {a : Ad}
/-- need_number where the number is below -/
def spNeedNumber : Sp := fun vs H Q _ => ∃ (i n : Int) (x : V), vs = [.int i, .int n, x] ∧ 0 ≤ i ∧ i < n ∧ Q .non H
theorem ok_NeedNumber (T : Tx K mg a) : Ca P w K mg base CX0 3 "need_number" spNeedNumber := by
  have G : Ca P w K mg base CX0 2 "is_below" spIsBelow := ok_IsBelow T
  refine ca0 T.dNeedNumber cNeedNumber (fun vs H Q E h => ?_) (fun f cdv A outer s H vs Q E hr h => ?_)
  · obtain ⟨i, n, x, rfl, _⟩ := h
    rfl
  · obtain ⟨i, n, x, rfl, h0, h1, q⟩ := h
    refine ⟨_, pss_one (ps_if (pt_not (pt_val (pe_c0 G hr (by decide) (by rfl) (pa_cons (pv 0) (pa_cons (pv 1) pa_nil))))) pss_never pss_nil), ?_⟩
    refine ⟨.int i, rfl, .int n, rfl, i, n, rfl, _, rfl, ?_⟩
    rw [decide_eq_true (show 0 ≤ i ∧ i < n from ⟨h0, h1⟩)]
    exact iteF q
/-- tuple(sorted(set(things))), unlike texts -/
def spLotOf : Sp := fun vs H Q _ => ∃ (l : Addr) (xs : List Str), vs = [.ref l] ∧ H l = some (.lst (xs.map V.str)) ∧ xs.Nodup ∧ xs.length < 64 ∧ ∀ H' p, Same H H' → H p = none → H' p = some (.tup ((lot xs).map V.str)) → Q (.ref p) H'
theorem ok_LotOf (T : Tx K mg a) : Ca P w K mg base CX0 1 "lot_of" spLotOf := by
  refine ca0 T.dLotOf cLotOf (fun vs H Q E h => ?_) (fun f cdv A outer s H vs Q E hr h => ?_)
  · obtain ⟨l, xs, rfl, _⟩ := h
    rfl
  · obtain ⟨l, xs, rfl, hl, hn, hz, q⟩ := h
    refine ⟨_, pss_one (ps_ret (pe_callTy call_tuple_of (by rfl) T.m_tuple PyProof.Rows.boot_tuple (pa_cons (pe_callB (cr_sortedSetS rfl) (by rfl) T.m_sorted PyProof.Rows.boot_sorted
      (pa_cons (pe_callTy (cr_setS rfl) (by rfl) T.m_set PyProof.Rows.boot_set (pa_cons (pv 0) pa_nil)) pa_nil)) pa_nil))), ?_⟩
    refine ⟨.ref l, rfl, l, xs, rfl, .of hl, hn, by omega, fun p hp => ?_⟩
    refine ⟨p, xs.reverse, rfl, upd_same, by simpa using hz, fun ys p2 pm so hp2 => ?_⟩
    have ey : ys = lot xs := lot_eq (pm.trans (List.reverse_perm xs)) so
    refine ⟨p2, _, rfl, .inl ⟨.of upd_same, fun p3 hp3 => ?_⟩⟩
    rw [ey]
    have s1 := same_new (o := SetSO w p xs.reverse) hp
    have n2 := s1.free hp2
    have s2 := same_put (o := .lst ((lot xs).map V.str)) n2 s1
    rw [ey] at hp3
    have n3 := s2.free hp3
    exact q _ p3 (same_put n3 s2) n3 upd_same
/-- sum(yard.heights) -/
def spPlaces (a : Ad) : Sp := fun vs H Q _ => ∃ (y : Addr) (hs : List Nat), vs = [.ref y] ∧ YardAt a H y hs ∧ Q (.int (hs.sum : Nat)) H
theorem sum_nat (hs : List Nat) : (hs.map fun n : Nat => (n : Int)).sum = ((hs.sum : Nat) : Int) := by
  induction hs with
  | nil => rfl
  | cons h t ih =>
    rw [List.map_cons, List.sum_cons, List.sum_cons, ih]
    omega
theorem ok_Places (T : Tx K mg a) : Ca P w K mg base CX0 1 "places" (spPlaces a) := by
  refine ca0 T.dPlaces cPlaces (fun vs H Q E h => ?_) (fun f cdv A outer s H vs Q E hr h => ?_)
  · obtain ⟨y, hs, rfl, _⟩ := h
    rfl
  · obtain ⟨y, hs, rfl, ⟨dx, t, h1, h2⟩, q⟩ := h
    refine ⟨_, pss_one (ps_ret (pe_callB (cr_sumT rfl) (by rfl) T.m_sum PyProof.Rows.boot_sum (pa_cons (pe_fld (pv 0) rfl) pa_nil))), ?_⟩
    refine ⟨.ref y, rfl, y, _, dx, _, _, rfl, h1, T.clY, T.naY, rfl, t, hs.map fun n : Nat => (n : Int), rfl, .of (by rw [List.map_map]; exact h2), ?_⟩
    rw [sum_nat]
    exact q
/-- heights[stack] - 1 - level -/
def spCoverOf (a : Ad) : Sp := fun vs H Q _ => ∃ (y : Addr) (hs : List Nat) (i j h : Nat), vs = [.ref y, .int i, .int j] ∧ YardAt a H y hs ∧ hs[i]? = some h ∧ j < h ∧ Q (.int ((h : Int) - 1 - j)) H
theorem ok_CoverOf (T : Tx K mg a) : Ca P w K mg base CX0 4 "cover_of" (spCoverOf a) := by
  have G : Ca P w K mg base CX0 3 "need_number" spNeedNumber := ok_NeedNumber T
  refine ca0 T.dCoverOf cCoverOf (fun vs H Q E h => ?_) (fun f cdv A outer s H vs Q E hr h => ?_)
  · obtain ⟨y, hs, i, j, h, rfl, _⟩ := h
    rfl
  · obtain ⟨y, hs, i, j, h, rfl, ⟨dx, t, h1, h2⟩, hi, hj, q⟩ := h
    refine ⟨_, pss_cons (ps_expr (pe_c0 G hr (by decide) (by rfl) (pa_cons (pv 1) (pa_cons (pe_callB call_len_seq (by rfl) T.m_len PySem.boot_len (pa_cons (pe_fld (pv 0) rfl) pa_nil)) (pa_cons pe_str pa_nil)))))
      (pss_cons (ps_expr (pe_c0 G hr (by decide) (by rfl) (pa_cons (pv 2) (pa_cons (pe_ix ix_tup (pe_fld (pv 0) rfl) (pv 1) (fun _ _ => rfl)) (pa_cons pe_str pa_nil)))))
      (pss_one (ps_ret (pe_op op_sub (pe_op op_sub (pe_ix ix_tup (pe_fld (pv 0) rfl) (pv 1) (fun _ _ => rfl)) pe_int) (pv 2))))), ?_⟩
    have lt : i < hs.length := get_lt hi
    have ati : atI (hs.map fun n : Nat => V.int n) ((i : Nat) : Int) = some (.int h) := atI_nat (by rw [List.getElem?_map, hi]; rfl)
    refine ⟨.int i, rfl, .ref y, rfl, y, _, dx, _, _, rfl, h1, T.clY, T.naY, rfl, t, hs.map (fun n : Nat => V.int n), rfl, .inr (.of h2), ?_⟩
    refine ⟨i, (hs.map fun n : Nat => V.int n).length, .str "stack", rfl, by omega, by rw [List.length_map]; omega, ?_⟩
    refine ⟨.int j, rfl, .ref y, rfl, y, _, dx, _, _, rfl, h1, T.clY, T.naY, rfl, .int i, rfl, t, _, _, _, rfl, rfl, .of h2, ati, ?_⟩
    refine ⟨j, h, .str "level", rfl, by omega, by omega, ?_⟩
    refine ⟨.ref y, rfl, y, _, dx, _, _, rfl, h1, T.clY, T.naY, rfl, .int i, rfl, t, _, _, _, rfl, rfl, .of h2, ati, _, _, rfl, rfl, .int j, rfl, _, _, rfl, rfl, ?_⟩
    exact q
end
end K34
end
section
set_option linter.all false
set_option maxRecDepth 100000
/-! Walks over what is made item by item. -/
namespace K34
open PySem PySem.Spec PyProof.Rows L2
section
variable {K : PySem.W.Frag} {t : Addr} {A : Type} {f : A → V} {l : List A}
theorem map_at {i : Nat} {v : V} (h : (l.map f)[i]? = some v) : ∃ x, l[i]? = some x ∧ v = f x := by
  rw [List.getElem?_map] at h
  obtain ⟨x, h1, h2⟩ := Option.map_eq_some_iff.mp h
  exact ⟨x, h1, h2.symm⟩
/-- the i-th item with its place -/
def YEnum (f : A → V) (l : List A) : Nat → Hp → V → Hp → Prop := fun i H v H' => ∃ T x, v = .ref T ∧ H T = none ∧ H' = upd H T (.tup [.int (i : Nat), f x]) ∧ l[i]? = some x
def YItem (f : A → V) (l : List A) : Nat → Hp → V → Hp → Prop := fun i H v H' => H' = H ∧ ∃ x, l[i]? = some x ∧ v = f x
theorem walk_enumM : Walk (Iet K t) l.length (fun H => SqT K H t (l.map f)) (YEnum f l) := by
  have w := walk_enumT (K := K) (t := t) (xs := l.map f)
  rw [List.length_map] at w
  exact w.mono (fun _ h => h) fun i H v H' _ _ ⟨T, x, y, e1, e2, e3, e4, e5⟩ => by
    obtain ⟨z, e6, e7⟩ := map_at (f := f) (l := l) e5
    have e4 : some (V.int ((i : Nat) : Int)) = some x := e4
    cases e4
    exact ⟨T, z, e1, e2, by rw [e3, e7], e6⟩
theorem walk_tupM : Walk (Itt K t) l.length (fun H => SqT K H t (l.map f)) (YItem f l) := by
  have w := walk_tup (K := K) (a := t) (xs := l.map f)
  rw [List.length_map] at w
  exact w.mono (fun _ h => h) fun i H v H' _ _ ⟨e1, e2⟩ => ⟨e1, map_at e2⟩
theorem walk_listM : Walk (Itl K t) l.length (fun H => SqL K H t (l.map f)) (YItem f l) := by
  have w := walk_list (K := K) (a := t) (xs := l.map f)
  rw [List.length_map] at w
  exact w.mono (fun _ h => h) fun i H v H' _ _ ⟨e1, e2⟩ => ⟨e1, map_at e2⟩
end
/-- the i-th number from lo -/
def YNat (lo : Nat) : Nat → Hp → V → Hp → Prop := fun i H v H' => H' = H ∧ v = .int ((lo + i : Nat) : Int)
theorem walk_rangeN {lo n : Nat} : Walk (Itr ((lo : Nat) : Int) n) n (fun _ => True) (YNat lo) := (walk_range (lo := ((lo : Nat) : Int)) (n := n)).mono (fun _ h => h) fun i H v H' _ _ ⟨e1, e2⟩ => ⟨e1, by rw [e2]; show V.int (((lo : Nat) : Int) + ((i : Nat) : Int)) = _; rw [Int.natCast_add]⟩
theorem walk_range0 {n : Nat} : Walk (Itr 0 n) n (fun _ => True) (fun i H v H' => H' = H ∧ v = .int ((i : Nat) : Int)) := (walk_range (lo := 0) (n := n)).mono (fun _ h => h) fun i H v H' _ _ ⟨e1, e2⟩ => ⟨e1, by rw [e2]; show V.int ((0 : Int) + ((i : Nat) : Int)) = _; rw [Int.zero_add]⟩
/-- len of a list or a tuple -/
def rLenS (K : PySem.W.Frag) : List V → Hp → VK → Prop := fun xs H Q => ∃ (p : Addr) (ys : List V), xs = [.ref p] ∧ (SqL K H p ys ∨ SqT K H p ys) ∧ Q (.int ys.length) H
theorem cr_lenS {X : Cx} : CallR X (.builtin "len") (rLenS X.K) := call_len_seq
/-- H' keeps all of H but what stands at y -/
def But (y : Addr) (H H' : Hp) : Prop := ∀ b o, H b = some o → b ≠ y → H' b = some o
theorem But.refl (y : Addr) (H : Hp) : But y H H := fun _ _ h _ => h
theorem But.of {y : Addr} {H H' : Hp} (s : Same H H') : But y H H' := fun b o h _ => s b o h
theorem But.trans {y : Addr} {H H1 H2 : Hp} (h : But y H H1) (k : But y H1 H2) : But y H H2 := fun b o e n => k b o (h b o e n) n
theorem But.upd {y : Addr} {H : Hp} {o : HO} : But y H (upd H y o) := fun b u e n => by
  rw [upd_ne n]
  exact e
end K34
end
section
set_option linter.all false
set_option maxRecDepth 100000
/-! A yard is made. -/
namespace K34
open PySem PySem.Spec PyProof.Rows L2
section
variable {P : Program} {w : World} {K : PySem.W.Frag} {mg : Str → Option Value} {base : Heap} {a : Ad}
/-- a tuple is a sequence -/
def spIsSequence : Sp := fun vs H Q _ => ∃ (t : Addr) (xs : List V), vs = [.ref t] ∧ H t = some (.tup xs) ∧ ∀ H', Same H H' → Q (.bl true) H'
theorem ok_IsSequence (T : Tx K mg a) : Ca P w K mg base CX0 1 "is_sequence" spIsSequence := by
  refine ca0 T.dIsSequence cIsSequence (fun vs H Q E h => ?_) (fun f cdv A outer s H vs Q E hr h => ?_)
  · obtain ⟨t, xs, rfl, _⟩ := h
    rfl
  · obtain ⟨t, xs, rfl, ht, q⟩ := h
    refine ⟨_, pss_one (ps_ret (pe_callB call_isiT (by rfl) T.m_isinstance boot_isi (pa_cons (pv 0) (pa_cons (pe_tup (pa_cons (pe_bltn (by rfl) T.m_list PyProof.Rows.boot_list (rel_ty _)) (pa_cons (pe_bltn (by rfl) T.m_tuple PyProof.Rows.boot_tuple (rel_ty _)) pa_nil))) pa_nil)))), ?_⟩
    refine ⟨.ref t, rfl, (by show 2 ≤ sizeLine; decide), fun p hp => ?_⟩
    refine ⟨.ref t, p, _, .type "tuple", [.type "list", .type "tuple"], true, rfl, upd_same, .cons (.ty _) (.cons (.ty _) .nil), .base (.tup (by rw [upd_ne (ne_of_none ht hp)]; exact ht)), ?_, q _ (same_new hp)⟩
    rfl
/-- Yard(heights), a tuple of good heights -/
def spYardInit (a : Ad) : Sp := fun vs H Q _ => ∃ (y t dx : Addr) (hs : List Nat), vs = [.ref y, .ref t] ∧ H y = some (.ins a.Y dx []) ∧ H t = some (.tup (hs.map fun n : Nat => V.int n)) ∧ 3 ≤ hs.length ∧ hs.length ≤ 12 ∧ (∀ h ∈ hs, 1 ≤ h ∧ h ≤ 12) ∧
  ∀ H', (∀ b o, H b = some o → b ≠ y → H' b = some o) → H' y = some (.ins a.Y dx [("heights", .ref t)]) → Q .non H'
theorem ok_YardInit (T : Tx K mg a) : ∃ f fd, Mk K a.Y f ∧ FnOk P w K mg base CX0 3 f fd ["self", "heights"] (spYardInit a) ∧ Binds K fd ["self", "heights"] [] := by
  have G1 : Ca P w K mg base CX0 1 "is_sequence" spIsSequence := ok_IsSequence T
  have G2 : Ca P w K mg base CX0 2 "is_below" spIsBelow := ok_IsBelow T
  obtain ⟨f, fd, M, F, b⟩ := T.mkY
  refine ⟨f, fd, M, F.ok cYardInit (fun vs H Q E h => ?_) (fun cdv A outer s H vs Q E hr h => ?_), b⟩
  · obtain ⟨y, t, dx, hs, rfl, _⟩ := h
    rfl
  · obtain ⟨y, t, dx, hs, rfl, hy, ht, h3, h12, hh, q⟩ := h
    refine ⟨_, pss_cons (ps_if (pw_or (pt_not (pt_val (pe_c0 G1 hr (by decide) (by rfl) (pa_cons (pv 1) pa_nil))))
        (pw_or1 (pt_not (pt_chain op_le op_le (by obtain ⟨u, g1, g2⟩ := T.gFewest; exact pe_glob (by rfl) g1 g2) (pe_callB call_len_seq (by rfl) T.m_len PySem.boot_len (pa_cons (pv 1) pa_nil)) (by obtain ⟨u, g1, g2⟩ := T.gMost; exact pe_glob (by rfl) g1 g2))))).pt pss_never pss_nil)
      (pss_cons (ps_for PassesOwn.never rfl (pi_enumT (by rfl) T.m_enumerate (pa_cons (pv 1) pa_nil)) (pg_tup rfl (pgs_cons (pg_name (i := 2) cYardInit.nd rfl (Or.inl rfl)) (pgs_cons (pg_name (i := 3) cYardInit.nd rfl (Or.inl rfl)) pgs_nil)))
        (pss_one (ps_if (pw_or (pt_not (pt_val (pe_c0 G2 hr (by decide) (by rfl) (pa_cons (pv 3) (pa_cons (pe_op op_add (by obtain ⟨u, g1, g2⟩ := T.gMost; exact pe_glob (by rfl) g1 g2) pe_int) pa_nil))))) (pw_or1 (pt_cmpR op_eq (pv 3) pe_int (nomark _)))).pt pss_never pss_nil)))
      (pss_one (ps_fld (pv 0) (pe_callTy call_tuple_of (by rfl) T.m_tuple PyProof.Rows.boot_tuple (pa_cons (pv 1) pa_nil)) rfl))), ?_⟩
    refine ⟨.ref t, rfl, t, _, rfl, ht, fun H1 s1 => ?_⟩
    refine ⟨true, rfl, iteF ?_⟩
    refine ⟨.ref t, rfl, t, _, rfl, .inr (.of (s1 _ _ ht)), ?_⟩
    refine ⟨3, _, rfl, rfl, _, rfl, iteT' (decide_eq_true (by rw [List.length_map]; omega)) ?_⟩
    refine ⟨_, 12, rfl, rfl, _, rfl, iteF' (by rw [decide_eq_true (by rw [List.length_map]; omega)]; rfl) ?_⟩
    refine ⟨.ref t, rfl, t, hs.map fun n : Nat => V.int n, rfl, .of (s1 _ _ ht), ?_⟩
    refine for_it (walk_enumM (l := hs) (f := fun n : Nat => V.int n)) (fun i σ H' => (∃ u v, σ = [some (.ref y), some (.ref t), u, v]) ∧ Same H1 H') ⟨⟨none, none, rfl⟩, Same.refl _⟩ (fun i σ H' _ h => .of (h.2 _ _ (s1 _ _ ht))) ?_ ?_
    · rintro i x σ H2 H3 hi ⟨⟨u, v, rfl⟩, s2⟩ ⟨T1, n, rfl, hT, rfl, e2⟩
      obtain ⟨h0, hh1⟩ := hh n (List.mem_of_getElem? e2)
      refine ⟨T1, _, rfl, .of upd_same, rfl, _, _, rfl, _, _, rfl, rfl, ?_⟩
      refine ⟨.int n, rfl, 12, 1, rfl, rfl, n, 13, rfl, _, rfl, iteF' (by rw [decide_eq_true (by omega)]; rfl) ?_⟩
      refine ⟨.int n, rfl, rfl, _, rfl, iteF' (decide_eq_false fun z => ?_) ?_⟩
      · cases z
        cases h0
      · exact ⟨⟨_, _, rfl⟩, same_put (s2.free hT) s2⟩
    · rintro σ H2 ⟨⟨u, v, rfl⟩, s2⟩
      refine ⟨.ref t, rfl, t, _, rfl, .inr ⟨.of (s2 _ _ (s1 _ _ ht)), ?_⟩⟩
      refine ⟨.ref y, rfl, y, a.Y, dx, [], rfl, s2 _ _ (s1 _ _ hy), T.clY, T.naY, by decide, ?_⟩
      exact q _ (fun b o e ne => But.trans (But.of (s1.trans s2)) But.upd b o e ne) upd_same
end
end K34
end
section
set_option linter.all false
set_option maxRecDepth 100000
/-! The program's exceptions, where they stand. -/
namespace K34
open PySem PySem.Spec PyProof.Rows L2
/-- where the exception classes stand -/
structure Ae where
  S : Addr
  O : Addr
  Z : Addr
  R : Addr
  N : Addr
abbrev ownTl (Y : Addr) : List Value := .ref Y :: [.type "Exception", .type "BaseException", .type "object"]
abbrev keyTl : List Value := [.type "KeyError", .type "LookupError", .type "Exception", .type "BaseException", .type "object"]
abbrev excB : List Value := [.type "Exception", .type "BaseException", .type "object"]
abbrev lookB : List Value := [.type "LookupError", .type "Exception", .type "BaseException", .type "object"]
abbrev XOwn (P : Program) (K : PySem.W.Frag) (mg : Str → Option Value) (C : Addr) (st : Stmt) (x qual fld : Str) : Prop := ∃ (Y fI : Addr), XTxt K P mg C fI st x qual fld fld "Exception" "Exception.__new__" excB "Exception" "Exception.__init__" (ownTl Y)
structure Tx2 (P : Program) (K : PySem.W.Frag) (mg : Str → Option Value) (e : Ae) : Prop where
  xS : XOwn P K mg e.S sInvalidStandingInit "InvalidStanding" "InvalidStanding.__init__" "at"
  xO : XOwn P K mg e.O sInvalidOrderInit "InvalidOrder" "InvalidOrder.__init__" "at"
  xZ : XOwn P K mg e.Z sInvalidSizeInit "InvalidSize" "InvalidSize.__init__" "word"
  xR : XOwn P K mg e.R sRefusedInit "Refused" "Refused.__init__" "word"
  xN : ∃ fI : Addr, XTxt K P mg e.N fI sNoNameInit "NoName" "NoName.__init__" "name" "name" "LookupError" "LookupError.__new__" lookB "KeyError" "KeyError.__init__" keyTl
  mSS : PySem.W.exmOne K (.ref e.S) (.ref e.S) = some true
  mNS : PySem.W.exmOne K (.ref e.N) (.ref e.S) = some false
  mNN : PySem.W.exmOne K (.ref e.N) (.ref e.N) = some true
  mZS : PySem.W.exmOne K (.ref e.Z) (.ref e.S) = some false
  mZN : PySem.W.exmOne K (.ref e.Z) (.ref e.N) = some false
  mZZ : PySem.W.exmOne K (.ref e.Z) (.ref e.Z) = some true
  mRS : PySem.W.exmOne K (.ref e.R) (.ref e.S) = some false
  mRN : PySem.W.exmOne K (.ref e.R) (.ref e.N) = some false
  mRZ : PySem.W.exmOne K (.ref e.R) (.ref e.Z) = some false
  mRR : PySem.W.exmOne K (.ref e.R) (.ref e.R) = some true
  mOO : PySem.W.exmOne K (.ref e.O) (.ref e.O) = some true
  fS : XfC K e.S
  fN : XfC K e.N
  fZ : XfC K e.Z
  fR : XfC K e.R
section
variable {X : Cx} {C : Addr} {st : Stmt} {x qual fld : Str} {W : WX} {e : Expr} {te : TE} {p pos pos2 : Pos} {k : Nat}
/-- raise C(e): an error of the class at C, its one field in its own new dict -/
def tRaise1 (C : Addr) (fld : Str) (W : WX) (te : TE) : TS := fun _ σ H => tMk1 C fld (tCons te tNil) σ H fun cls d H' => W cls d σ H'
theorem ps_raiseOwn (hc : X.calm = true) (T : XOwn X.prog X.K X.mg C st x qual fld) (hr : Room k X.A) (tk : Takes X W) (he : PE X e te) (hg : Gl X x) (hdb : (x == ("__debug__" : Str)) = false := by decide)
    (h1 : starEach (e :: []) X.env = (false, eval e X.env) :: starEach [] X.env := by rfl) (hpl : (backTo pos (starEach [] X.env)).any (·.1) = false := by rfl) :
    PS X (.Raise (some (.Call (.Name x p) [e] [] pos)) none pos2) (tRaise1 C fld W te) := by
  obtain ⟨Y, fI, T⟩ := T
  exact ps_raise (pos := pos2) hc tk (pmk_1 T hr (pa_cons he pa_nil h1) hg hdb h1 hpl)
theorem ps_raiseKey (hc : X.calm = true) (T : ∃ fI : Addr, XTxt X.K X.prog X.mg C fI st x qual fld fld "LookupError" "LookupError.__new__" lookB "KeyError" "KeyError.__init__" keyTl) (hr : Room k X.A) (tk : Takes X W) (he : PE X e te) (hg : Gl X x) (hdb : (x == ("__debug__" : Str)) = false := by decide)
    (h1 : starEach (e :: []) X.env = (false, eval e X.env) :: starEach [] X.env := by rfl) (hpl : (backTo pos (starEach [] X.env)).any (·.1) = false := by rfl) :
    PS X (.Raise (some (.Call (.Name x p) [e] [] pos)) none pos2) (tRaise1 C fld W te) := by
  obtain ⟨fI, T⟩ := T
  exact ps_raise (pos := pos2) hc tk (pmk_1 T hr (pa_cons he pa_nil h1) hg hdb h1 hpl)
/-- a call of a def that may raise, its errors wanted by W -/
theorem pe_cS {sp : Sp} {j : Nat} {es : List Expr} {t : TA} (c : Ca X.prog X.w X.K X.mg X.base (L2.CX X.prog X.w) k x sp) (hr : Room j X.A) (hk : k ≤ j) (tk : Takes X W) (hg : Gl X x) (ha : PA X (e :: es) t)
    (hdb : (x == ("__debug__" : Str)) = false := by decide) (he : starEach (e :: es) X.env = (false, eval e X.env) :: starEach es X.env := by rfl) (hpl : (backTo pos (starEach es X.env)).any (·.1) = false := by rfl) :
    PE X (.Call (.Name x p) (e :: es) [] pos) (tCallS sp (WE W) t) := by
  obtain ⟨f, fd, ps, F, hm, kp, b⟩ := c.ex
  exact pe_callS F (hr.mono hk) hg hm kp b (fun σ => passAt tk σ) ha hdb he hpl
end
end K34
end
section
set_option linter.all false
set_option maxRecDepth 100000
/-! need_standing. -/
namespace K34
open PySem PySem.Spec PyProof.Rows L2
/-- v is no tuple, and of a told kind -/
def NotTup (H : Hp) (v : V) : Prop := flatV v = true ∨ ∃ l xs, v = .ref l ∧ H l = some (.lst xs)
theorem NotTup.ty {K : PySem.W.Frag} {H : Hp} {v : V} (h : NotTup H v) : ∃ t, TyX K H v t ∧ PySem.W.kitOne K t (.type "tuple") = some false := by
  rcases h with h | ⟨l, xs, rfl, h⟩
  · cases v with
    | non => exact ⟨_, .base .non, kit_ty (r := false) (by decide +kernel)⟩
    | bl b => exact ⟨_, .base (.bl b), kit_ty (r := false) (by decide +kernel)⟩
    | int i => exact ⟨_, .base (.int i), kit_ty (r := false) (by decide +kernel)⟩
    | str z => exact ⟨_, .base (.str z), kit_ty (r := false) (by decide +kernel)⟩
    | _ => cases h
  · exact ⟨_, .base (.lst h), kit_ty (r := false) (by decide +kernel)⟩
/-- a row of a standing, good or not -/
inductive Rw where
  | bad (v : V)
  | row (t : Addr) (xs : List V)
def Rw.v : Rw → V
  | .bad v => v
  | .row t _ => .ref t
def Rw.len : Rw → Nat
  | .bad _ => 0
  | .row _ xs => xs.length
def Rw.ok (H : Hp) : Rw → Prop
  | .bad v => NotTup H v
  | .row t xs => H t = some (.tup xs) ∧ ∀ x ∈ xs, flatV x = true ∧ ∀ z, x = .str z → z.length ≤ 1000
def total (rs : List Rw) : Nat := (rs.map Rw.len).sum
/-- the text of a value -/
def txtV : V → Str
  | .str z => z
  | _ => ""
/-- a name that is bad or stands already -/
def rowBad : List V → List Str → Bool
  | [], _ => false
  | x :: r, seen => !isNameV x || decide (txtV x ∈ seen) || rowBad r (seen ++ [txtV x])
/-- the first bad row -/
def badAt : List Nat → List Rw → List Str → Nat → Option Nat
  | _, [], _, _ => none
  | _, .bad _ :: _, _, i => some i
  | hs, .row _ xs :: r, seen, i => if (decide (hs.headD 0 < xs.length) || rowBad xs seen) = true then some i else badAt hs.tail r (seen ++ xs.map txtV) (i + 1)
abbrev seenKv (seen : List Str) : List (L2.Key × V) := seen.map fun z => (Sum.inr z, V.bl true)
theorem valV_seen (seen : List Str) (z : Str) : (valV (seenKv seen) (Sum.inr z)).isSome = decide (z ∈ seen) := by
  induction seen with
  | nil => rfl
  | cons a r ih =>
    unfold valV seenKv at ih ⊢
    rw [List.map_cons, List.find?_cons]
    by_cases h : a = z
    · subst h
      simp
    · have h1 : ¬ ((Sum.inr a : L2.Key) = Sum.inr z) := fun q => h (Sum.inr.inj q)
      simp only [h1, decide_false]
      rw [ih]
      simp [Ne.symm h]
theorem putK_new {kvs : List (L2.Key × V)} {k : L2.Key} {v : V} (h : ∀ p ∈ kvs, p.1 ≠ k) : putK kvs k v = kvs ++ [(k, v)] := by
  unfold putK
  rw [if_neg]
  intro z
  obtain ⟨p, h1, h2⟩ := List.any_eq_true.mp z
  exact h p h1 (of_decide_eq_true h2)
theorem putK_seen {seen : List Str} {z : Str} (h : z ∉ seen) : putK (seenKv seen) (Sum.inr z) (V.bl true) = seenKv (seen ++ [z]) := by
  rw [putK_new]
  · unfold seenKv
    rw [List.map_append]
    rfl
  · intro p hp q
    obtain ⟨y, h1, rfl⟩ := List.mem_map.mp hp
    exact h (by rw [← Sum.inr.inj q]; exact h1)
theorem nameStr {x : V} (h : isNameV x = true) : x = .str (txtV x) := by
  cases x with
  | str z => rfl
  | _ => cases h
section
variable {P : Program} {w : World} {K : PySem.W.Frag} {mg : Str → Option Value} {base : Heap} {a : Ad} {e : Ae}
/-- need_standing: nothing, or an InvalidStanding at the first bad row -/
abbrev spNeedStanding (a : Ad) (e : Ae) : Sp := fun vs H Q E => ∃ (y : Addr) (v : V) (hs : List Nat), vs = [.ref y, v] ∧ YardAt a H y hs ∧
  (((NotTup H v ∨ ∃ t xs, v = .ref t ∧ H t = some (.tup xs) ∧ xs.length ≠ hs.length) ∧ ∀ d H', Same H H' → H d = none → H' d = some (.xd [("at", .int (-1))]) → E (.ref e.S) (some d) H') ∨
    ∃ t rs, v = .ref t ∧ H t = some (.tup (rs.map Rw.v)) ∧ rs.length = hs.length ∧ (∀ r ∈ rs, r.ok H) ∧ total rs ≤ 1000 ∧
      (badAt hs rs [] 0 = none → ∀ H', Same H H' → Q .non H') ∧ (∀ i, badAt hs rs [] 0 = some i → ∀ d H', Same H H' → H d = none → H' d = some (.xd [("at", .int (i : Nat))]) → E (.ref e.S) (some d) H'))
theorem ok_NeedStanding (T : Tx K mg a) (T2 : Tx2 P K mg e) : Ca P w K mg base (L2.CX P w) 3 "need_standing" (spNeedStanding a e) := by
  have G : Ca P w K mg base CX0 2 "is_name" spIsName := ok_IsName T
  refine caX T.dNeedStanding cNeedStanding (fun vs H Q E h => ?_) (fun f cdv A outer s H vs Q E hr h => ?_)
  · obtain ⟨y, v, hs, rfl, _⟩ := h
    rfl
  · obtain ⟨y, v, hs, rfl, ⟨dx, ht, h1, h2⟩, h⟩ := h
    have hu := hu_of hr
    have hr2 : Room 2 (A.deeper (envOfC "need_standing" (defScope sNeedStanding) s.heap.objs.size f cdv)) := hr
    refine ⟨_, pss_cons (ps_if (pw_or (pt_not (pt_val (pe_callB call_isi (by rfl) T.m_isinstance boot_isi (pa_cons (pv 1) (pa_cons (pe_bltn (by rfl) T.m_tuple PyProof.Rows.boot_tuple (rel_ty _)) pa_nil)))))
        (pw_or1 (pt_cmpR op_ne (pe_callB call_len_seq (by rfl) T.m_len PySem.boot_len (pa_cons (pv 1) pa_nil)) (pe_callB call_len_seq (by rfl) T.m_len PySem.boot_len (pa_cons (pe_fld (pv 0) rfl) pa_nil)) (nomark _)))).pt
        (pss_one (ps_raiseOwn rfl T2.xS hr2 (takes_of rfl rfl rfl rfl) (pe_un un_neg pe_int) (by rfl))) pss_nil)
      (pss_cons (ps_set (i := 2) cNeedStanding.nd rfl (.inl rfl) pe_dnewK)
      (pss_one (ps_for (PassesOwn.leaving) rfl (pi_enumT (by rfl) T.m_enumerate (pa_cons (pv 1) pa_nil)) (pg_tup rfl (pgs_cons (pg_name (i := 3) cNeedStanding.nd rfl (Or.inl rfl)) (pgs_cons (pg_name (i := 4) cNeedStanding.nd rfl (Or.inl rfl)) pgs_nil)))
        (pss_cons (ps_if (pw_or (pt_not (pt_val (pe_callB call_isi (by rfl) T.m_isinstance boot_isi (pa_cons (pv 4) (pa_cons (pe_bltn (by rfl) T.m_tuple PyProof.Rows.boot_tuple (rel_ty _)) pa_nil)))))
            (pw_or1 (pt_cmpR op_gt (pe_callB call_len_seq (by rfl) T.m_len PySem.boot_len (pa_cons (pv 4) pa_nil)) (pe_ix ix_tup (pe_fld (pv 0) rfl) (pv 3) (fun _ _ => rfl)) (nomark _)))).pt
            (pss_one (ps_raiseOwn rfl T2.xS hr2 (takes_of rfl rfl rfl rfl) (pv 3) (by rfl))) pss_nil)
        (pss_one (ps_for (PassesOwn.leaving) rfl (pi_tup (pv 4)) (pg_name (i := 5) cNeedStanding.nd rfl (Or.inl rfl))
          (pss_cons (ps_if (pw_or (pt_not (pt_val (pe_c0 G hr (by decide) (by rfl) (pa_cons (pv 5) pa_nil)))) (pw_or1 (pt_cmp (pc_din hu (pv 5) (pv 2))))).pt
            (pss_one (ps_raiseOwn rfl T2.xS hr2 (takes_of rfl rfl rfl rfl) (pv 3) (by rfl))) pss_nil)
          (pss_one (ps_dput hu (pv 2) (pv 5) pe_bl rfl))))))))), ?_⟩
    rcases h with ⟨hv, q⟩ | ⟨t, rs, rfl, h3, h4, h5, h6, q, qe⟩
    · rcases hv with hnt | ⟨t, xs, rfl, h3, h4⟩
      · obtain ⟨tv, ty, hk⟩ := hnt.ty (K := K)
        refine ⟨v, rfl, v, .ty "tuple", tv, .type "tuple", false, rfl, .ty _, ty, hk, false, rfl, iteT ?_⟩
        exact iteT ⟨1, rfl, .int (-1), rfl, fun d hd => q d _ (same_new hd) hd upd_same⟩
      · refine ⟨.ref t, rfl, .ref t, .ty "tuple", .type "tuple", .type "tuple", true, rfl, .ty _, .base (.tup h3), kit_ty (r := true) (by decide +kernel), true, rfl, iteF ?_⟩
        refine ⟨.ref t, rfl, t, xs, rfl, .inr (.of h3), .ref y, rfl, y, a.Y, dx, _, .ref ht, rfl, h1, T.clY, T.naY, rfl, ht, _, rfl, .inr (.of h2), rfl, _, rfl, ?_⟩
        refine iteT' ?_ ⟨1, rfl, .int (-1), rfl, fun d hd => q d _ (same_new hd) hd upd_same⟩
        rw [decide_eq_false]
        · rfl
        · intro z
          have z := V.int.inj z
          rw [List.length_map] at z
          omega
    · refine ⟨.ref t, rfl, .ref t, .ty "tuple", .type "tuple", .type "tuple", true, rfl, .ty _, .base (.tup h3), kit_ty (r := true) (by decide +kernel), true, rfl, iteF ?_⟩
      refine ⟨.ref t, rfl, t, _, rfl, .inr (.of h3), .ref y, rfl, y, a.Y, dx, _, .ref ht, rfl, h1, T.clY, T.naY, rfl, ht, _, rfl, .inr (.of h2), rfl, _, rfl, ?_⟩
      refine iteF' ?_ fun sd hsd => ?_
      · rw [List.length_map, List.length_map, h4, decide_eq_true rfl]
        rfl
      refine ⟨.ref t, rfl, t, _, rfl, .of (by rw [upd_ne (ne_of_none h3 hsd)]; exact h3), ?_⟩
      have tot_drop : ∀ i r, rs[i]? = some r → rs.drop i = r :: rs.drop (i + 1) := fun i r hi => by
        obtain ⟨h, e⟩ := List.getElem?_eq_some_iff.mp hi
        rw [List.drop_eq_getElem_cons h, e]
      have hs_drop : ∀ i, i < hs.length → hs.drop i = hs.getD i 0 :: hs.drop (i + 1) := fun i hi => by
        rw [List.drop_eq_getElem_cons hi, List.getD_eq_getElem?_getD, List.getElem?_eq_getElem hi]
        rfl
      refine for_it (walk_enumM (l := rs) (f := Rw.v)) (fun i σ H' => (∃ u1 u2 u3, σ = [some (.ref y), some (.ref t), some (.ref sd), u1, u2, u3]) ∧ But sd H H' ∧
          ∃ seen : List Str, H' sd = some (.dK (seenKv seen)) ∧ badAt hs rs [] 0 = badAt (hs.drop i) (rs.drop i) seen i ∧ seen.length + total (rs.drop i) ≤ 1000)
        ⟨⟨none, none, none, rfl⟩, But.of (same_new hsd), [], upd_same, rfl, by simpa using h6⟩ (fun i σ H' _ h => .of (h.2.1 _ _ h3 (ne_of_none h3 hsd))) ?_ ?_
      · rintro i x σ H2 H3 hi ⟨⟨u1, u2, u3, rfl⟩, b2, seen, hse, hba, hto⟩ ⟨T1, r, rfl, hT, rfl, e2⟩
        refine ⟨T1, _, rfl, .of upd_same, rfl, _, _, rfl, _, _, rfl, rfl, ?_⟩
        have hT0 : T1 ≠ sd := fun z => by
          rw [z, hse] at hT
          cases hT
        have b3 : But sd H (upd H2 T1 (.tup [.int i, r.v])) := fun b o e ne => by
          rw [upd_ne (ne_of_none (b2 b o e ne) hT)]
          exact b2 b o e ne
        have hse3 : upd H2 T1 (.tup [.int i, r.v]) sd = some (.dK (seenKv seen)) := by
          rw [upd_ne hT0.symm]
          exact hse
        have hr1 := h5 r (List.mem_of_getElem? e2)
        rw [tot_drop i r e2, hs_drop i (by omega)] at hba
        rw [tot_drop i r e2] at hto
        generalize upd H2 T1 (.tup [.int i, r.v]) = H3 at b3 hse3 ⊢
        have raise_ : ∀ {H4 : Hp}, But sd H H4 → badAt hs rs [] 0 = some i → ∀ d, H4 d = none → E (.ref e.S) (some d) (upd H4 d (.xd [("at", .int (i : Nat))])) := fun {H4} b4 hb d hd => by
          have s4 : Same H H4 := fun b o e => b4 b o e (ne_of_none e hsd)
          exact qe i hb d _ (same_put (s4.free hd) s4) (s4.free hd) upd_same
        cases r with
        | bad v =>
          obtain ⟨tv, ty3, hk⟩ := NotTup.ty (K := K) (H := H3) (v := v) (hr1.imp id fun ⟨l, xs, e1, e2⟩ => ⟨l, xs, e1, b3 _ _ e2 (ne_of_none e2 hsd)⟩)
          exact ⟨v, rfl, v, .ty "tuple", tv, .type "tuple", false, rfl, .ty _, ty3, hk, false, rfl, iteT ⟨.int i, rfl, .int i, rfl, raise_ b3 hba⟩⟩
        | row rt xs =>
          obtain ⟨hrt, hfl⟩ := hr1
          have hrt3 := b3 _ _ hrt (ne_of_none hrt hsd)
          refine ⟨.ref rt, rfl, .ref rt, .ty "tuple", .type "tuple", .type "tuple", true, rfl, .ty _, .base (.tup hrt3), kit_ty (r := true) (by decide +kernel), true, rfl, iteF ?_⟩
          have hil : i < hs.length := by omega
          refine ⟨.ref rt, rfl, rt, xs, rfl, .inr (.of hrt3), .ref y, rfl, y, a.Y, dx, _, .ref ht, rfl, b3 _ _ h1 (ne_of_none h1 hsd), T.clY, T.naY, rfl, .int i, rfl, ht, _, _, .int (hs.getD i 0 : Nat), rfl, rfl, .of (b3 _ _ h2 (ne_of_none h2 hsd)),
            atI_nat (by rw [List.getElem?_map, List.getD_eq_getElem?_getD, List.getElem?_eq_getElem hil]; rfl), ?_⟩
          refine ⟨_, _, rfl, rfl, _, rfl, ?_⟩
          have hba' : badAt hs rs [] 0 = if (decide (hs.getD i 0 < xs.length) || rowBad xs seen) = true then some i else badAt (hs.drop (i + 1)) (rs.drop (i + 1)) (seen ++ xs.map txtV) (i + 1) := hba
          refine ite2 (fun hlong => ?_) (fun hlong => ?_)
          · have hlong := of_decide_eq_true hlong
            refine ⟨.int i, rfl, .int i, rfl, raise_ b3 ?_⟩
            rw [hba', if_pos]
            rw [decide_eq_true (by omega), Bool.true_or]
          · have hlong : ¬ (hs.getD i 0 < xs.length) := fun z => hlong (decide_eq_true (by omega))
            rw [decide_eq_false hlong, Bool.false_or] at hba'
            refine ⟨.ref rt, rfl, rt, rfl, ⟨_, .of hrt3⟩, for_it (walk_tup (xs := xs)) (fun j σ H' => (∃ u5, σ = [some (.ref y), some (.ref t), some (.ref sd), some (.int (i : Nat)), some (.ref rt), u5]) ∧ But sd H H' ∧
              H' sd = some (.dK (seenKv (seen ++ (xs.take j).map txtV))) ∧ rowBad xs seen = rowBad (xs.drop j) (seen ++ (xs.take j).map txtV))
              ⟨⟨_, rfl⟩, b3, by simpa using hse3, by simp⟩ (fun j σ H' _ h => .of (h.2.1 _ _ hrt (ne_of_none hrt hsd))) ?_ ?_⟩
            · rintro j x σ H4 H5 hj ⟨⟨u5, rfl⟩, b4, hs4, hrb⟩ ⟨rfl, hx⟩
              obtain ⟨hfx, hzx⟩ := hfl x (List.mem_of_getElem? hx)
              refine ⟨x, rfl, x, rfl, hfx, hzx, fun H6 s6 => ?_⟩
              have b6 : But sd H H6 := fun b o e ne => s6 b o (b4 b o e ne)
              have hs6 := s6 _ _ hs4
              have edrop : xs.drop j = x :: xs.drop (j + 1) := by
                obtain ⟨hh, he⟩ := List.getElem?_eq_some_iff.mp hx
                rw [List.drop_eq_getElem_cons hh, he]
              rw [edrop] at hrb
              have bad_ : rowBad xs seen = true → badAt hs rs [] 0 = some i := fun z => by rw [hba', if_pos z]
              refine ⟨_, rfl, ?_⟩
              cases hnm : isNameV x with
              | false =>
                refine iteT ⟨.int i, rfl, .int i, rfl, raise_ b6 (bad_ ?_)⟩
                rw [hrb]
                show (!isNameV x || _ || _) = true
                rw [hnm]
                rfl
              | true =>
                refine iteF ?_
                have ex := nameStr hnm
                refine ⟨x, rfl, .ref sd, rfl, sd, _, rfl, by rw [ex]; exact DGet.k (k := Sum.inr (txtV x)) hs6, _, rfl, ?_⟩
                rw [valV_seen]
                have hrb2 : rowBad xs seen = (decide (txtV x ∈ seen ++ (xs.take j).map txtV) || rowBad (xs.drop (j + 1)) (seen ++ (xs.take j).map txtV ++ [txtV x])) := by
                  rw [hrb]
                  show (!isNameV x || decide _ || rowBad _ _) = _
                  rw [hnm]
                  rfl
                refine ite2 (fun hin => ?_) (fun hin => ?_)
                · refine ⟨.int i, rfl, .int i, rfl, raise_ b6 (bad_ ?_)⟩
                  rw [hrb2, hin]
                  rfl
                · have hin' : txtV x ∉ seen ++ (xs.take j).map txtV := fun z => hin (decide_eq_true z)
                  rw [Bool.eq_false_iff.mpr hin, Bool.false_or] at hrb2
                  have etk : seen ++ (xs.take (j + 1)).map txtV = seen ++ (xs.take j).map txtV ++ [txtV x] := by rw [take_succ_map hx, List.append_assoc]
                  have hlen : (seenKv (seen ++ (xs.take j).map txtV)).length < sizeLine := by
                    have h1 : (xs.take j).length ≤ xs.length := List.length_take_le' _ _
                    have h2 : total (Rw.row rt xs :: rs.drop (i + 1)) = xs.length + total (rs.drop (i + 1)) := rfl
                    rw [h2] at hto
                    refine small1000 ?_
                    rw [List.length_map, List.length_append, List.length_map]
                    omega
                  have dp := DPut.k (k := Sum.inr (txtV x)) (v := .bl true) hs6 hlen
                  rw [show kV (Sum.inr (txtV x)) = x from ex.symm] at dp
                  refine ⟨.ref sd, rfl, x, rfl, sd, _, rfl, dp, ?_⟩
                  refine ⟨⟨_, rfl⟩, fun b o e ne => ?_, ?_, ?_⟩
                  · rw [upd_ne ne]
                    exact b6 b o e ne
                  · rw [upd_same, putK_seen hin', etk]
                  · rw [etk]
                    exact hrb2
            · rintro σ H4 ⟨⟨u5, rfl⟩, b4, hs4, hrb⟩
              rw [List.take_length] at hs4 hrb
              rw [List.drop_length] at hrb
              refine ⟨⟨_, _, _, rfl⟩, b4, _, hs4, ?_, ?_⟩
              · rw [hba', hrb, if_neg (show ¬ rowBad [] _ = true from Bool.false_ne_true)]
              · have h2 : total (Rw.row rt xs :: rs.drop (i + 1)) = xs.length + total (rs.drop (i + 1)) := rfl
                rw [h2] at hto
                rw [List.length_append, List.length_map]
                omega
      · rintro σ H2 ⟨⟨u1, u2, u3, rfl⟩, b2, seen, hse, hba, hto⟩
        have e1 : rs.drop rs.length = [] := List.drop_length
        rw [e1] at hba
        exact q hba H2 fun b o e => b2 b o e (ne_of_none e hsd)
end
end K34
end
section
set_option linter.all false
set_option maxRecDepth 100000
/-! Standings. -/
namespace K34
open PySem PySem.Spec PyProof.Rows L2
/-- any loop over it -/
theorem it_gen {J : It} {n : Nat} {G : Hp → Prop} {Y : Nat → Hp → V → Hp → Prop} (w : Walk J n G Y) {H1 : Hp} {Nx : Hp → Prop} {B : V → Hp → (Hp → Prop) → Prop} (Pv : Nat → Hp → Prop) (h0 : Pv 0 H1) (hG : ∀ i H, i ≤ n → Pv i H → G H)
    (hs : ∀ i x H H', i < n → Pv i H → Y i H x H' → B x H' (Pv (i + 1))) (hd : ∀ H, Pv n H → Nx H) :
    ∃ W : Nat → Nat → Hp → Prop, (∃ m, W 0 m H1) ∧ ∀ i m H, W i m H →
      (J.stop i H ∧ Nx H) ∨ (J.go i H ∧ ∃ N1 : Hp → Prop, (∀ H', N1 H' → ∃ m', m' < m ∧ W (i + 1) m' H') ∧ ∀ x H', J.yld i H x H' → B x H' N1) := by
  refine ⟨fun i m H => m = n - i ∧ i ≤ n ∧ Pv i H, ⟨n, by simp, Nat.zero_le _, h0⟩, ?_⟩
  rintro i m H ⟨rfl, hi, p⟩
  have q := hG i H hi p
  by_cases hlt : i < n
  · exact .inr ⟨w.goes i H hlt q, Pv (i + 1), fun H' p' => ⟨n - (i + 1), by omega, rfl, hlt, p'⟩, fun x H' y => hs i x H H' hlt p (w.yields i H x H' hlt q y)⟩
  · obtain rfl : i = n := by omega
    exact .inl ⟨w.stops H q, hd H p⟩
/-- a standing: its rows' tuples and what they hold -/
abbrev Rows : Type := List (Addr × List Str)
def StAt (H : Hp) (st : Addr) (rs : Rows) : Prop := H st = some (.tup (rs.map fun r => V.ref r.1)) ∧ ∀ r ∈ rs, H r.1 = some (.tup (r.2.map V.str))
theorem StAt.ext {H H' : Hp} {st : Addr} {rs : Rows} (h : StAt H st rs) (e : ∀ b o, H b = some o → (∀ ps, o ≠ .tbl ps) → H' b = some o) : StAt H' st rs :=
  ⟨e _ _ h.1 (fun _ z => by cases z), fun r hr => e _ _ (h.2 r hr) (fun _ z => by cases z)⟩
theorem StAt.same {H H' : Hp} {st : Addr} {rs : Rows} (h : StAt H st rs) (s : Same H H') : StAt H' st rs := h.ext fun b o e _ => s b o e
abbrev boxes (rs : Rows) : List Str := rs.flatMap (·.2)
/-- a standing in its yard -/
structure Good (hs : List Nat) (rs : Rows) : Prop where
  len : rs.length = hs.length
  fit : ∀ (i : Nat) r, rs[i]? = some r → r.2.length ≤ hs.getD i 0
  names : ∀ z ∈ boxes rs, nameB z = true
  nd : (boxes rs).Nodup
  few : (boxes rs).length ≤ 24
  sum : hs.sum ≤ 24
  many : hs.length ≤ 12
abbrev rw_ (r : Addr × List Str) : Rw := .row r.1 (r.2.map V.str)
theorem txt_map (l : List Str) : (l.map V.str).map txtV = l := by
  rw [List.map_map]
  exact List.map_id' l
theorem rowBad_no : ∀ (l seen : List Str), (∀ z ∈ l, nameB z = true) → l.Nodup → (∀ z ∈ l, z ∉ seen) → rowBad (l.map V.str) seen = false
  | [], _, _, _, _ => rfl
  | z :: l, seen, h1, h2, h3 => by
    show (!nameB z || decide (z ∈ seen) || rowBad (l.map V.str) (seen ++ [z])) = false
    rw [h1 z List.mem_cons_self, decide_eq_false (h3 z List.mem_cons_self), rowBad_no l _ (fun y hy => h1 y (List.mem_cons_of_mem _ hy)) (List.nodup_cons.mp h2).2 fun y hy hm => ?_]
    · rfl
    · rcases List.mem_append.mp hm with hm | hm
      · exact h3 y (List.mem_cons_of_mem _ hy) hm
      · rw [List.mem_singleton.mp hm] at hy
        exact (List.nodup_cons.mp h2).1 hy
theorem badAt_no : ∀ (rs : Rows) (hs : List Nat) (seen : List Str) (i : Nat), (∀ (j : Nat) r, rs[j]? = some r → r.2.length ≤ hs.getD j 0) → (∀ z ∈ boxes rs, nameB z = true) → (boxes rs).Nodup → (∀ z ∈ boxes rs, z ∉ seen) → badAt hs (rs.map rw_) seen i = none
  | [], _, _, _, _, _, _, _ => rfl
  | r :: rs, hs, seen, i, hf, h1, h2, h3 => by
    have eb : boxes (r :: rs) = r.2 ++ boxes rs := List.flatMap_cons
    rw [eb] at h1 h2 h3
    obtain ⟨n1, n2, n3⟩ := List.nodup_append.mp h2
    show (if (decide (hs.headD 0 < (r.2.map V.str).length) || rowBad (r.2.map V.str) seen) = true then some i else badAt hs.tail (rs.map rw_) (seen ++ (r.2.map V.str).map txtV) (i + 1)) = none
    have hh : hs.headD 0 = hs.getD 0 0 := by cases hs <;> rfl
    have h0 := hf 0 r rfl
    rw [decide_eq_false (by rw [hh, List.length_map]; omega), rowBad_no r.2 seen (fun z hz => h1 z (List.mem_append_left _ hz)) n1 fun z hz => h3 z (List.mem_append_left _ hz), if_neg (by simp), txt_map]
    refine badAt_no rs hs.tail _ (i + 1) (fun j r' hj => ?_) (fun z hz => h1 z (List.mem_append_right _ hz)) n2 fun z hz hm => ?_
    · have := hf (j + 1) r' hj
      cases hs with
      | nil => exact this
      | cons a t => exact this
    · rcases List.mem_append.mp hm with hm | hm
      · exact h3 z (List.mem_append_right _ hz) hm
      · exact n3 z hm z hz rfl
theorem total_rows (rs : Rows) : total (rs.map rw_) = (boxes rs).length := by
  induction rs with
  | nil => rfl
  | cons r rs ih =>
    have eb : boxes (r :: rs) = r.2 ++ boxes rs := List.flatMap_cons
    have et : total ((r :: rs).map rw_) = (r.2.map V.str).length + total (rs.map rw_) := rfl
    rw [eb, et, ih, List.length_append, List.length_map]
theorem nameB_len {z : Str} (h : nameB z = true) : z.length ≤ 8 := by
  unfold nameB at h
  rw [Bool.and_eq_true, Bool.and_eq_true] at h
  exact of_decide_eq_true h.1.2
section
variable {P : Program} {w : World} {K : PySem.W.Frag} {mg : Str → Option Value} {base : Heap} {a : Ad} {e : Ae}
/-- a good standing is let through -/
theorem ns_good {H : Hp} {y st : Addr} {hs : List Nat} {rs : Rows} {Q : VK} {E : XK} (hy : YardAt a H y hs) (hst : StAt H st rs) (g : Good hs rs) (q : ∀ H', Same H H' → Q .non H') : spNeedStanding a e [.ref y, .ref st] H Q E := by
  refine ⟨y, .ref st, hs, rfl, hy, .inr ⟨st, rs.map rw_, rfl, ?_, by rw [List.length_map]; exact g.len, fun r hr => ?_, ?_, fun _ => q, fun i hi => ?_⟩⟩
  · rw [List.map_map]
    exact hst.1
  · obtain ⟨r0, h0, rfl⟩ := List.mem_map.mp hr
    refine ⟨hst.2 r0 h0, fun x hx => ?_⟩
    obtain ⟨z, hz, rfl⟩ := List.mem_map.mp hx
    refine ⟨rfl, fun z' e => ?_⟩
    cases e
    have := nameB_len (g.names z (List.mem_flatMap.mpr ⟨r0, h0, hz⟩))
    omega
  · rw [total_rows]
    have := g.few
    omega
  · rw [badAt_no rs hs [] 0 g.fit g.names g.nd (fun _ _ h => by cases h)] at hi
    cases hi
/-- the boxes of a standing, in their order by text -/
def spBoxesOf : Sp := fun vs H Q _ => ∃ (st : Addr) (rs : Rows), vs = [.ref st] ∧ StAt H st rs ∧ (boxes rs).Nodup ∧ (boxes rs).length ≤ 24 ∧ ∀ H' p, Same H H' → H p = none → H' p = some (.tup ((lot (boxes rs)).map V.str)) → Q (.ref p) H'
theorem ok_BoxesOf (T : Tx K mg a) : Ca P w K mg base CX0 2 "boxes_of" spBoxesOf := by
  have G : Ca P w K mg base CX0 1 "lot_of" spLotOf := ok_LotOf T
  refine ca0 T.dBoxesOf cBoxesOf (fun vs H Q E h => ?_) (fun f cdv A outer s H vs Q E hr h => ?_)
  · obtain ⟨st, rs, rfl, _⟩ := h
    rfl
  · obtain ⟨st, rs, rfl, hst, hn, hz, q⟩ := h
    refine ⟨_, pss_one (ps_ret (pe_c0 G hr (by decide) (by rfl) (pa_cons
      (pe_lc2 (own := [("row", 1), ("box", 2)]) (g := gName 1) (tt := tYes) (wi1 := iTup K (tVar 1)) (g1 := gName 2) (tt1 := tYes) (vs1 := [2]) rfl cBoxesOf.nd (pi_tup (pv 0)) (blkOk_by (N := nBoxesOf) (sc := defScope sBoxesOf) (by decide +kernel)) (by decide)
        (fun _ _ _ _ _ => pg_name (i := 1) cBoxesOf.nd rfl (Or.inl rfl)) (fun _ _ _ _ _ => pts_nil) (fun _ _ _ _ _ => by exact pi_tup (pv 1)) (fun _ _ _ _ _ => pg_name (i := 2) cBoxesOf.nd rfl (Or.inl rfl)) (fun _ _ _ _ _ => pts_nil) (fun _ _ _ _ _ => pv 2)) pa_nil))), ?_⟩
    refine ⟨.ref st, rfl, st, rfl, ⟨_, .of hst.1⟩, fun D hD => ?_⟩
    have eb : ∀ i r, rs[i]? = some r → boxes (rs.take (i + 1)) = boxes (rs.take i) ++ r.2 := fun i r hi => by
      rw [List.take_add_one, hi]
      show List.flatMap _ (rs.take i ++ [r]) = _
      rw [List.flatMap_append, List.flatMap_cons, List.flatMap_nil, List.append_nil]
    have lenle : ∀ i r j, rs[i]? = some r → (boxes (rs.take i)).length + (r.2.take j).length ≤ (boxes rs).length := fun i r j hi => by
      have h1 : boxes rs = boxes (rs.take (i + 1)) ++ boxes (rs.drop (i + 1)) := by
        rw [← List.flatMap_append, List.take_append_drop]
      rw [h1, eb i r hi, List.length_append, List.length_append]
      have := List.length_take_le' j r.2
      omega
    refine it_gen (walk_tupM (l := rs) (f := fun r => V.ref r.1)) (fun i H' => LcS H D ((boxes (rs.take i)).map V.str) H') (LcS.zero hD) (fun i H' _ h => .of (h.1 _ _ hst.1)) ?_ ?_
    · rintro i x H2 H3 hi c ⟨rfl, r, hr, rfl⟩
      refine ⟨rfl, yesT ?_⟩
      have hrr := c.1 _ _ (hst.2 r (List.mem_of_getElem? hr))
      refine ⟨.ref r.1, rfl, r.1, rfl, ⟨_, .of hrr⟩, ?_⟩
      refine it_gen (walk_tupM (l := r.2) (f := V.str)) (fun j H' => LcS H D ((boxes (rs.take i) ++ r.2.take j).map V.str) H') (by simpa using c) (fun j H' _ h => .of (h.1 _ _ (hst.2 r (List.mem_of_getElem? hr)))) ?_ ?_
      · rintro j x H4 H5 hj c ⟨rfl, z, hz', rfl⟩
        refine ⟨rfl, yesT ?_⟩
        refine ⟨.str z, rfl, ?_⟩
        refine LcS.step hD c (Same.refl _) ?_ ?_
        · rw [List.length_map, List.length_append]
          have := lenle i r j hr
          exact small1000 (by omega)
        · have : r.2.take (j + 1) = r.2.take j ++ [z] := by
            rw [List.take_add_one, hz']
            rfl
          rw [this, ← List.append_assoc, List.map_append]
          rfl
      · intro H4 c
        rw [List.take_length, ← eb i r hr] at c
        exact c
    · intro H2 c
      rw [List.take_length] at c
      exact ⟨D, boxes rs, rfl, c.2, hn, by omega, fun H' p s' hp hl => q H' p (c.1.trans s') (c.1.free hp) hl⟩
end
end K34
end
section
set_option linter.all false
set_option maxRecDepth 100000
/-! Waits. -/
namespace K34
open PySem PySem.Spec PyProof.Rows L2
/-- a dict from texts to numbers, as pairs -/
abbrev Pairs2 : Type := List (Str × Int)
abbrev pkv (ps : Pairs2) : List (L2.Key × V) := ps.map fun p => (Sum.inr p.1, V.int p.2)
def PD (H : Hp) (d : Addr) (ps : Pairs2) : Prop := H d = some (.dK (pkv ps))
theorem PD.ext {H H' : Hp} {d : Addr} {ps : Pairs2} (h : PD H d ps) (e : ∀ b o, H b = some o → (∀ ps, o ≠ .tbl ps) → H' b = some o) : PD H' d ps := e _ _ h (fun _ z => by cases z)
theorem PD.same {H H' : Hp} {d : Addr} {ps : Pairs2} (h : PD H d ps) (s : Same H H') : PD H' d ps := s _ _ h
theorem valV_pkv (ps : Pairs2) (z : Str) : valV (pkv ps) (Sum.inr z) = (ps.lookup z).map V.int := by
  induction ps with
  | nil => rfl
  | cons p r ih =>
    obtain ⟨y, n⟩ := p
    by_cases h : y = z
    · subst h
      rw [show List.lookup y ((y, n) :: r) = some n by simp [List.lookup]]
      exact valV_pos (p := (Sum.inr y, V.int n)) rfl
    · rw [show List.lookup z ((y, n) :: r) = List.lookup z r by simp [List.lookup, show (z == y) = false by simpa using Ne.symm h]]
      rw [← ih]
      exact valV_neg (p := (Sum.inr y, V.int n)) fun q => h (Sum.inr.inj q)
theorem putK_pkv {ps : Pairs2} {z : Str} {n : Int} (h : z ∉ ps.map (·.1)) : putK (pkv ps) (Sum.inr z) (V.int n) = pkv (ps ++ [(z, n)]) := by
  rw [putK_new]
  · unfold pkv
    rw [List.map_append]
    rfl
  · intro p hp q
    obtain ⟨y, h1, rfl⟩ := List.mem_map.mp hp
    exact h (by rw [← Sum.inr.inj q]; exact List.mem_map_of_mem h1)
theorem lookup_mem {ps : Pairs2} {z : Str} : z ∈ ps.map (·.1) → ∃ n, ps.lookup z = some n := by
  induction ps with
  | nil => exact fun h => by cases h
  | cons p r ih =>
    obtain ⟨y, n⟩ := p
    intro h
    by_cases e : z = y
    · exact ⟨n, by simp [List.lookup, e]⟩
    · obtain ⟨m, hm⟩ := ih ((List.mem_cons.mp h).elim (fun q => absurd q e) id)
      exact ⟨m, by simp [List.lookup, show (z == y) = false by simpa using e, hm]⟩
theorem lookup_none {ps : Pairs2} {z : Str} (h : z ∉ ps.map (·.1)) : ps.lookup z = none := by
  induction ps with
  | nil => rfl
  | cons p r ih =>
    obtain ⟨y, n⟩ := p
    have e : z ≠ y := fun q => h (by rw [q]; exact List.mem_cons_self)
    rw [show List.lookup z ((y, n) :: r) = List.lookup z r by simp [List.lookup, show (z == y) = false by simpa using e]]
    exact ih fun q => h (List.mem_cons_of_mem _ q)
theorem mem_of_lookup2 {ps : Pairs2} {z : Str} {n : Int} (h : ps.lookup z = some n) : (z, n) ∈ ps := PySem.mem_of_lookup h
/-- a row's waits -/
def rowW (h : Nat) (free : Int) (row : List Str) : Pairs2 := row.mapIdx fun j z => (z, if (0 : Int) < (h : Int) - 1 - (j : Nat) - free then (h : Int) - 1 - (j : Nat) - free else 0)
def waitL (free : Int) : List Nat → Rows → Pairs2
  | _, [] => []
  | hs, r :: rs => rowW (hs.headD 0) free r.2 ++ waitL free hs.tail rs
theorem rowW_keys (h : Nat) (free : Int) (row : List Str) : (rowW h free row).map (·.1) = row := by
  unfold rowW
  apply List.ext_getElem?
  intro i
  rw [List.getElem?_map, List.getElem?_mapIdx]
  cases row[i]? <;> rfl
theorem waitL_keys (free : Int) : ∀ (hs : List Nat) (rs : Rows), (waitL free hs rs).map (·.1) = boxes rs
  | _, [] => rfl
  | hs, r :: rs => by
    show (rowW (hs.headD 0) free r.2 ++ waitL free hs.tail rs).map (·.1) = _
    rw [List.map_append, rowW_keys, waitL_keys free hs.tail rs]
    exact List.flatMap_cons.symm
theorem waitL_take (free : Int) : ∀ (i : Nat) (hs : List Nat) (rs : Rows) (r : Addr × List Str), rs[i]? = some r → waitL free hs (rs.take (i + 1)) = waitL free hs (rs.take i) ++ rowW (hs.getD i 0) free r.2
  | _, _, [], _, h => by cases h
  | 0, hs, r0 :: rs, r, h => by
    cases (show some r0 = some r from h)
    show rowW (hs.headD 0) free r0.2 ++ [] = [] ++ rowW (hs.getD 0 0) free r0.2
    rw [List.append_nil, List.nil_append]
    cases hs <;> rfl
  | i + 1, hs, r0 :: rs, r, h => by
    have ih := waitL_take free i hs.tail rs r h
    show rowW (hs.headD 0) free r0.2 ++ waitL free hs.tail (rs.take (i + 1)) = (rowW (hs.headD 0) free r0.2 ++ waitL free hs.tail (rs.take i)) ++ _
    rw [ih, List.append_assoc]
    cases hs <;> rfl
theorem rowW_take {h : Nat} {free : Int} {row : List Str} {j : Nat} {z : Str} (e : row[j]? = some z) : (rowW h free row).take (j + 1) = (rowW h free row).take j ++ [(z, if (0 : Int) < (h : Int) - 1 - (j : Nat) - free then (h : Int) - 1 - (j : Nat) - free else 0)] := by
  rw [List.take_add_one]
  unfold rowW
  rw [List.getElem?_mapIdx, e]
  rfl
section
variable {P : Program} {w : World} {K : PySem.W.Frag} {mg : Str → Option Value} {base : Heap} {a : Ad} {e : Ae}
def freeN (hs : List Nat) (rs : Rows) : Int := (hs.sum : Nat) - ((boxes rs).length : Nat)
def spFreePlaces (a : Ad) : Sp := fun vs H Q _ => ∃ (y st : Addr) (hs : List Nat) (rs : Rows), vs = [.ref y, .ref st] ∧ YardAt a H y hs ∧ StAt H st rs ∧ Good hs rs ∧ ∀ H', Same H H' → Q (.int (freeN hs rs)) H'
theorem sum_lens (rs : Rows) : (rs.map fun r => ((r.2.length : Nat) : Int)).sum = ((boxes rs).length : Nat) := by
  induction rs with
  | nil => rfl
  | cons r rs ih =>
    have eb : boxes (r :: rs) = r.2 ++ boxes rs := List.flatMap_cons
    rw [List.map_cons, List.sum_cons, ih, eb, List.length_append]
    omega
theorem ok_FreePlaces (T : Tx K mg a) (T2 : Tx2 P K mg e) : Ca P w K mg base CX0 4 "free_places" (spFreePlaces a) := by
  have G1 : Ca P w K mg base (L2.CX P w) 3 "need_standing" (spNeedStanding a e) := ok_NeedStanding T T2
  have G2 : Ca P w K mg base CX0 1 "places" (spPlaces a) := ok_Places T
  refine ca0 T.dFreePlaces cFreePlaces (fun vs H Q E h => ?_) (fun f cdv A outer s H vs Q E hr h => ?_)
  · obtain ⟨y, st, hs, rs, rfl, _⟩ := h
    rfl
  · obtain ⟨y, st, hs, rs, rfl, hy, hst, g, q⟩ := h
    refine ⟨_, pss_cons (ps_expr (pe_cX G1 hr (by decide) (by rfl) (pa_cons (pv 0) (pa_cons (pv 1) pa_nil))))
      (pss_one (ps_ret (pe_op op_sub (pe_c0 G2 hr (by decide) (by rfl) (pa_cons (pv 0) pa_nil)) (pe_callB (cr_sum rfl) (by rfl) T.m_sum PyProof.Rows.boot_sum (pa_cons
        (pe_lc (own := [("row", 2)]) (g := gName 2) (tt := tYes) rfl cFreePlaces.nd (pi_tup (pv 1)) (blkOk_by (N := nFreePlaces) (sc := defScope sFreePlaces) (by decide +kernel)) (fun _ _ _ _ _ => pg_name (i := 2) cFreePlaces.nd rfl (Or.inl rfl)) (fun _ _ _ _ _ => pts_nil)
          (te := tCB (rLenS K) (tCons (tVar 2) tNil)) (fun _ _ _ _ _ => by exact pe_callB cr_lenS (by rfl) T.m_len PySem.boot_len (pa_cons (pv 2) pa_nil))) pa_nil))))), ?_⟩
    refine ⟨.ref y, rfl, .ref st, rfl, ?_⟩
    unfold tNil
    refine ns_good (a := a) (e := e) hy hst g fun H1 s1 => ?_
    refine ⟨.ref y, rfl, y, hs, rfl, hy.same s1, .ref st, rfl, st, rfl, ⟨_, .of (s1 _ _ hst.1)⟩, fun D hD => ?_⟩
    refine lc_it (walk_tupM (l := rs) (f := fun r => V.ref r.1)) (fun i H' => LcS H1 D ((rs.take i).map fun r => V.int ((r.2.length : Nat) : Int)) H') (LcS.zero hD) (fun i H' _ h => .of (h.1 _ _ (s1 _ _ hst.1))) ?_ ?_
    · rintro i x H2 H3 hi c ⟨rfl, r, hr', rfl⟩
      refine ⟨rfl, yesT ?_⟩
      refine ⟨.ref r.1, rfl, r.1, _, rfl, .inr (.of (c.1 _ _ (s1 _ _ (hst.2 r (List.mem_of_getElem? hr'))))), ?_⟩
      refine LcS.step hD c (Same.refl _) ?_ ?_
      · have h1 := g.len
        have h2 := g.many
        rw [List.length_map]
        have := List.length_take_le' i rs
        exact small1000 (by omega)
      · rw [take_succ_map hr', List.length_map]
    · intro H2 c
      rw [List.take_length] at c
      refine ⟨D, rs.map fun r => ((r.2.length : Nat) : Int), rfl, .of (by rw [List.map_map]; exact c.2), _, _, rfl, rfl, ?_⟩
      rw [sum_lens]
      exact q H2 (s1.trans c.1)
def spWaitTable (a : Ad) : Sp := fun vs H Q _ => ∃ (y st : Addr) (hs : List Nat) (rs : Rows), vs = [.ref y, .ref st] ∧ YardAt a H y hs ∧ StAt H st rs ∧ Good hs rs ∧ ∀ H' d, Same H H' → H d = none → PD H' d (waitL (freeN hs rs) hs rs) → Q (.ref d) H'
theorem ok_WaitTable (T : Tx K mg a) (T2 : Tx2 P K mg e) : Ca P w K mg base CX0 5 "wait_table" (spWaitTable a) := by
  have G1 : Ca P w K mg base CX0 4 "free_places" (spFreePlaces a) := ok_FreePlaces T T2
  have G2 : Ca P w K mg base CX0 4 "cover_of" (spCoverOf a) := ok_CoverOf T
  refine ca0 T.dWaitTable cWaitTable (fun vs H Q E h => ?_) (fun f cdv A outer s H vs Q E hr h => ?_)
  · obtain ⟨y, st, hs, rs, rfl, _⟩ := h
    rfl
  · obtain ⟨y, st, hs, rs, rfl, hy, hst, g, q⟩ := h
    have hu := hu_of hr
    refine ⟨_, pss_cons (ps_set (i := 2) cWaitTable.nd rfl (.inl rfl) (pe_c0 G1 hr (by decide) (by rfl) (pa_cons (pv 0) (pa_cons (pv 1) pa_nil))))
      (pss_cons (ps_set (i := 3) cWaitTable.nd rfl (.inl rfl) pe_dnewK)
      (pss_cons (ps_for PassesOwn.never rfl (pi_enumT (by rfl) T.m_enumerate (pa_cons (pv 1) pa_nil)) (pg_tup rfl (pgs_cons (pg_name (i := 4) cWaitTable.nd rfl (Or.inl rfl)) (pgs_cons (pg_name (i := 5) cWaitTable.nd rfl (Or.inl rfl)) pgs_nil)))
        (pss_one (ps_for PassesOwn.never rfl (pi_enumT (by rfl) T.m_enumerate (pa_cons (pv 5) pa_nil)) (pg_tup rfl (pgs_cons (pg_name (i := 6) cWaitTable.nd rfl (Or.inl rfl)) (pgs_cons (pg_name (i := 7) cWaitTable.nd rfl (Or.inl rfl)) pgs_nil)))
          (pss_one (ps_dput hu (pv 3) (pv 7) (pe_callB (call_max2 rfl) (by rfl) T.m_max PyProof.Rows.boot_max (pa_cons pe_int (pa_cons (pe_op op_sub (pe_c0 G2 hr (by decide) (by rfl) (pa_cons (pv 0) (pa_cons (pv 4) (pa_cons (pv 6) pa_nil)))) (pv 2)) pa_nil))) rfl)))))
      (pss_one (ps_ret (pv 3))))), ?_⟩
    refine ⟨.ref y, rfl, .ref st, rfl, y, st, hs, rs, rfl, hy, hst, g, fun H1 s1 => fun d hd => ?_⟩
    have kd := waitL_keys (freeN hs rs) hs rs
    have pre : ∀ i, ((waitL (freeN hs rs) hs (rs.take i)).map (·.1)) = boxes (rs.take i) := fun i => waitL_keys _ _ _
    have eb : ∀ i r, rs[i]? = some r → boxes (rs.take (i + 1)) = boxes (rs.take i) ++ r.2 := fun i r hi => by
      rw [List.take_add_one, hi]
      show List.flatMap _ (rs.take i ++ [r]) = _
      rw [List.flatMap_append, List.flatMap_cons, List.flatMap_nil, List.append_nil]
    have cut : ∀ i, boxes rs = boxes (rs.take i) ++ boxes (rs.drop i) := fun i => by rw [← List.flatMap_append, List.take_append_drop]
    have s0 : Same H (upd H1 d (.dK [])) := same_put (s1.free hd) s1
    refine ⟨.ref st, rfl, st, _, rfl, .of (s0 _ _ hst.1), ?_⟩
    have nd : H d = none := s1.free hd
    refine for_it (walk_enumM (l := rs) (f := fun r => V.ref r.1)) (fun i σ H' => (∃ u1 u2 u3 u4, σ = [some (.ref y), some (.ref st), some (.int (freeN hs rs)), some (.ref d), u1, u2, u3, u4]) ∧ But d H H' ∧ PD H' d (waitL (freeN hs rs) hs (rs.take i)))
      ⟨⟨none, none, none, none, rfl⟩, But.of s0, upd_same⟩ (fun i σ H' _ h => .of (h.2.1 _ _ hst.1 (ne_of_none hst.1 nd))) ?_ ?_
    · rintro i x σ H2 H3 hi ⟨⟨u1, u2, u3, u4, rfl⟩, b2, pd⟩ ⟨T1, r, rfl, hT, rfl, hr'⟩
      refine ⟨T1, _, rfl, .of upd_same, rfl, _, _, rfl, _, _, rfl, rfl, ?_⟩
      have hrt := hst.2 r (List.mem_of_getElem? hr')
      have b3 : But d H (upd H2 T1 (.tup [.int i, .ref r.1])) := fun b o e ne => by
        rw [upd_ne (ne_of_none (b2 b o e ne) hT)]
        exact b2 b o e ne
      have pd3 : PD (upd H2 T1 (.tup [.int i, .ref r.1])) d (waitL (freeN hs rs) hs (rs.take i)) := by
        unfold PD
        rw [upd_ne (ne_of_none pd hT)]
        exact pd
      generalize upd H2 T1 (.tup [.int i, .ref r.1]) = H3 at b3 pd3 ⊢
      refine ⟨.ref r.1, rfl, r.1, _, rfl, .of (b3 _ _ hrt (ne_of_none hrt nd)), ?_⟩
      refine for_it (walk_enumM (l := r.2) (f := V.str)) (fun j σ H' => (∃ u3 u4, σ = [some (.ref y), some (.ref st), some (.int (freeN hs rs)), some (.ref d), some (.int (i : Nat)), some (.ref r.1), u3, u4]) ∧ But d H H' ∧
          PD H' d (waitL (freeN hs rs) hs (rs.take i) ++ (rowW (hs.getD i 0) (freeN hs rs) r.2).take j))
        ⟨⟨_, _, rfl⟩, b3, by simpa using pd3⟩ (fun j σ H' _ h => .of (h.2.1 _ _ hrt (ne_of_none hrt nd))) ?_ ?_
      · rintro j x σ H4 H5 hj ⟨⟨u3, u4, rfl⟩, b4, pd4⟩ ⟨T2, z, rfl, hT2, rfl, hz⟩
        refine ⟨T2, _, rfl, .of upd_same, rfl, _, _, rfl, _, _, rfl, rfl, ?_⟩
        have b5 : But d H (upd H4 T2 (.tup [.int j, .str z])) := fun b o e ne => by
          rw [upd_ne (ne_of_none (b4 b o e ne) hT2)]
          exact b4 b o e ne
        have pd5 : PD (upd H4 T2 (.tup [.int j, .str z])) d (waitL (freeN hs rs) hs (rs.take i) ++ (rowW (hs.getD i 0) (freeN hs rs) r.2).take j) := by
          unfold PD
          rw [upd_ne (ne_of_none pd4 hT2)]
          exact pd4
        generalize upd H4 T2 (.tup [.int j, .str z]) = H5 at b5 pd5 ⊢
        obtain ⟨dx, ht, y1, y2⟩ := hy
        have hil : i < hs.length := by rw [← g.len]; exact hi
        have hjl : j < hs.getD i 0 := Nat.lt_of_lt_of_le hj (g.fit i r hr')
        refine ⟨.ref y, rfl, .int i, rfl, .int j, rfl, ⟨y, hs, i, j, hs.getD i 0, rfl, ⟨dx, ht, b5 _ _ y1 (ne_of_none y1 nd), b5 _ _ y2 (ne_of_none y2 nd)⟩, by rw [List.getD_eq_getElem?_getD, List.getElem?_eq_getElem hil]; rfl, hjl, ?_⟩⟩
        refine ⟨_, rfl, _, _, rfl, rfl, 0, _, rfl, ?_⟩
        have keys : ∀ z' ∈ (waitL (freeN hs rs) hs (rs.take i) ++ (rowW (hs.getD i 0) (freeN hs rs) r.2).take j).map (·.1), z' ∈ boxes (rs.take i) ++ r.2.take j := fun z' h => by
          rw [List.map_append, pre, List.map_take, rowW_keys] at h
          exact h
        have nd1 : (boxes (rs.take i) ++ r.2).Nodup := by
          have := g.nd
          rw [cut (i + 1), eb i r hr'] at this
          exact (List.nodup_append.mp this).1
        have hz2 : r.2.take (j + 1) = r.2.take j ++ [z] := by
          rw [List.take_add_one, hz]
          rfl
        have nd2 : (boxes (rs.take i) ++ (r.2.take j ++ [z])).Nodup := by
          rw [← hz2]
          exact nd1.sublist (List.Sublist.append (List.Sublist.refl _) (List.take_sublist _ _))
        have hzn : z ∉ (waitL (freeN hs rs) hs (rs.take i) ++ (rowW (hs.getD i 0) (freeN hs rs) r.2).take j).map (·.1) := fun h => by
          have := keys z h
          rw [← List.append_assoc] at nd2
          exact (List.nodup_append.mp nd2).2.2 z this z (List.mem_singleton_self z) rfl
        have hlen : (pkv (waitL (freeN hs rs) hs (rs.take i) ++ (rowW (hs.getD i 0) (freeN hs rs) r.2).take j)).length < sizeLine := by
          have h1 : (waitL (freeN hs rs) hs (rs.take i) ++ (rowW (hs.getD i 0) (freeN hs rs) r.2).take j).length = (boxes (rs.take i) ++ r.2.take j).length := by
            rw [← List.length_map (f := fun p : Str × Int => p.1), List.map_append, pre, List.map_take, rowW_keys]
          have h2 : (boxes (rs.take i) ++ r.2.take j).length ≤ (boxes rs).length := by
            rw [cut (i + 1), eb i r hr', List.length_append, List.length_append, List.length_append]
            have := List.length_take_le' j r.2
            omega
          have := g.few
          refine small1000 ?_
          rw [List.length_map, h1]
          omega
        refine ⟨.ref d, rfl, .str z, rfl, d, _, rfl, DPut.k (k := Sum.inr z) pd5 hlen, ?_⟩
        refine ⟨⟨_, _, rfl⟩, fun b o e ne => ?_, ?_⟩
        · rw [upd_ne ne]
          exact b5 b o e ne
        · rw [rowW_take hz, ← List.append_assoc]
          unfold PD
          rw [upd_same]
          have e1 := putK_pkv (n := if (0 : Int) < ((hs.getD i 0 : Nat) : Int) - 1 - (j : Nat) - freeN hs rs then ((hs.getD i 0 : Nat) : Int) - 1 - (j : Nat) - freeN hs rs else 0) hzn
          rw [← e1]
      · rintro σ H4 ⟨⟨u3, u4, rfl⟩, b4, pd4⟩
        refine ⟨⟨_, _, _, _, rfl⟩, b4, ?_⟩
        rw [waitL_take _ i hs rs r hr']
        have : (rowW (hs.getD i 0) (freeN hs rs) r.2).length = r.2.length := by
          rw [← List.length_map (f := fun p : Str × Int => p.1), rowW_keys]
        rw [← this, List.take_length] at pd4
        exact pd4
    · rintro σ H2 ⟨⟨u1, u2, u3, u4, rfl⟩, b2, pd⟩
      rw [List.take_length] at pd
      exact ⟨_, rfl, q H2 d (fun b o e => b2 b o e (ne_of_none e nd)) nd pd⟩
end
end K34
end
section
set_option linter.all false
set_option maxRecDepth 100000
/-! Dues. -/
namespace K34
open PySem PySem.Spec PyProof.Rows L2
theorem inV_strs (z : Str) (l : List Str) : inV (.str z) (l.map V.str) = decide (z ∈ l) := by
  induction l with
  | nil => rfl
  | cons y r ih =>
    show (eqV (.str y) (.str z) || inV (.str z) (r.map V.str)) = _
    rw [ih]
    have e : eqV (.str y) (.str z) = decide (y = z) := by
      by_cases h : y = z
      · subst h
        simp [eqV]
      · rw [decide_eq_false h]
        rw [Bool.eq_false_iff]
        intro q
        exact h (by simpa [eqV] using q)
    rw [e]
    by_cases h : y = z
    · subst h
      simp
    · rw [decide_eq_false h, Bool.false_or]
      simp [Ne.symm h]
theorem flat_strs (l : List Str) : (l.map V.str).all flatV = true := by
  rw [List.all_map, List.all_eq_true]
  exact fun _ _ => rfl
/-- dues: a tuple of pairs -/
abbrev Dues : Type := List (Addr × Str × Int)
def DuesAt (H : Hp) (t : Addr) (ps : Dues) : Prop := H t = some (.tup (ps.map fun p => V.ref p.1)) ∧ ∀ p ∈ ps, H p.1 = some (.tup [.str p.2.1, .int p.2.2])
theorem DuesAt.ext {H H' : Hp} {t : Addr} {ps : Dues} (h : DuesAt H t ps) (e : ∀ b o, H b = some o → (∀ ps, o ≠ .tbl ps) → H' b = some o) : DuesAt H' t ps :=
  ⟨e _ _ h.1 (fun _ z => by cases z), fun r hr => e _ _ (h.2 r hr) (fun _ z => by cases z)⟩
theorem DuesAt.same {H H' : Hp} {t : Addr} {ps : Dues} (h : DuesAt H t ps) (s : Same H H') : DuesAt H' t ps := h.ext fun b o e _ => s b o e
/-- what comes of dues -/
inductive Dut where
  | ok (t : Pairs2)
  | name (z : Str)
  | refused
  | size
def runDues (bs : List Str) : Pairs2 → Pairs2 → Dut
  | [], t => .ok t
  | (z, n) :: r, t => if z ∈ bs then (if z ∈ t.map (·.1) then .refused else if n < 1 then .size else runDues bs r (t ++ [(z, n)])) else .name z
section
variable {P : Program} {w : World} {K : PySem.W.Frag} {mg : Str → Option Value} {base : Heap} {a : Ad} {e : Ae}
def DutOk (e : Ae) (H : Hp) (Q : VK) (E : XK) : Dut → Prop
  | .ok t => ∀ H' d, Same H H' → H d = none → PD H' d t → Q (.ref d) H'
  | .name z => ∀ d H', Same H H' → H d = none → H' d = some (.xd [("name", .str z)]) → E (.ref e.N) (some d) H'
  | .refused => ∀ d H', Same H H' → H d = none → H' d = some (.xd [("word", .str "dues")]) → E (.ref e.R) (some d) H'
  | .size => ∀ d H', Same H H' → H d = none → H' d = some (.xd [("word", .str "due")]) → E (.ref e.Z) (some d) H'
def spDueTable (a : Ad) (e : Ae) : Sp := fun vs H Q E => ∃ (y : Addr) (v u : V), vs = [.ref y, v, u] ∧ (spNeedStanding a e [.ref y, v] H (fun _ _ => False) E ∨
  ∃ (st dt : Addr) (hs : List Nat) (rs : Rows) (ps : Dues), v = .ref st ∧ u = .ref dt ∧ YardAt a H y hs ∧ StAt H st rs ∧ Good hs rs ∧ DuesAt H dt ps ∧ ps.length ≤ 1000 ∧ DutOk e H Q E (runDues (boxes rs) (ps.map (·.2)) []))
theorem ns_mono {vs : List V} {H : Hp} {Q Q' : VK} {E : XK} (h : ∀ v H, Q v H → Q' v H) (s : spNeedStanding a e vs H Q E) : spNeedStanding a e vs H Q' E := by
  obtain ⟨y, v, hs, e1, e2, s⟩ := s
  refine ⟨y, v, hs, e1, e2, s.imp id fun ⟨t, rs, h1, h2, h3, h4, h5, h6, h7⟩ => ⟨t, rs, h1, h2, h3, h4, h5, fun z H' s' => h _ _ (h6 z H' s'), h7⟩⟩
theorem ok_DueTable (T : Tx K mg a) (T2 : Tx2 P K mg e) : Ca P w K mg base (L2.CX P w) 4 "due_table" (spDueTable a e) := by
  have G1 : Ca P w K mg base (L2.CX P w) 3 "need_standing" (spNeedStanding a e) := ok_NeedStanding T T2
  have G2 : Ca P w K mg base CX0 2 "boxes_of" spBoxesOf := ok_BoxesOf T
  refine caX T.dDueTable cDueTable (fun vs H Q E h => ?_) (fun f cdv A outer s H vs Q E hr h => ?_)
  · obtain ⟨y, v, u, rfl, _⟩ := h
    rfl
  · obtain ⟨y, v, u, rfl, h⟩ := h
    have hu := hu_of hr
    refine ⟨_, pss_cons (ps_expr (pe_cS G1 hr (by decide) (takes_of rfl rfl rfl rfl) (by rfl) (pa_cons (pv 0) (pa_cons (pv 1) pa_nil))))
      (pss_cons (ps_par (i := 3) (j := 4) rfl cDueTable.nd rfl rfl (by decide) rfl rfl (pa_cons (pe_c0 G2 hr (by decide) (by rfl) (pa_cons (pv 1) pa_nil)) (pa_cons pe_dnewK pa_nil)) (by rfl))
      (pss_cons (ps_for PassesOwn.leaving rfl (pi_tup (pv 2)) (pg_tup rfl (pgs_cons (pg_name (i := 5) cDueTable.nd rfl (Or.inl rfl)) (pgs_cons (pg_name (i := 6) cDueTable.nd rfl (Or.inl rfl)) pgs_nil)))
        (pss_cons (ps_if (pt_cmpR op_notIn_seq (pv 5) (pv 3) (by rfl)) (pss_one (ps_raiseKey rfl T2.xN hr (takes_of rfl rfl rfl rfl) (pv 5) (by rfl))) pss_nil)
        (pss_cons (ps_if (pt_cmp (pc_din hu (pv 5) (pv 4))) (pss_one (ps_raiseOwn rfl T2.xR hr (takes_of rfl rfl rfl rfl) pe_str (by rfl))) pss_nil)
        (pss_cons (ps_if (pt_cmpR op_lt (pv 6) pe_int (nomark _)) (pss_one (ps_raiseOwn rfl T2.xZ hr (takes_of rfl rfl rfl rfl) pe_str (by rfl))) pss_nil)
        (pss_one (ps_dput hu (pv 4) (pv 5) (pv 6) rfl))))))
      (pss_one (ps_ret (pv 4))))), ?_⟩
    rcases h with h | ⟨st, dt, hs, rs, ps, rfl, rfl, hy, hst, g, hd, hz, q⟩
    · refine ⟨.ref y, rfl, v, rfl, ?_⟩
      unfold tNil
      exact ns_mono (fun _ _ z => z.elim) h
    · refine ⟨.ref y, rfl, .ref st, rfl, ?_⟩
      unfold tNil
      refine ns_good (a := a) (e := e) hy hst g fun H1 s1 => ?_
      have hst1 := hst.same s1
      refine ⟨.ref st, rfl, st, rs, rfl, hst1, g.nd, g.few, fun H2 p s2 hp hpt => ?_⟩
      intro d hdn
      have s12 := s1.trans s2
      have nd : H d = none := s12.free hdn
      have np : H p = none := s1.free hp
      have ndp : p ≠ d := ne_of_none hpt hdn
      have s3 : Same H (upd H2 d (.dK [])) := same_put nd s12
      have p3 : upd H2 d (.dK []) p = some (.tup ((lot (boxes rs)).map V.str)) := by
        rw [upd_ne ndp]
        exact hpt
      generalize hH3 : upd H2 d (.dK []) = H3 at s3 p3 ⊢
      have d3 : PD H3 d [] := by
        rw [← hH3]
        exact upd_same
      refine ⟨_, _, rfl, .ref dt, rfl, dt, rfl, ⟨_, .of (s3 _ _ hd.1)⟩, ?_⟩
      refine for_it (walk_tupM (l := ps) (f := fun p => V.ref p.1)) (fun i σ H' => (∃ u1 u2, σ = [some (.ref y), some (.ref st), some (.ref dt), some (.ref p), some (.ref d), u1, u2]) ∧ But d H3 H' ∧
          ∃ t : Pairs2, PD H' d t ∧ runDues (boxes rs) (ps.map (·.2)) [] = runDues (boxes rs) ((ps.drop i).map (·.2)) t ∧ t.length = i)
        ⟨⟨none, none, rfl⟩, But.refl _ _, [], d3, rfl, rfl⟩ (fun i σ H' _ h => .of (h.2.1 _ _ (s3 _ _ hd.1) (ne_of_none hd.1 nd))) ?_ ?_
      · rintro i x σ H4 H5 hi ⟨⟨u1, u2, rfl⟩, b4, t, pt, hrun, htl⟩ ⟨rfl, pr, hpr, rfl⟩
        have hpm := List.mem_of_getElem? hpr
        have e5 := b4 _ _ (s3 _ _ (hd.2 pr hpm)) (ne_of_none (hd.2 pr hpm) nd)
        obtain ⟨pa, z, n⟩ := pr
        refine ⟨pa, _, rfl, .of e5, rfl, .str z, [.int n], rfl, .int n, [], rfl, rfl, ?_⟩
        have edrop : (ps.drop i).map (·.2) = (z, n) :: (ps.drop (i + 1)).map (·.2) := by
          obtain ⟨hh, he⟩ := List.getElem?_eq_some_iff.mp hpr
          rw [List.drop_eq_getElem_cons hh, he]
          rfl
        have hrun2 : runDues (boxes rs) (ps.map (·.2)) [] = if z ∈ boxes rs then (if z ∈ t.map (·.1) then .refused else if n < 1 then .size else runDues (boxes rs) ((ps.drop (i + 1)).map (·.2)) (t ++ [(z, n)])) else .name z := by
          rw [hrun, edrop]
          rfl
        have bH : ∀ {H6 : Hp}, But d H3 H6 → Same H H6 := fun b6 b o e => b6 b o (s3 b o e) (ne_of_none e nd)
        refine ⟨.str z, rfl, .ref p, rfl, p, _, rfl, .inr (.of (b4 _ _ p3 ndp)), rfl, flat_strs _, _, rfl, ?_⟩
        rw [inV_strs]
        refine ite2 (fun hz => ?_) (fun hz => ?_)
        · have hz' : z ∉ boxes rs := fun h => by
            have h' : z ∈ lot (boxes rs) := mem_lot.mpr h
            rw [decide_eq_true h'] at hz
            cases hz
          refine ⟨.str z, rfl, .str z, rfl, fun d' hd' => ?_⟩
          rw [hrun2, if_neg hz'] at q
          exact q d' _ (same_put ((bH b4).free hd') (bH b4)) ((bH b4).free hd') upd_same
        · have hz' : z ∈ boxes rs := Decidable.byContradiction fun h => hz (by
            have h' : ¬ z ∈ lot (boxes rs) := fun k => h (mem_lot.mp k)
            rw [decide_eq_false h']
            rfl)
          rw [if_pos hz'] at hrun2
          refine ⟨.str z, rfl, .ref d, rfl, d, _, rfl, DGet.k (k := Sum.inr z) pt, _, rfl, ?_⟩
          rw [valV_pkv]
          refine ite2 (fun hin => ?_) (fun hin => ?_)
          · have hin' : z ∈ t.map (·.1) := Decidable.byContradiction fun h => by
              rw [lookup_none h] at hin
              cases hin
            rw [hrun2, if_pos hin'] at q
            exact ⟨.str "dues", rfl, fun d' hd' => q d' _ (same_put ((bH b4).free hd') (bH b4)) ((bH b4).free hd') upd_same⟩
          · have hin' : z ∉ t.map (·.1) := fun h => by
              obtain ⟨m, hm⟩ := lookup_mem h
              rw [hm] at hin
              exact hin rfl
            rw [if_neg hin'] at hrun2
            refine ⟨.int n, rfl, n, 1, rfl, rfl, _, rfl, ite2 (fun hlt => ?_) (fun hlt => ?_)⟩
            · rw [hrun2, if_pos (of_decide_eq_true hlt)] at q
              exact ⟨.str "due", rfl, fun d' hd' => q d' _ (same_put ((bH b4).free hd') (bH b4)) ((bH b4).free hd') upd_same⟩
            · rw [if_neg (fun h => hlt (decide_eq_true h))] at hrun2
              have hlen : (pkv t).length < sizeLine := by
                rw [List.length_map]
                exact small1000 (by omega)
              refine ⟨.int n, rfl, .ref d, rfl, .str z, rfl, d, _, rfl, DPut.k (k := Sum.inr z) pt hlen, ?_⟩
              refine ⟨⟨_, _, rfl⟩, b4.trans But.upd, t ++ [(z, n)], ?_, hrun2, by rw [List.length_append]; simp; omega⟩
              unfold PD
              rw [upd_same]
              exact congrArg some (congrArg HO.dK (putK_pkv hin'))
      · rintro σ H4 ⟨⟨u1, u2, rfl⟩, b4, t, pt, hrun, htl⟩
        rw [List.drop_length] at hrun
        rw [hrun] at q
        exact ⟨_, rfl, q H4 d (fun b o e => b4 b o (s3 b o e) (ne_of_none e nd)) nd pt⟩
end
end K34
end
section
set_option linter.all false
set_option maxRecDepth 100000
/-! Goings. -/
namespace K34
open PySem PySem.Spec PyProof.Rows L2
/-- the boxes of a value go, each once -/
def goes : List V → List Str → Bool
  | [], _ => true
  | x :: r, left => isNameV x && decide (txtV x ∈ left) && goes r (left.erase (txtV x))
def goB (bs : List Str) : Rw → Bool
  | .bad _ => false
  | .row _ xs => goes xs (lot bs)
section
variable {P : Program} {w : World} {K : PySem.W.Frag} {mg : Str → Option Value} {base : Heap} {a : Ad} {e : Ae}
def spNeedGoings (a : Ad) (e : Ae) : Sp := fun vs H Q E => ∃ (y st : Addr) (hs : List Nat) (rs : Rows) (r : Rw), vs = [.ref y, .ref st, r.v] ∧ YardAt a H y hs ∧ StAt H st rs ∧ Good hs rs ∧ r.ok H ∧
  (goB (boxes rs) r = true → ∀ H', Same H H' → Q .non H') ∧ (goB (boxes rs) r = false → ∀ d H' n, Same H H' → H d = none → H' d = some (.xd [("at", .int n)]) → E (.ref e.O) (some d) H')
theorem ok_NeedGoings (T : Tx K mg a) (T2 : Tx2 P K mg e) : Ca P w K mg base (L2.CX P w) 4 "need_goings" (spNeedGoings a e) := by
  have G1 : Ca P w K mg base (L2.CX P w) 3 "need_standing" (spNeedStanding a e) := ok_NeedStanding T T2
  have G2 : Ca P w K mg base CX0 2 "boxes_of" spBoxesOf := ok_BoxesOf T
  have G3 : Ca P w K mg base CX0 2 "is_name" spIsName := ok_IsName T
  refine caX T.dNeedGoings cNeedGoings (fun vs H Q E h => ?_) (fun f cdv A outer s H vs Q E hr h => ?_)
  · obtain ⟨y, st, hs, rs, r, rfl, _⟩ := h
    rfl
  · obtain ⟨y, st, hs, rs, r, rfl, hy, hst, g, hrk, q, qe⟩ := h
    refine ⟨_, pss_cons (ps_expr (pe_cX G1 hr (by decide) (by rfl) (pa_cons (pv 0) (pa_cons (pv 1) pa_nil))))
      (pss_cons (ps_if (pt_not (pt_val (pe_callB call_isi (by rfl) T.m_isinstance boot_isi (pa_cons (pv 2) (pa_cons (pe_bltn (by rfl) T.m_tuple PyProof.Rows.boot_tuple (rel_ty _)) pa_nil)))))
        (pss_one (ps_raiseOwn rfl T2.xO hr (takes_of rfl rfl rfl rfl) (pe_un un_neg pe_int) (by rfl))) pss_nil)
      (pss_cons (ps_set (i := 3) cNeedGoings.nd rfl (.inl rfl) (pe_callTy call_list_of (by rfl) T.m_list PyProof.Rows.boot_list (pa_cons (pe_c0 G2 hr (by decide) (by rfl) (pa_cons (pv 1) pa_nil)) pa_nil)))
      (pss_one (ps_for PassesOwn.leaving rfl (pi_enumT (by rfl) T.m_enumerate (pa_cons (pv 2) pa_nil)) (pg_tup rfl (pgs_cons (pg_name (i := 4) cNeedGoings.nd rfl (Or.inl rfl)) (pgs_cons (pg_name (i := 5) cNeedGoings.nd rfl (Or.inl rfl)) pgs_nil)))
        (pss_cons (ps_if (pw_or (pt_not (pt_val (pe_c0 G3 hr (by decide) (by rfl) (pa_cons (pv 5) pa_nil)))) (pw_or1 (pt_cmpR op_notIn_seq (pv 5) (pv 3) (by rfl)))).pt
          (pss_one (ps_raiseOwn rfl T2.xO hr (takes_of rfl rfl rfl rfl) (pv 4) (by rfl))) pss_nil)
        (pss_one (ps_expr (pe_bm PySem.F.plainAttrs_list PySem.F.slot_list_remove PySem.F.type_list_remove mt_removeS (pv 3) (pa_cons (pv 5) pa_nil))))))))), ?_⟩
    refine ⟨.ref y, rfl, .ref st, rfl, ?_⟩
    unfold tNil
    refine ns_good (a := a) (e := e) hy hst g fun H1 s1 => ?_
    have bad_ : ∀ {H4 : Hp} {n : Int}, Same H H4 → goB (boxes rs) r = false → ∀ d, H4 d = none → E (.ref e.O) (some d) (upd H4 d (.xd [("at", .int n)])) := fun {H4 n} s4 hb d hd => qe hb d _ n (same_put (s4.free hd) s4) (s4.free hd) upd_same
    cases r with
    | bad v =>
      obtain ⟨tv, ty, hk⟩ := NotTup.ty (K := K) (H := H1) (v := v) (hrk.imp id fun ⟨l, xs, e1, e2⟩ => ⟨l, xs, e1, s1 _ _ e2⟩)
      exact ⟨v, rfl, v, .ty "tuple", tv, .type "tuple", false, rfl, .ty _, ty, hk, false, rfl, iteT ⟨1, rfl, .int (-1), rfl, bad_ s1 rfl⟩⟩
    | row t xs =>
      obtain ⟨ht, hfl⟩ := hrk
      refine ⟨.ref t, rfl, .ref t, .ty "tuple", .type "tuple", .type "tuple", true, rfl, .ty _, .base (.tup (s1 _ _ ht)), kit_ty (r := true) (by decide +kernel), true, rfl, iteF ?_⟩
      refine ⟨.ref st, rfl, st, rs, rfl, hst.same s1, g.nd, g.few, fun H2 p s2 hp hpt => ?_⟩
      refine ⟨p, _, rfl, .inr (.of hpt), fun l hl => ?_⟩
      have s12 := s1.trans s2
      have nl : H l = none := s12.free hl
      have s3 : Same H (upd H2 l (.lst ((lot (boxes rs)).map V.str))) := same_put nl s12
      have l3 : upd H2 l (.lst ((lot (boxes rs)).map V.str)) l = some (.lst ((lot (boxes rs)).map V.str)) := upd_same
      generalize upd H2 l (.lst ((lot (boxes rs)).map V.str)) = H3 at s3 l3 ⊢
      refine ⟨.ref t, rfl, t, xs, rfl, .of (s3 _ _ ht), ?_⟩
      have ex : xs = xs.map id := (List.map_id xs).symm
      refine for_it (walk_enumT (xs := xs)) (fun i σ H' => (∃ u1 u2, σ = [some (.ref y), some (.ref st), some (.ref t), some (.ref l), u1, u2]) ∧ But l H3 H' ∧
          ∃ left : List Str, H' l = some (.lst (left.map V.str)) ∧ goes xs (lot (boxes rs)) = goes (xs.drop i) left)
        ⟨⟨none, none, rfl⟩, But.refl _ _, _, l3, rfl⟩ (fun i σ H' _ h => .of (h.2.1 _ _ (s3 _ _ ht) (ne_of_none ht nl))) ?_ ?_
      · rintro i x σ H4 H5 hi ⟨⟨u1, u2, rfl⟩, b4, left, hl4, hgo⟩ ⟨T1, x1, x2, rfl, hT, rfl, e1, e2⟩
        cases (show some (V.int ((i : Nat) : Int)) = some x1 from e1)
        have e2 : xs[i]? = some x2 := e2
        refine ⟨T1, _, rfl, .of upd_same, rfl, .int i, [x2], rfl, x2, [], rfl, rfl, ?_⟩
        have b5 : But l H3 (upd H4 T1 (.tup [.int i, x2])) := fun b o e ne => by
          rw [upd_ne (ne_of_none (b4 b o e ne) hT)]
          exact b4 b o e ne
        have hl5 : upd H4 T1 (.tup [.int i, x2]) l = some (.lst (left.map V.str)) := by
          rw [upd_ne (ne_of_none hl4 hT)]
          exact hl4
        generalize upd H4 T1 (.tup [.int i, x2]) = H5 at b5 hl5 ⊢
        obtain ⟨hfx, hzx⟩ := hfl x2 (List.mem_of_getElem? e2)
        have edrop : xs.drop i = x2 :: xs.drop (i + 1) := by
          obtain ⟨hh, he⟩ := List.getElem?_eq_some_iff.mp e2
          rw [List.drop_eq_getElem_cons hh, he]
        have hgo2 : goes xs (lot (boxes rs)) = (isNameV x2 && decide (txtV x2 ∈ left) && goes (xs.drop (i + 1)) (left.erase (txtV x2))) := by
          rw [hgo, edrop]
          rfl
        refine ⟨x2, rfl, x2, rfl, hfx, hzx, fun H6 s6 => ?_⟩
        have b6 : But l H3 H6 := fun b o e ne => s6 b o (b5 b o e ne)
        have hl6 := s6 _ _ hl5
        have sH : Same H H6 := fun b o e => b6 b o (s3 b o e) (ne_of_none e nl)
        refine ⟨_, rfl, ?_⟩
        cases hnm : isNameV x2 with
        | false =>
          refine iteT ⟨.int i, rfl, .int i, rfl, bad_ sH ?_⟩
          show goes xs (lot (boxes rs)) = false
          rw [hgo2, hnm]
          rfl
        | true =>
          refine iteF ?_
          have ex2 := nameStr hnm
          refine ⟨x2, rfl, .ref l, rfl, l, _, rfl, .inl (.of hl6), hfx, flat_strs _, _, rfl, ?_⟩
          rw [show inV x2 (left.map V.str) = decide (txtV x2 ∈ left) by rw [ex2]; exact inV_strs _ _]
          rw [hnm, Bool.true_and] at hgo2
          refine ite2 (fun hin => ?_) (fun hin => ?_)
          · have hin' : decide (txtV x2 ∈ left) = false := by simpa using hin
            refine ⟨.int i, rfl, .int i, rfl, bad_ sH ?_⟩
            show goes xs (lot (boxes rs)) = false
            rw [hgo2, hin']
            rfl
          · have hin' : decide (txtV x2 ∈ left) = true := by simpa using hin
            rw [hin', Bool.true_and] at hgo2
            refine ⟨.ref l, rfl, .inl ⟨rfl, _, .of hl6⟩, x2, rfl, l, left, txtV x2, rfl, by rw [← ex2], hl6, of_decide_eq_true hin', ?_⟩
            exact ⟨⟨_, _, rfl⟩, b6.trans But.upd, _, upd_same, hgo2⟩
      · rintro σ H4 ⟨⟨u1, u2, rfl⟩, b4, left, hl4, hgo⟩
        rw [List.drop_length] at hgo
        exact q hgo H4 fun b o e => b4 b o (s3 b o e) (ne_of_none e nl)
/-- is_order -/
def isOrd (bs : List Str) : Rw → Bool
  | .bad _ => false
  | .row _ xs => goes xs (lot bs) && decide (xs.length = bs.length)
def spIsOrder (a : Ad) : Sp := fun vs H Q _ => ∃ (y st : Addr) (hs : List Nat) (rs : Rows) (r : Rw), vs = [.ref y, .ref st, r.v] ∧ YardAt a H y hs ∧ StAt H st rs ∧ Good hs rs ∧ r.ok H ∧ ∀ H', Same H H' → Q (.bl (isOrd (boxes rs) r)) H'
theorem ok_IsOrder (T : Tx K mg a) (T2 : Tx2 P K mg e) : Ca P w K mg base CX0 5 "is_order" (spIsOrder a) := by
  have G1 : Ca P w K mg base (L2.CX P w) 4 "need_goings" (spNeedGoings a e) := ok_NeedGoings T T2
  have G2 : Ca P w K mg base CX0 2 "boxes_of" spBoxesOf := ok_BoxesOf T
  refine ca0 T.dIsOrder cIsOrder (fun vs H Q E h => ?_) (fun f cdv A outer s H vs Q E hr h => ?_)
  · obtain ⟨y, st, hs, rs, r, rfl, _⟩ := h
    rfl
  · obtain ⟨y, st, hs, rs, r, rfl, hy, hst, g, hrk, q⟩ := h
    have gO : mg "InvalidOrder" = some (.ref e.O) := by
      obtain ⟨_, _, X⟩ := T2.xO
      exact X.gC
    refine ⟨_, pss_cons (ps_try_only (c := .ref e.O) (Wout := fun _ _ _ _ => False) rfl rfl ⟨by rfl, by decide, .inl gO⟩ takes0 (fun W pn xe tk _ => pss_one (ps_expr (by exact pe_cS G1 hr (by decide) tk (by rfl) (pa_cons (pv 0) (pa_cons (pv 1) (pa_cons (pv 2) pa_nil)))))) (fun b oe cls d pn hz hf => pss_one (ps_ret pe_bl)))
      (pss_one (ps_ret (pe_cmpR op_eq (pe_callB call_len_seq (by rfl) T.m_len PySem.boot_len (pa_cons (pv 2) pa_nil)) (pe_callB call_len_seq (by rfl) T.m_len PySem.boot_len (pa_cons (pe_c0 G2 hr (by decide) (by rfl) (pa_cons (pv 1) pa_nil)) pa_nil)) (nomark _)))), ?_⟩
    refine ⟨.ref y, rfl, .ref st, rfl, r.v, rfl, y, st, hs, rs, r, rfl, hy, hst, g, hrk, fun hgo H1 s1 => ?_, fun hgo d H1 n s1 hd hx => ?_⟩
    · cases r with
      | bad v => cases hgo
      | row t xs =>
        refine ⟨.ref t, rfl, t, xs, rfl, .inr (.of (s1 _ _ hrk.1)), .ref st, rfl, st, rs, rfl, hst.same s1, g.nd, g.few, fun H2 p s2 hp hpt => ?_⟩
        refine ⟨p, _, rfl, .inr (.of hpt), rfl, ?_⟩
        have e1 : isOrd (boxes rs) (.row t xs) = decide (V.int ((xs.length : Nat) : Int) = V.int (((lot (boxes rs)).map V.str).length : Nat)) := by
          show (goes xs (lot (boxes rs)) && _) = _
          rw [show goes xs (lot (boxes rs)) = true from hgo, Bool.true_and, List.length_map, lot_length]
          by_cases h : xs.length = (boxes rs).length
          · rw [decide_eq_true h, decide_eq_true (by rw [h])]
          · rw [decide_eq_false h, decide_eq_false fun z => h (by have := V.int.inj z; omega)]
        rw [← e1]
        exact q H2 (s1.trans s2)
    · refine ⟨true, T2.mOO, fun _ b hb => ?_, fun z => nomatch z⟩
      have e1 : isOrd (boxes rs) r = false := by
        cases r with
        | bad v => rfl
        | row t xs =>
          show (goes xs (lot (boxes rs)) && _) = false
          rw [show goes xs (lot (boxes rs)) = false from hgo]
          rfl
      rw [e1] at q
      exact q H1 s1
end
end K34
end
section
set_option linter.all false
set_option maxRecDepth 100000
/-! In time; crowds. -/
namespace K34
open PySem PySem.Spec PyProof.Rows L2
/-- before its due -/
def due1 (ds : Pairs2) (n : Nat) (z : Str) : List Bool := match ds.lookup z with
  | none => []
  | some d => [decide ((n : Int) < d)]
def outT (ds : Pairs2) : Nat → List Str → List Bool
  | _, [] => []
  | n, z :: r => due1 ds n z ++ outT ds (n + 1) r
theorem outT_take (ds : Pairs2) : ∀ (i n : Nat) (l : List Str) (z : Str), l[i]? = some z → outT ds n (l.take (i + 1)) = outT ds n (l.take i) ++ due1 ds (n + i) z
  | _, _, [], _, h => by cases h
  | 0, n, y :: l, z, h => by
    cases (show some y = some z from h)
    show due1 ds n y ++ [] = [] ++ due1 ds (n + 0) y
    simp
  | i + 1, n, y :: l, z, h => by
    have ih := outT_take ds i (n + 1) l z h
    show due1 ds n y ++ outT ds (n + 1) (l.take (i + 1)) = (due1 ds n y ++ outT ds (n + 1) (l.take i)) ++ _
    rw [ih, List.append_assoc, show n + 1 + i = n + (i + 1) by omega]
theorem outT_len (ds : Pairs2) : ∀ (n : Nat) (l : List Str), (outT ds n l).length ≤ l.length
  | _, [] => Nat.le_refl _
  | n, z :: r => by
    have ih := outT_len ds (n + 1) r
    show (due1 ds n z ++ outT ds (n + 1) r).length ≤ _
    rw [List.length_append, List.length_cons]
    have : (due1 ds n z).length ≤ 1 := by
      unfold due1
      split
      · exact Nat.zero_le _
      · exact Nat.le_refl _
    omega
def inTime (ds : Pairs2) (l : List Str) : Bool := (outT ds 0 l).all id
section
variable {P : Program} {w : World} {K : PySem.W.Frag} {mg : Str → Option Value} {base : Heap} {a : Ad} {e : Ae}
def spInTime : Sp := fun vs H Q _ => ∃ (t d : Addr) (zs : List Str) (ds : Pairs2), vs = [.ref t, .ref d] ∧ H t = some (.tup (zs.map V.str)) ∧ PD H d ds ∧ zs.length ≤ 900 ∧ ∀ H', Same H H' → Q (.bl (inTime ds zs)) H'
theorem ok_InTime (T : Tx K mg a) : Ca P w K mg base CX0 1 "in_time" spInTime := by
  refine ca0 T.dInTime cInTime (fun vs H Q E h => ?_) (fun f cdv A outer s H vs Q E hr h => ?_)
  · obtain ⟨t, d, zs, ds, rfl, _⟩ := h
    rfl
  · obtain ⟨t, d, zs, ds, rfl, ht, hd, hz, q⟩ := h
    have hu := hu_of hr
    refine ⟨_, pss_one (ps_ret (pe_callB (cr_all rfl) (by rfl) T.m_all boot_all (pa_cons
      (pe_lc (own := [("number", 2), ("box", 3)]) (g := gTup K 2 (gCons (gName 2) (gCons (gName 3) gNil))) (tt := tB (tDIn (tVar 3) (tVar 1))) (te := tOp (rI0 fun i j => .bl (decide (i < j))) (tVar 2) (tDGet (tVar 1) (tVar 3))) rfl cInTime.nd
        (pi_enumT (by rfl) T.m_enumerate (pa_cons (pv 0) pa_nil)) (blkOk_by (N := nInTime) (sc := defScope sInTime) (by decide +kernel))
        (fun _ _ _ _ _ => by exact pg_tup rfl (pgs_cons (pg_name (i := 2) cInTime.nd rfl (Or.inl rfl)) (pgs_cons (pg_name (i := 3) cInTime.nd rfl (Or.inl rfl)) pgs_nil)))
        (fun _ _ _ _ _ => by exact pts_one (pt_cmp (pc_din hu (pv 3) (pv 1)))) (fun _ _ _ _ _ => by exact pe_cmpR op_lt (pv 2) (pe_dget hu (pv 1) (pv 3) (fun _ _ => rfl)) (nomark _))) pa_nil))), ?_⟩
    refine ⟨.ref t, rfl, t, _, rfl, .of ht, fun D hD => ?_⟩
    refine lc_it (walk_enumM (l := zs) (f := V.str)) (fun i H' => LcS H D ((outT ds 0 (zs.take i)).map V.bl) H') (LcS.zero hD) (fun i H' _ h => .of (h.1 _ _ ht)) ?_ ?_
    · rintro i x H2 H3 hi c ⟨T1, z, rfl, hT, rfl, hz1⟩
      refine ⟨T1, _, rfl, .of upd_same, rfl, .int i, [.str z], rfl, .str z, [], rfl, rfl, ?_⟩
      have e1 := outT_take ds i 0 zs z hz1
      rw [Nat.zero_add] at e1
      have s1 := same_new (o := .tup [.int ((i : Nat) : Int), .str z]) hT
      have c3 : LcS H D ((outT ds 0 (zs.take i)).map V.bl) (upd H2 T1 (.tup [.int i, .str z])) := c.to s1
      generalize upd H2 T1 (.tup [.int i, .str z]) = H3 at c3 ⊢
      have hd3 := c3.1 _ _ hd
      refine ⟨rfl, .str z, rfl, .ref d, rfl, d, _, rfl, DGet.k (k := Sum.inr z) hd3, _, rfl, ?_⟩
      rw [valV_pkv]
      cases hl : ds.lookup z with
      | none =>
        refine iteF ?_
        rw [e1, show due1 ds i z = [] by unfold due1; rw [hl], List.append_nil]
        exact c3
      | some n =>
        refine iteT ⟨.int i, rfl, .ref d, rfl, .str z, rfl, d, .int n, rfl, ?_, i, n, rfl, rfl, ?_⟩
        · have := DGet.k (k := Sum.inr z) hd3
          rw [valV_pkv, hl] at this
          exact this
        · refine LcS.step hD c3 (Same.refl _) ?_ ?_
          · rw [List.length_map]
            have h1 := outT_len ds 0 (zs.take i)
            have h2 := List.length_take_le' i zs
            exact small1000 (by omega)
          · rw [e1, show due1 ds i z = [decide ((i : Int) < n)] by unfold due1; rw [hl], List.map_append]
            rfl
    · intro H2 c
      rw [List.take_length] at c
      exact ⟨D, _, rfl, .of c.2, q H2 c.1⟩
/-! ### crowds -/
def wv (ws : Pairs2) (z : Str) : Int := (ws.lookup z).getD 0
def crowdL (ws ds : Pairs2) (f e : Int) : List Str := (ds.filter fun p => decide (f ≤ wv ws p.1) && decide (p.2 ≤ e)).map (·.1)
theorem crowd_sub (ws ds : Pairs2) (f e : Int) : (crowdL ws ds f e).Sublist (ds.map (·.1)) := List.Sublist.map _ List.filter_sublist
def spCrowded : Sp := fun vs H Q _ => ∃ (d1 d2 : Addr) (ws ds : Pairs2) (f e : Int), vs = [.ref d1, .ref d2, .int f, .int e] ∧ PD H d1 ws ∧ PD H d2 ds ∧ d1 ≠ d2 ∧ (∀ p ∈ ds, p.1 ∈ ws.map (·.1)) ∧ (ds.map (·.1)).Nodup ∧ ds.length < 64 ∧
  ∀ H' p, Same H H' → H p = none → H' p = some (.tup ((lot (crowdL ws ds f e)).map V.str)) → Q (.ref p) H'
theorem ok_Crowded (T : Tx K mg a) : Ca P w K mg base CX0 2 "crowded" spCrowded := by
  have G : Ca P w K mg base CX0 1 "lot_of" spLotOf := ok_LotOf T
  refine ca0 T.dCrowded cCrowded (fun vs H Q E h => ?_) (fun fa cdv A outer s H vs Q E hr h => ?_)
  · obtain ⟨d1, d2, ws, ds, f, e, rfl, _⟩ := h
    rfl
  · obtain ⟨d1, d2, ws, ds, f, e, rfl, h1, h2, h12, hk, hn, hz, q⟩ := h
    have hu := hu_of hr
    refine ⟨_, pss_one (ps_ret (pe_c0 G hr (by decide) (by rfl) (pa_cons (pe_lock
      (pe_lc (own := [("box", 4), ("due", 5)]) (g := gTup K 2 (gCons (gName 4) (gCons (gName 5) gNil)))
        (tt := tAnd (tTest (tOp (rI0 fun i j => .bl (decide (j ≤ i))) (tDGet (tVar 0) (tVar 4)) (tVar 2))) (tTest (tOp (rI0 fun i j => .bl (decide (i ≤ j))) (tVar 5) (tVar 3)))) (te := tVar 4) rfl cCrowded.nd
        (pi_items (pv 1)) (blkOk_by (N := nCrowded) (sc := defScope sCrowded) (by decide +kernel))
        (fun _ _ _ _ _ => by exact pg_tup rfl (pgs_cons (pg_name (i := 4) cCrowded.nd rfl (Or.inl rfl)) (pgs_cons (pg_name (i := 5) cCrowded.nd rfl (Or.inl rfl)) pgs_nil)))
        (fun _ _ _ _ _ => by exact pts_one (pw_and (pt_cmpR op_ge (pe_dget hu (pv 0) (pv 4) (fun _ _ => rfl)) (pv 2) (nomark _)) (pw_and1 (pt_cmpR op_le (pv 5) (pv 3) (nomark _)))).pt) (fun _ _ _ _ _ => by exact pv 4))) pa_nil))), ?_⟩
    refine ⟨d2, _, h2, True.intro, fun od => ?_⟩
    have frz : upd H d2 (.frz od (.dK (pkv ds))) d2 = some (.frz od (.dK (pkv ds))) := upd_same
    refine ⟨.ref d2, rfl, d2, od, pkv ds, rfl, frz, fun D hD => ?_⟩
    have nD : H D = none := by
      by_cases hb : D = d2
      · rw [hb, frz] at hD
        cases hD
      · rwa [upd_ne hb] at hD
    have h1f : PD (upd H d2 (.frz od (.dK (pkv ds)))) d1 ws := by
      unfold PD
      rw [upd_ne h12]
      exact h1
    have wlen : (pkv ds).length = ds.length := List.length_map _
    have W := walk_items (d := d2) (o := od) (kvs := pkv ds)
    rw [wlen] at W
    refine lc_it W (fun i H' => LcS (upd H d2 (.frz od (.dK (pkv ds)))) D ((crowdL ws (ds.take i) f e).map V.str) H') (LcS.zero hD) (fun i H' _ h => h.1 _ _ frz) ?_ ?_
    · rintro i x H2 H3 hi c ⟨T1, x1, x2, rfl, hT, rfl, e1, e2⟩
      obtain ⟨pr, hp⟩ : ∃ p, ds[i]? = some p := ⟨_, List.getElem?_eq_getElem hi⟩
      obtain ⟨z, n⟩ := pr
      have e3 : (pkv ds)[i]? = some (Sum.inr z, V.int n) := by
        unfold pkv
        rw [List.getElem?_map, hp]
        rfl
      have e1 : ((pkv ds)[i]?).map (fun kv => kV kv.1) = some x1 := e1
      have e2 : ((pkv ds)[i]?).map Prod.snd = some x2 := e2
      rw [e3] at e1 e2
      cases e1
      cases e2
      refine ⟨T1, _, rfl, .of upd_same, rfl, .str z, [.int n], rfl, .int n, [], rfl, rfl, ?_⟩
      have c3 : LcS (upd H d2 (.frz od (.dK (pkv ds)))) D ((crowdL ws (ds.take i) f e).map V.str) (upd H2 T1 (.tup [kV (Sum.inr z), .int n])) := c.to (same_new hT)
      generalize upd H2 T1 (.tup [kV (Sum.inr z), .int n]) = H3 at c3 ⊢
      obtain ⟨m, hm⟩ := lookup_mem (hk _ (List.mem_of_getElem? hp))
      have hm : ws.lookup z = some m := hm
      have g1 : DGet H3 d1 (.str z) (some (.int m)) := by
        have := DGet.k (k := Sum.inr z) (c3.1 _ _ h1f)
        rw [valV_pkv, hm] at this
        exact this
      have ewv : wv ws z = m := by
        unfold wv
        rw [hm]
        rfl
      have ecr : crowdL ws (ds.take (i + 1)) f e = crowdL ws (ds.take i) f e ++ if (decide (f ≤ m) && decide (n ≤ e)) = true then [z] else [] := by
        unfold crowdL
        rw [List.take_add_one, hp, List.filter_append, List.map_append]
        congr 1
        show (List.filter _ [(z, n)]).map _ = _
        rw [List.filter_cons]
        dsimp only
        rw [ewv]
        split <;> rfl
      have hlen : ((crowdL ws (ds.take i) f e).map V.str).length < sizeLine := by
        rw [List.length_map]
        have h3 := (crowd_sub ws (ds.take i) f e).length_le
        rw [List.length_map] at h3
        have h4 := List.length_take_le' i ds
        exact small1000 (by omega)
      refine ⟨rfl, .ref d1, rfl, .str z, rfl, d1, .int m, rfl, g1, .int f, rfl, m, f, rfl, rfl, _, rfl, ite2 (fun t1 => ?_) (fun t1 => ?_)⟩
      · refine ⟨.int n, rfl, .int e, rfl, n, e, rfl, rfl, _, rfl, ite2 (fun t2 => ?_) (fun t2 => ?_)⟩
        · refine ⟨.str z, rfl, ?_⟩
          refine LcS.step hD c3 (Same.refl _) hlen ?_
          rw [ecr, if_pos (by rw [t1, t2]; rfl), List.map_append]
          rfl
        · rw [ecr, if_neg (by rw [t1, Bool.true_and]; exact t2), List.append_nil]
          exact c3
      · refine iteF' (Bool.eq_false_iff.mpr Bool.false_ne_true) ?_
        rw [ecr, if_neg (by rw [Bool.eq_false_iff.mpr t1, Bool.false_and]; exact Bool.false_ne_true), List.append_nil]
        exact c3
    · intro H2 c
      rw [List.take_of_length_le (Nat.le_refl _)] at c
      refine ⟨c.1 _ _ frz, ?_⟩
      have D2 : D ≠ d2 := fun z => by
        rw [z, h2] at nD
        cases nD
      have s2 : Same H (upd H2 d2 (.dK (pkv ds))) := fun b o hb => by
        by_cases h : b = d2
        · rw [h] at hb ⊢
          rw [upd_same, ← hb]
          exact h2.symm
        · rw [upd_ne h]
          exact c.1 _ _ (by rw [upd_ne h]; exact hb)
      have hnd : (crowdL ws ds f e).Nodup := hn.sublist (crowd_sub ws ds f e)
      have hle := (crowd_sub ws ds f e).length_le
      rw [List.length_map] at hle
      refine ⟨D, crowdL ws ds f e, rfl, by rw [upd_ne D2]; exact c.2, hnd, by omega, fun H' p s' hp hpt => q H' p (s2.trans s') (s2.free hp) hpt⟩
end
end K34
end
section
set_option linter.all false
set_option maxRecDepth 100000
/-! A crowd is made, and sought. -/
namespace K34
open PySem PySem.Spec PyProof.Rows L2
def crF (f e b : V) : List (Str × V) := putF "boxes" b (putF "end" e (putF "first" f []))
theorem crF_first (f e b : V) : (crF f e b).lookup ("first" : Str) = some f := rfl
theorem crF_end (f e b : V) : (crF f e b).lookup ("end" : Str) = some e := rfl
theorem crF_boxes (f e b : V) : (crF f e b).lookup ("boxes" : Str) = some b := rfl
def CrowdAt (a : Ad) (H : Hp) (x : Addr) (f e b : V) : Prop := ∃ dx, H x = some (.ins a.C dx (crF f e b))
theorem CrowdAt.same {a : Ad} {H H' : Hp} {x : Addr} {f e b : V} (h : CrowdAt a H x f e b) (s : Same H H') : CrowdAt a H' x f e b := by
  obtain ⟨dx, h⟩ := h
  exact ⟨dx, s _ _ h⟩
section
variable {P : Program} {w : World} {K : PySem.W.Frag} {mg : Str → Option Value} {base : Heap} {a : Ad} {e : Ae}
def spCrowdInit (a : Ad) : Sp := fun vs H Q _ => ∃ (x dx : Addr) (f e b : V), vs = [.ref x, f, e, b] ∧ H x = some (.ins a.C dx []) ∧ ∀ H', But x H H' → H' x = some (.ins a.C dx (crF f e b)) → Q .non H'
theorem ok_CrowdInit (T : Tx K mg a) : ∃ f fd, Mk K a.C f ∧ FnOk P w K mg base CX0 1 f fd ["self", "first", "end", "boxes"] (spCrowdInit a) ∧ Binds K fd ["self", "first", "end", "boxes"] [] := by
  obtain ⟨fi, fd, M, F, b⟩ := T.mkC
  refine ⟨fi, fd, M, F.ok cCrowdInit (fun vs H Q E h => ?_) (fun cdv A outer s H vs Q E hr h => ?_), b⟩
  · obtain ⟨x, dx, f, e, b, rfl, _⟩ := h
    rfl
  · obtain ⟨x, dx, f, e, b, rfl, hx, q⟩ := h
    refine ⟨_, pss_cons (ps_fld (pv 0) (pv 1) rfl) (pss_cons (ps_fld (pv 0) (pv 2) rfl) (pss_one (ps_fld (pv 0) (pv 3) rfl))), ?_⟩
    refine ⟨f, rfl, .ref x, rfl, x, a.C, dx, [], rfl, hx, T.clC, T.naC1, by decide, ?_⟩
    refine ⟨e, rfl, .ref x, rfl, x, a.C, dx, _, rfl, upd_same, T.clC, T.naC2, (show (1 : Nat) < 1000 by decide), ?_⟩
    refine ⟨b, rfl, .ref x, rfl, x, a.C, dx, _, rfl, upd_same, T.clC, T.naC3, (show (2 : Nat) < 1000 by decide), ?_⟩
    exact q _ (But.upd.trans (But.upd.trans But.upd)) upd_same
/-- what stood before C(..) was made stands -/
theorem made_same {H H' : Hp} {x dx : Addr} {o : HO} (hx : H x = none) (hd : H dx = none) (b : But x (upd (upd H dx (.own x)) x o) H') : Same H H' := fun p u e => by
  have h1 := ne_of_none e hx
  refine b p u ?_ h1
  rw [upd_ne h1, upd_ne (ne_of_none e hd)]
  exact e
/-- a crowd that breaks its bounds -/
def big (ws ds : Pairs2) (f e : Nat) : Prop := e < f + (crowdL ws ds f e).length
def spFirstCrowd (a : Ad) : Sp := fun vs H Q _ => ∃ (d1 d2 : Addr) (ws ds : Pairs2), vs = [.ref d1, .ref d2] ∧ PD H d1 ws ∧ PD H d2 ds ∧ d1 ≠ d2 ∧ (∀ p ∈ ws, 0 ≤ p.2 ∧ p.2 < 1000) ∧ (ws.map (·.1)).Nodup ∧ ws.length ≤ 900 ∧ (∀ p ∈ ds, p.1 ∈ ws.map (·.1)) ∧ (ds.map (·.1)).Nodup ∧ ds.length < 64 ∧
  (∀ (f e : Nat) (x p : Addr) H', f ≤ e → e < ws.length → big ws ds f e → (∀ f' e' : Nat, f' ≤ e' → e' < ws.length → f' < f ∨ (f' = f ∧ e' < e) → ¬ big ws ds f' e') → Same H H' → H x = none → H p = none →
    CrowdAt a H' x (.int f) (.int e) (.ref p) → H' p = some (.tup ((lot (crowdL ws ds f e)).map V.str)) → Q (.ref x) H') ∧
  ((∀ f e : Nat, f ≤ e → e < ws.length → ¬ big ws ds f e) → ∀ H', Same H H' → Q .non H')
theorem crowd_none {ws ds : Pairs2} {f e : Int} (h : ∀ p ∈ ds, wv ws p.1 < f) : crowdL ws ds f e = [] := by
  unfold crowdL
  rw [List.filter_eq_nil_iff.mpr]
  · rfl
  · intro p hp
    rw [decide_eq_false (by have := h p hp; omega), Bool.false_and]
    exact Bool.false_ne_true
theorem wv_le {ws : Pairs2} {m : Int} (h0 : 0 ≤ m) (h : ∀ p ∈ ws, p.2 ≤ m) (z : Str) : wv ws z ≤ m := by
  unfold wv
  cases hl : ws.lookup z with
  | none => exact h0
  | some n => exact h _ (mem_of_lookup2 hl)
theorem ok_FirstCrowd (T : Tx K mg a) : Ca P w K mg base CX0 3 "first_crowd" (spFirstCrowd a) := by
  have G : Ca P w K mg base CX0 2 "crowded" spCrowded := ok_Crowded T
  obtain ⟨fi, fdi, M, FI, bI⟩ := ok_CrowdInit (P := P) (w := w) (base := base) T
  refine ca0 T.dFirstCrowd cFirstCrowd (fun vs H Q E h => ?_) (fun fa cdv A outer s H vs Q E hr h => ?_)
  · obtain ⟨d1, d2, ws, ds, rfl, _⟩ := h
    rfl
  · obtain ⟨d1, d2, ws, ds, rfl, h1, h2, h12, hw, hwn, hwl, hk, hn, hz, q, q0⟩ := h
    refine ⟨_, pss_cons (ps_for PassesOwn.never rfl (pi_range1 (by rfl) T.m_range (pa_cons (pe_op op_add (pe_callBK (cr_maxD rfl) (by rfl) T.m_max PyProof.Rows.boot_max (pa_cons (pe_listVals rfl (pv 0) (by rfl) T.m_list) pa_nil) (pk_cons pe_int pk_nil)) pe_int) pa_nil)) (pg_name (i := 2) cFirstCrowd.nd rfl (Or.inl rfl))
        (pss_one (ps_for PassesOwn.never rfl (pi_range2 (by rfl) T.m_range (pa_cons (pv 2) (pa_cons (pe_callB call_lenD (by rfl) T.m_len PySem.boot_len (pa_cons (pv 0) pa_nil)) pa_nil))) (pg_name (i := 3) cFirstCrowd.nd rfl (Or.inl rfl))
          (pss_cons (ps_set (i := 4) cFirstCrowd.nd rfl (.inl rfl) (pe_c0 G hr (by decide) (by rfl) (pa_cons (pv 0) (pa_cons (pv 1) (pa_cons (pv 2) (pa_cons (pv 3) pa_nil))))))
          (pss_one (ps_if (pt_cmpR op_gt (pe_callB call_len_seq (by rfl) T.m_len PySem.boot_len (pa_cons (pv 4) pa_nil)) (pe_op op_sub (pv 3) (pv 2)) (nomark _))
            (pss_one (ps_ret (pe_make M FI hr (by rfl) T.gC bI .nil pass0 (pa_cons (pv 2) (pa_cons (pv 3) (pa_cons (pv 4) pa_nil)))))) pss_nil))))))
      (pss_one (ps_ret pe_non)), ?_⟩
    refine ⟨.ref d1, rfl, d1, pkv ws, rfl, h1, fun l hl => ?_⟩
    have s1 := same_new (o := .lst ((pkv ws).map Prod.snd)) hl
    refine ⟨l, ws.map (·.2), rfl, rfl, .of (by rw [upd_same, List.map_map, List.map_map]; rfl), fun m hm0 hm1 hm2 => ?_⟩
    have hm : 0 ≤ m ∧ m < 1000 := by
      by_cases he : ws.map (·.2) = []
      · rw [hm0 he]
        exact ⟨Int.le_refl _, by decide⟩
      · obtain ⟨p, hp, rfl⟩ := List.mem_map.mp (hm1 he)
        exact hw p hp
    have hmw : ∀ z, wv ws z ≤ m := wv_le hm.1 fun p hp => hm2 _ (List.mem_map_of_mem hp)
    refine ⟨m, 1, rfl, rfl, m + 1, rfl, by omega, by omega, ?_⟩
    refine for_it (walk_range0 (n := (m + 1).toNat)) (fun i σ H' => (∃ u2 u3 u4, σ = [some (.ref d1), some (.ref d2), u2, u3, u4]) ∧ Same H H' ∧ ∀ f' e' : Nat, f' < i → f' ≤ e' → e' < ws.length → ¬ big ws ds f' e')
      ⟨⟨none, none, none, rfl⟩, s1, fun f' e' h => absurd h (Nat.not_lt_zero _)⟩ (fun _ _ _ _ _ => True.intro) ?_ ?_
    · rintro i x σ H2 H3 hi ⟨⟨u2, u3, u4, rfl⟩, s2, no⟩ ⟨rfl, rfl⟩
      refine ⟨.int i, rfl, .ref d1, rfl, d1, _, rfl, h1.same s2, i, _, rfl, ⟨by omega, by omega, by rw [List.length_map]; omega, by rw [List.length_map]; omega⟩, ?_⟩
      rw [List.length_map]
      refine for_it (walk_rangeN (lo := i) (n := (((ws.length : Nat) : Int) - (i : Nat)).toNat)) (fun k σ H' => (∃ u3 u4, σ = [some (.ref d1), some (.ref d2), some (.int (i : Nat)), u3, u4]) ∧ Same H H' ∧ ∀ k' : Nat, k' < k → ¬ big ws ds i (i + k'))
        ⟨⟨_, _, rfl⟩, s2, fun k' h => absurd h (Nat.not_lt_zero _)⟩ (fun _ _ _ _ _ => True.intro) ?_ ?_
      · rintro k x σ H4 H5 hkk ⟨⟨u3, u4, rfl⟩, s4, no4⟩ ⟨rfl, rfl⟩
        have hlt : i + k < ws.length := by omega
        refine ⟨.ref d1, rfl, .ref d2, rfl, .int i, rfl, .int ((i + k : Nat) : Int), rfl, d1, d2, ws, ds, i, ((i + k : Nat) : Int), rfl, h1.same s4, h2.same s4, h12, hk, hn, hz, fun H6 p s6 hp hpt => ?_⟩
        have s46 := s4.trans s6
        refine ⟨.ref p, rfl, p, _, rfl, .inr (.of hpt), .int ((i + k : Nat) : Int), rfl, .int i, rfl, _, _, rfl, rfl, _, _, rfl, rfl, _, rfl, ?_⟩
        rw [List.length_map, lot_length]
        refine ite2 (fun hb => ?_) (fun hb => ?_)
        · have hb := of_decide_eq_true hb
          have hbig : big ws ds i (i + k) := by
            unfold big
            omega
          refine ⟨.int i, rfl, .int ((i + k : Nat) : Int), rfl, .ref p, rfl, fun x dx hx hdx hne => ?_⟩
          refine ⟨x, dx, .int i, .int ((i + k : Nat) : Int), .ref p, rfl, upd_same, fun H7 b7 hx7 => ⟨rfl, ?_⟩⟩
          have s67 := made_same hx hdx b7
          refine q i (i + k) x p H7 (by omega) hlt hbig (fun f' e' h1' h2' h3' => ?_) (s46.trans s67) (s46.free hx) (s4.free hp) ⟨dx, hx7⟩ (s67 _ _ hpt)
          rcases h3' with h3' | ⟨rfl, h3'⟩
          · exact no f' e' h3' h1' h2'
          · have := no4 (e' - f') (by omega)
            rwa [show f' + (e' - f') = e' by omega] at this
        · have hb : ¬ big ws ds i (i + k) := fun z => hb (decide_eq_true (by unfold big at z; omega))
          refine ⟨⟨_, _, rfl⟩, s46, fun k' hk' => ?_⟩
          by_cases e1 : k' = k
          · rw [e1]
            exact hb
          · exact no4 k' (by omega)
      · rintro σ H4 ⟨⟨u3, u4, rfl⟩, s4, no4⟩
        refine ⟨⟨_, _, _, rfl⟩, s4, fun f' e' h1' h2' h3' => ?_⟩
        by_cases e1 : f' = i
        · subst e1
          have := no4 (e' - f') (by omega)
          rwa [show f' + (e' - f') = e' by omega] at this
        · exact no f' e' (by omega) h2' h3'
    · rintro σ H2 ⟨⟨u2, u3, u4, rfl⟩, s2, no⟩
      refine q0 (fun f e hfe he hb => ?_) H2 s2
      by_cases hf : f < (m + 1).toNat
      · exact no f e hf hfe he hb
      · unfold big at hb
        rw [crowd_none fun p hp => by have := hmw p.1; omega] at hb
        simp at hb
        omega
end
end K34
end
section
set_option linter.all false
set_option maxRecDepth 100000
/-! == and != against the empty list and the empty tuple. -/
namespace K34
open PySem PySem.Spec PyProof.Rows L2
def rEmp (K : PySem.W.Frag) (f : Bool → Bool) : R2 := fun x y H Q => ∃ p q xs, x = .ref p ∧ y = .ref q ∧ ((SqL K H p xs ∧ SqL K H q []) ∨ (SqT K H p xs ∧ SqT K H q [])) ∧ Q (.bl (f xs.isEmpty)) H
section
variable {X : Cx}
theorem op_neE (hu : X.A.units < cLine) : OpR X (compareOp .NotEq) (rEmp X.K not) := by
  intro pins s σ H x y v u Q I rx ry h
  obtain ⟨p, q', xs, rfl, rfl, h, q⟩ := h
  cases rx
  cases ry
  rcases h with ⟨h1, h2⟩ | ⟨h1, h2⟩
  · obtain ⟨as, r1, l1, z1⟩ := I.list h1
    obtain ⟨bs, r2, l2, z2⟩ := I.list h2
    have e2 := r2.length
    have e1 := r1.length
    cases xs with
    | nil =>
      have ha : as = [] := List.eq_nil_of_length_eq_zero e1.symm
      have hb : bs = [] := List.eq_nil_of_length_eq_zero e2.symm
      subst ha hb
      exact SeqAt.RcNeAt.lists (e := fun _ => true) l1.isList l2.isList rfl hu (fun j h1 h2 => absurd h1 (Nat.not_lt_zero _)) _ _ _ _ ⟨.bl _, H, I, rfl, q⟩
    | cons x xs =>
      refine SeqAt.RcNeAt.lists_lengths l1.isList l2.isList ?_ hu _ _ _ _ ⟨.bl _, H, I, rfl, q⟩
      have hb : bs = [] := List.eq_nil_of_length_eq_zero e2.symm
      subst hb
      cases as with
      | nil => cases e1
      | cons a as => simp
  · obtain ⟨as, r1, l1, z1⟩ := I.tuple h1
    obtain ⟨bs, r2, l2, z2⟩ := I.tuple h2
    have e2 := r2.length
    have e1 := r1.length
    have hb : bs = [] := List.eq_nil_of_length_eq_zero e2.symm
    subst hb
    refine SeqAt.RcNeAt.tuples (e := fun _ => true) l1 l2 hu (fun j h1 h2 => absurd h2 (Nat.not_lt_zero _)) _ _ _ _ ⟨.bl _, H, I, ?_, q⟩
    show Value.bool _ = Value.bool _
    cases xs with
    | nil =>
      have ha : as = [] := List.eq_nil_of_length_eq_zero e1.symm
      subst ha
      rfl
    | cons x xs =>
      cases as with
      | nil => cases e1
      | cons a as => simp
theorem op_eqE (hu : X.A.units < cLine) : OpR X (compareOp .Eq) (rEmp X.K id) := by
  intro pins s σ H x y v u Q I rx ry h
  obtain ⟨p, q', xs, rfl, rfl, h, q⟩ := h
  cases rx
  cases ry
  rcases h with ⟨h1, h2⟩ | ⟨h1, h2⟩
  · obtain ⟨as, r1, l1, z1⟩ := I.list h1
    obtain ⟨bs, r2, l2, z2⟩ := I.list h2
    have e2 := r2.length
    have e1 := r1.length
    cases xs with
    | nil =>
      have ha : as = [] := List.eq_nil_of_length_eq_zero e1.symm
      have hb : bs = [] := List.eq_nil_of_length_eq_zero e2.symm
      subst ha hb
      exact SeqAt.RcAt.lists (e := fun _ => true) l1.isList l2.isList rfl hu (fun j h1 h2 => absurd h1 (Nat.not_lt_zero _)) _ _ _ _ ⟨.bl _, H, I, rfl, q⟩
    | cons x xs =>
      refine SeqAt.RcAt.lists_lengths l1.isList l2.isList ?_ hu _ _ _ _ ⟨.bl _, H, I, rfl, q⟩
      have hb : bs = [] := List.eq_nil_of_length_eq_zero e2.symm
      subst hb
      cases as with
      | nil => cases e1
      | cons a as => simp
  · obtain ⟨as, r1, l1, z1⟩ := I.tuple h1
    obtain ⟨bs, r2, l2, z2⟩ := I.tuple h2
    have e2 := r2.length
    have e1 := r1.length
    have hb : bs = [] := List.eq_nil_of_length_eq_zero e2.symm
    subst hb
    refine SeqAt.RcAt.tuples (e := fun _ => true) l1 l2 hu (fun j h1 h2 => absurd h2 (Nat.not_lt_zero _)) _ _ _ _ ⟨.bl _, H, I, ?_, q⟩
    show Value.bool _ = Value.bool _
    cases xs with
    | nil =>
      have ha : as = [] := List.eq_nil_of_length_eq_zero e1.symm
      subst ha
      rfl
    | cons x xs =>
      cases as with
      | nil => cases e1
      | cons a as => simp
end
/-! ### a def's promise with the def -/
structure CaF (P : Program) (w : World) (K : PySem.W.Frag) (mg : Str → Option Value) (base : Heap) (CX : CXT) (k : Nat) (x : Str) (st : Stmt) (ps : List Str) (sp : Sp) : Prop where
  ex : ∃ f fd, Fun K x x st f fd ∧ mg x = some (.ref f) ∧ Binds K fd ps [] ∧ FnOk P w K mg base CX k f fd ps sp
theorem CaF.ca {P : Program} {w : World} {K : PySem.W.Frag} {mg : Str → Option Value} {base : Heap} {CX : CXT} {k : Nat} {x : Str} {st : Stmt} {ps : List Str} {sp : Sp} (c : CaF P w K mg base CX k x st ps sp) : Ca P w K mg base CX k x sp := by
  obtain ⟨f, fd, F, g, b, o⟩ := c.ex
  exact ⟨f, fd, ps, o, g, F.kp, b⟩
theorem caXF {P : Program} {w : World} {K : PySem.W.Frag} {mg : Str → Option Value} {base : Heap} {x : Str} {st : Stmt} {N ps : List Str} {k : Nat} {sp : Sp} (D : Df K mg x st ps) (S : FnScope N ps (defScope st)) (len : ∀ vs H Q E, sp vs H Q E → vs.length = ps.length)
    (hbody : ∀ (f : Addr) (cdv : Value) (A : Around) (outer : List Env) (s : Shared) (H : Hp) (vs : List V) (Q : VK) (E : XK), Room k (A.deeper (envOfC x (defScope st) s.heap.objs.size f cdv)) → sp vs H Q E →
      ∃ t, PSs (cxOf (L2.CX P w) P w K mg base N x (defScope st) f cdv A outer s H E) (defBody st) t ∧ t { nx := fun _ H' => Q .non H', rt := Q } (start N vs) H) : CaF P w K mg base (L2.CX P w) (k + 1) x st ps sp := by
  obtain ⟨f, fd, F, g, b⟩ := D.ex
  exact ⟨f, fd, F, g, b, F.okX S len fun cdv A outer s H vs Q E hr h => hbody f cdv A outer s H vs Q E hr h⟩
section
variable {X : Cx} {CX : CXT} {k j : Nat} {x : Str} {st : Stmt} {ps ks : List Str} {sp : Sp} {E : XK} {p pos : Pos} {kws : List Keyword} {tk : TA} {g : List Value → List Value → List Value} {gV : List V → List V → List V}
/-- f(k = v, ..) -/
theorem pe_cK0 (c : CaF X.prog X.w X.K X.mg X.base CX k x st ps sp) (hr : Room j X.A) (hkj : k ≤ j) (hx : Passes CX X E) (hb : ∀ f fd, Fun X.K x x st f fd → KBinds X.K fd ps ks g gV) (hg : Gl X x) (hkw : PK X kws tk)
    (hall : (backToKw pos (keywordEach kws X.env)).all (·.1.isSome) = true := by rfl) (hks : (backToKw pos (keywordEach kws X.env)).filterMap (·.1) = ks := by rfl) (hdb : (x == ("__debug__" : Str)) = false := by decide)
    (hpl : ((backTo pos (starEach [] X.env)).any (·.1) || (backToKw pos (keywordEach kws X.env)).any (·.1.isNone)) = false := by rfl) :
    PE X (.Call (.Name x p) [] kws pos) (tCallK sp gV E tNil tk) := by
  obtain ⟨f, fd, F, hm, _, o⟩ := c.ex
  refine ⟨fun pins s σ H Q I h => ?_⟩
  refine wpAny_Call_Name_kw (ld_glob I hg hm ?_ hdb)
  refine PySem.W.callWith_KW0 (h₀ := X.base) I.ok.mod.kin F.kp hall ?_ hpl
  refine thn (hkw.run pos pins s σ H _ I h) fun ws s2 ⟨zs, H2, I2, rz, q2⟩ => ⟨I2.kIn, ?_⟩
  rw [hks]
  exact run_fnk (us := []) (vs := []) o (hr.mono hkj) (hb f fd F) hx I2 .nil rz q2
end
end K34
end
section
set_option linter.all false
set_option maxRecDepth 100000
/-! min(xs, key=lambda name: (table[name], name)) over texts. -/
namespace K34
open PySem PySem.Spec PyProof.Rows L2
/-- the first by (d, z) -/
def keyLt (a b : Int × Str) : Bool := PySem.W.dataLt (.tuple [.int a.1, .str a.2]) (.tuple [.int b.1, .str b.2])
theorem keyLt_is (a b : Int × Str) : keyLt a b = if a.1 = b.1 then ltS a.2 b.2 else decide (a.1 < b.1) := by
  unfold keyLt
  rw [PySem.W.dataLt_pair (by simp [PySem.W.alike]) (by simp [PySem.W.alike]), PySem.W.dataLt_int, PySem.W.dataLt_str]
  simp only [PyData.eqv, beq_iff_eq]
  by_cases h : a.1 = b.1
  · rw [if_pos h, if_pos h]
    by_cases e : a.2 = b.2
    · rw [if_pos e, e, ordS.irr]
    · rw [if_neg e]
      rfl
  · rw [if_neg h, if_neg h]
theorem keyLt_irr (a : Int × Str) : keyLt a a = false := by rw [keyLt_is, if_pos rfl, ordS.irr]
theorem keyLt_no {a b : Int × Str} : keyLt a b = false ↔ b.1 < a.1 ∨ (b.1 = a.1 ∧ ltS a.2 b.2 = false) := by
  rw [keyLt_is]
  by_cases h : a.1 = b.1
  · rw [if_pos h]
    exact ⟨fun q => .inr ⟨h.symm, q⟩, fun q => q.elim (fun q => absurd q (by omega)) fun q => q.2⟩
  · rw [if_neg h, decide_eq_false_iff_not]
    exact ⟨fun q => .inl (by omega), fun q => q.elim (fun q => by omega) fun q => absurd q.1.symm h⟩
theorem keyLt_neg {a b c : Int × Str} (h : keyLt a b = false) (k : keyLt b c = false) : keyLt a c = false := by
  rw [keyLt_no] at h k ⊢
  rcases h with h | ⟨h1, h2⟩ <;> rcases k with k | ⟨k1, k2⟩
  · exact .inl (by omega)
  · exact .inl (by omega)
  · exact .inl (by omega)
  · exact .inr ⟨by omega, ordS.neg _ _ _ h2 k2⟩
theorem keyLt_asym {a b : Int × Str} (h : keyLt a b = true) : keyLt b a = false := by
  rw [keyLt_is] at h ⊢
  by_cases e : a.1 = b.1
  · rw [if_pos e] at h
    rw [if_pos e.symm]
    exact ordS.asym _ _ h
  · rw [if_neg e] at h
    rw [if_neg (Ne.symm e)]
    have := of_decide_eq_true h
    exact decide_eq_false (by omega)
theorem best_least {bt : Nat → Nat → Bool} (irr : ∀ i, bt i i = false) (asym : ∀ i j, bt i j = true → bt j i = false) (neg : ∀ i j k, bt i j = false → bt j k = false → bt i k = false) : ∀ k j, j ≤ k → bt j (argBest bt k) = false
  | 0, j, h => by
    obtain rfl : j = 0 := by omega
    exact irr 0
  | k + 1, j, h => by
    have ih := best_least irr asym neg k
    show bt j (if bt (k + 1) (argBest bt k) = true then k + 1 else argBest bt k) = false
    by_cases e : bt (k + 1) (argBest bt k) = true
    · rw [if_pos e]
      by_cases hj : j = k + 1
      · rw [hj]
        exact irr _
      · exact neg _ _ _ (ih j (by omega)) (asym _ _ e)
    · rw [if_neg e]
      by_cases hj : j = k + 1
      · rw [hj]
        exact Bool.eq_false_iff.mpr e
      · exact ih j (by omega)
theorem best_lt {bt : Nat → Nat → Bool} : ∀ k, argBest bt k ≤ k
  | 0 => Nat.le_refl _
  | k + 1 => by
    show (if bt (k + 1) (argBest bt k) = true then k + 1 else argBest bt k) ≤ k + 1
    split
    · exact Nat.le_refl _
    · exact Nat.le_succ_of_le (best_lt k)
def tupO (d : Value) (z : Value) : Obj := { cls := .type "tuple", data := .seq #[d, z] }
section
variable {prog : Program} {w : World} {A : Around} {E : Value → Shared → Prop} {s : Shared} {f c' ct d : Addr} {q : Str} {params : Arguments} {scope : Scope} {clos : List (Str × Addr)} {pm ctv : Value} {p1 p2 p3 p4 p5 : Pos} 
/-- the lambda stands at f, its table is the dict at d -/
structure LamAt (prog : Program) (w : World) (h : Heap) (f c' ct d : Addr) (q : Str) (params : Arguments) (body : Expr) (scope : Scope) (clos : List (Str × Addr)) (pm ctv : Value) (vs : List (Key × Value)) : Prop where
  at_ : h.get? f = some (PySem.W.kla_obj "<lambda>" q params body scope clos pm c' ctv)
  code : h.CodeRec (.ref c') q
  clo : clos.lookup ("table" : Str) = some ct
  cell : h.IsCell ct (some (.ref d))
  tab : h.DictOf (mixKind prog w) d vs
  lim : h.NoLimit
structure LamT (params : Arguments) (bd : Expr) (scope : Scope) : Prop where
  kind : scope.kind = .function
  co : scope.isCoroutine = false
  gen : scope.isGenerator = false
  noC : ∀ y ∈ scope.names, y.2 ≠ .cell
  nm : scope.names.lookup ("name" : Str) = some .local
  tb : scope.names.lookup ("table" : Str) = some .free
  body : ∃ p1 p2 p3 p4 p5 x1, bd = .Tuple [.Subscript (.Name "table" p1) (.Name "name" p2) p3, .Name "name" p4] x1 p5
  bind : ∀ (q : Str) (clos : List (Str × Addr)) (pm cv ctv v : Value), bindArgs (PySem.W.kla_fn "<lambda>" q params bd scope clos pm cv ctv) ⟨[v], []⟩ = pure [(("name" : Str), v)]
theorem dictOf_keeps {h h' : Heap} {vs : List (Key × Value)} (D : h.DictOf (mixKind prog w) d vs) (k : ∀ b o, h.get? b = some o → h'.get? b = some o) : h'.DictOf (mixKind prog w) d vs := by
  obtain ⟨o, es, ep, e, r⟩ := D
  exact ⟨o, es, ep, k _ _ e, r⟩
theorem lam_turn {body : Expr} {vs : List (Key × Value)} {z : Str} {tz : Tok} {dv : Value} {Q : Value → Shared → Prop} (T : LamT params body scope) (L : LamAt prog w s.heap f c' ct d q params body scope clos pm ctv vs) (hroom : A.depth < recursionLimit)
    (hv : valueAt vs (.inr z) = some dv) (hq : ∀ h' tk, (∀ b o, s.heap.get? b = some o → h'.get? b = some o) → ∀ a, h'.get? a = some (tupO dv (.str z tz)) → s.toks ≤ tk → s.heap.objs.size ≤ a → Q (.ref a) { s with heap := h', toks := tk }) :
    wpAny (model prog w) A (call (.ref f) [.str z tz]) Q E s := by
  obtain ⟨p1, p2, p3, p4, p5, x1, rfl⟩ := T.body
  refine wpAny_call (PySem.W.kla_callFunE hroom L.at_ rfl T.co T.gen rfl L.code ?_)
  rw [T.bind]
  refine wpAny_pure (wpAny_newFunctionEnv T.noC (fun y hy => ?_) (fun h1 hns hsb => ⟨L.lim.fresh _ hsb, ?_⟩) T.kind)
  · rcases List.mem_cons.mp hy with rfl | hy
    · exact T.nm
    · cases hy
  have k1 : ∀ b o, s.heap.get? b = some o → h1.get? b = some o := fun b o e => hsb.extBut b o (Nat.ne_of_lt (Heap.lt_size e)) (Heap.get?_push_of_some _ e)
  have lt1 : s.heap.objs.size < h1.objs.size := hns.lt
  show codeAny _ _ (.expr _ (PySem.W.envX q scope s.heap.objs.size f (.ref c') clos)) _ _
  refine PySem.W.kla_codeExpr (wpAny_Tuple_spliced (spliced_more ?_ rfl))
  have hloc : ∀ {pos : Pos} {t2 : Nat} {Q' : Value → Shared → Prop} {E' : Value → Shared → Prop}, Q' (.str z tz) { s with heap := h1, toks := t2 } →
      wpAny (model prog w) (A.deeper (PySem.W.envX q scope s.heap.objs.size f (.ref c') clos)) (eval (.Name "name" pos) (PySem.W.envX q scope s.heap.objs.size f (.ref c') clos)) Q' E' { s with heap := h1, toks := t2 } := fun hq' =>
    wpAny_Name (wpAny_loadName_local (m := fun y => (List.reverse [(("name" : Str), Value.str z tz)]).lookup y) T.kind T.nm hns rfl hq') (by decide)
  refine subD_of PySem.F.slot_dict_getitem.lookup (fun _ _ => rfl) (wpAny_Name (wpAny_loadName_free T.kind T.tb L.clo (L.cell.keeps k1) (hloc ⟨(dictOf_keeps L.tab k1).typeIs, ?_⟩)) (by decide))
  refine wpAny_getItem_of (mixKind_str prog w z tz) (dictOf_keeps L.tab k1).mapOf hv ?_
  refine spliced_more (hloc (spliced_none ⟨?_, ?_⟩)) rfl
  · rw [sizeLine_eq]
    exact (by decide : 2 ≤ 16777216)
  · refine hq _ _ (fun b o e => Heap.get?_push_of_some _ (k1 b o e)) _ (Heap.get?_push_size _ rfl) ?_ (Nat.le_of_lt lt1)
    simp only [List.length_cons, List.length_nil]
    omega
end
section
variable {prog : Program} {w : World} {A : Around} {E : Value → Shared → Prop} {s : Shared} {f c' ct d l : Addr} {q : Str} {params : Arguments} {body : Expr} {scope : Scope} {clos : List (Str × Addr)} {pm ctv : Value} {vs : List (Key × Value)}
theorem LamAt.keeps {h h' : Heap} (L : LamAt prog w h f c' ct d q params body scope clos pm ctv vs) (k : ∀ b o, h.get? b = some o → h'.get? b = some o) : LamAt prog w h' f c' ct d q params body scope clos pm ctv vs :=
  ⟨k _ _ L.at_, L.code.keeps k, L.clo, L.cell.keeps k, dictOf_keeps L.tab k, L.lim.keeps k⟩
theorem min_raw {zs : List (Int × Str)} {us : Array Value} {Q : Value → Shared → Prop} (T : LamT params body scope) (L : LamAt prog w s.heap f c' ct d q params body scope clos pm ctv vs) (hh : A.handled = none) (hroom : A.depth < recursionLimit) (hu : A.units + 4 < cLine)
    (hl : s.heap.IsList l us) (hz : us.size = zs.length) (he : ∀ i u, us[i]? = some u → ∃ t, u = Value.str (zs.getD i (0, "")).2 t) (hv : ∀ i, i < zs.length → ∃ t, valueAt vs (.inr (zs.getD i (0, "")).2) = some (.int (zs.getD i (0, "")).1 t)) (h0 : zs ≠ [])
    (hq : ∀ h' tk i t, i < zs.length → (∀ j, j < zs.length → keyLt (zs.getD j (0, "")) (zs.getD i (0, "")) = false) → (∀ b o, s.heap.get? b = some o → h'.get? b = some o) → Q (.str (zs.getD i (0, "")).2 t) { s with heap := h', toks := tk }) :
    wpAny (model prog w) A (call (.builtin "min") [.ref l] [(Str.ofString "key", .ref f)]) Q E s := by
  have hn : 0 < zs.length := List.length_pos_iff.mpr h0
  have size_of : ∀ {h1 h2 : Heap} {b : Addr} {o : Obj}, h1.get? b = some o → (∀ b o, h1.get? b = some o → h2.get? b = some o) → b < h2.objs.size := fun e k => Heap.lt_size (k _ _ e)
  refine call_min_walkK (PySem.W.iter_listW (A := A.in1) hh hl fun s2 e2 W st0 hfp hI k2 => ?_)
  subst e2
  refine ⟨_, _, _, _, _, _, _, (fun s' => (∀ b o, s.heap.get? b = some o → s'.heap.get? b = some o) ∧ s'.gens = s.gens ∧ s'.drawn = s.drawn ∧ s'.os = s.os),
    (fun i k s' => ∃ a td tz, k = .ref a ∧ s'.heap.get? a = some (tupO (.int (zs.getD i (0, "")).1 td) (.str (zs.getD i (0, "")).2 tz)) ∧ a ∉ ((s.heap.push { cls := .type "list_iterator", data := .fields #[.ref l, .int 0 0] }).objs.size :: [s.heap.objs.size])),
    (fun i j => keyLt (zs.getD i (0, "")) (zs.getD j (0, ""))), rfl, W, st0, hfp, by rw [hz]; exact hn, ⟨?_, ?_, ?_, ?_⟩, ⟨k2, rfl, rfl, rfl⟩, ?_⟩
  · intro s1 s' ⟨j1, j2, j3, j4⟩ hm
    refine ⟨fun b o e => hm.heap b o (fun hb => ?_) (j1 b o e), hm.gens.trans j2, hm.drawn.trans j3, hm.os.trans j4⟩
    have := Heap.lt_size e
    rcases List.mem_cons.mp hb with z | z
    · rw [z, Heap.size_push] at this
      exact absurd this (Nat.not_lt.mpr (Nat.le_succ _))
    · rw [List.mem_singleton.mp z] at this
      exact Nat.lt_irrefl _ this
  · intro i k s1 s' ⟨a, td, tz, e1, e2, e3⟩ hm
    exact ⟨a, td, tz, e1, hm.heap _ _ e3 e2, e3⟩
  · intro i v s1 o Q' E' hi hP ⟨j1, j2, j3, j4⟩ hst hS hk
    obtain ⟨t, rfl⟩ := he i v hP
    obtain ⟨td, hd⟩ := hv i (by rw [← hz]; exact hi)
    have hIt : s.heap.objs.size < s1.heap.objs.size := by
      obtain ⟨⟨o', e', _⟩, _⟩ := hst
      exact Heap.lt_size e'
    refine lam_turn T (L.keeps j1) hroom hd fun h' tk k' a ha htk hsz => ?_
    refine hk _ _ ⟨fun b o e => k' b o (j1 b o e), j2, j3, j4⟩ (W.frame _ _ _ _ hst htk fun b _ o e => k' b o e) (k' _ _ hS) ⟨a, td, t, rfl, ha, fun hm => ?_⟩ fun j k0 ⟨a', td', tz', e1, e2, e3⟩ => ⟨a', td', tz', e1, k' _ _ e2, e3⟩
    have hSl := Heap.lt_size hS
    rcases List.mem_cons.mp hm with z | z
    · rw [z] at hsz
      exact Nat.lt_irrefl _ (Nat.lt_of_lt_of_le hSl hsz)
    · rw [List.mem_singleton.mp z] at hsz
      exact Nat.lt_irrefl _ (Nat.lt_of_lt_of_le hIt hsz)
  · intro i j ki kj s1 Q' E' _ ⟨a, td, tz, e1, e2, _⟩ ⟨a2, td2, tz2, e3, e4, _⟩ hQ
    subst e1
    subst e3
    exact PySem.W.rcLt_alike _ _ A.in1 s1 _ _ _ _ (.tuple e2 rfl rfl (.cons (.int _ _) (.cons (.str _ _) .nil))) (.tuple e4 rfl rfl (.cons (.int _ _) (.cons (.str _ _) .nil))) (by simp [PySem.W.alike, PySem.W.alikeAll]) (by simp)
      (by simp only [PyData.depth, PyData.depthAll]; show A.units + 1 + _ < cLine; omega) prog w E' Q' hQ
  · intro v s' hP ⟨j1, j2, j3, j4⟩
    obtain ⟨t, rfl⟩ := he _ v hP
    have hb := best_lt (bt := fun i j => keyLt (zs.getD i (0, "")) (zs.getD j (0, ""))) (us.size - 1)
    obtain ⟨hh', g', d', t', o'⟩ := s'
    dsimp only at j2 j3 j4
    subst j2 j3 j4
    refine hq hh' t' _ t (by omega) (fun j hj => ?_) j1
    exact best_least (bt := fun i j => keyLt (zs.getD i (0, "")) (zs.getD j (0, ""))) (fun i => keyLt_irr _) (fun i j => keyLt_asym) (fun i j k => keyLt_neg) _ j (by omega)
end
end K34
end
section
set_option linter.all false
set_option maxRecDepth 100000
namespace K34
open PySem PySem.Spec PyProof.Rows L2 LamX
/-- min(e, key=lambda name: (table[name], name)), table in slot it, a dict: the texts' own place among their dues -/
def tMinK (T : List (Addr × Str)) (it : Nat) (te : TE) : TE := fun σ H Q => te σ H fun x H1 => ∃ (l d : Addr) (zs : List (Int × Str)) (kvs : List (Key × V)), x = .ref l ∧ H1 l = some (.lst (zs.map fun p => V.str p.2)) ∧ σ[it]? = some (some (.ref d)) ∧ H1 d = some (.dK kvs) ∧
  (∀ p ∈ zs, valV kvs (.inr p.2) = some (.int p.1)) ∧ zs ≠ [] ∧ Tabs T H1 ∧ ∀ (H2 : Hp) (p : Int × Str), ExtN H1 H2 → Tabs T H2 → p ∈ zs → (∀ q ∈ zs, keyLt q p = false) → Q (.str p.2) H2
theorem getD_mem {A : Type} {l : List A} {i : Nat} {d : A} (h : i < l.length) : l.getD i d ∈ l := by
  rw [List.getD_eq_getElem?_getD, List.getElem?_eq_getElem h]
  exact List.getElem_mem h
theorem pe_minK {X : Cx} {T : List (Addr × Str)} {c P : Addr} {it k : Nat} {e : Expr} {te : TE} {params : Arguments} {body : Expr} {scope : Scope} {lpos p pos kp : Pos} (hc : X.calm = true) (hr : Room k X.A) (hg : Gl X "min") (hm : X.mg "min" = none)
    (hN : X.N[it]? = some "table") (hvt : Vis X.env.scope "table") (he : PE X e te) (LT : LamT params body scope) (hsub : ∀ y ∈ scope.names, y.2 = .free → X.env.scope.names.lookup y.1 = some .cell ∨ X.env.scope.names.lookup y.1 = some .free)
    (TB : TabB X.base X.mg c P) (hcode : X.env.code = .ref c) (hmT : (P, X.env.qual ++ "<lambda>") ∈ T) (hu : ∀ p ∈ T, p.1 = P → p.2 = X.env.qual ++ "<lambda>") (hdef : defaultsOf params X.env = ([], []))
    (h1 : backTo pos (starEach (e :: []) X.env) = (false, eval e X.env) :: backTo pos (starEach [] X.env) := by rfl) (hpl : (backTo pos (starEach (e :: []) X.env)).any (·.1) = false := by rfl)
    (hall : (backToKw pos (keywordEach [⟨some "key", .Lambda params body scope lpos, kp⟩] X.env)).all (·.1.isSome) = true := by rfl) (hnone : (backToKw pos (keywordEach [⟨some "key", .Lambda params body scope lpos, kp⟩] X.env)).any (·.1.isNone) = false := by rfl)
    (hst : starEach (e :: []) X.env = (false, eval e X.env) :: starEach [] X.env := by rfl)
    (hks : (backToKw pos (keywordEach [⟨some "key", .Lambda params body scope lpos, kp⟩] X.env)).filterMap (·.1) = [("key" : Str)] := by rfl) :
    PE X (.Call (.Name "min" p) [e] [⟨some "key", .Lambda params body scope lpos, kp⟩] pos) (tMinK T it te) := by
  refine ⟨fun pins s σ H Q I h => ?_⟩
  refine wpAny_Call_Name_kw (ld_blt I hg hm PyProof.Rows.Boot.«min» ?_ (by decide) (by decide))
  refine PyProof.Rows.callWith_kw (spliced_more (thn (he.run pins s σ H _ I h) fun u s1 ⟨x, H1, I1, r1, q1⟩ => spliced_none ?_) hst) h1 hpl hall hnone
  rw [hks]
  obtain ⟨l, d, zs, kvs, rfl, hl, ht, hd, hv, h0, hT, q⟩ := q1
  obtain rfl : u = Value.ref l := r1
  have hfree : ∀ y ∈ scope.names, y.2 = .free → ∃ c, X.env.cells.lookup y.1 = some c := fun y hy e => (hsub y hy e).elim (fun z => I1.ok.has _ (.inl z)) fun z => I1.ok.has _ (.inr z)
  refine PyProof.Rows.kws_cons (lam_make2 I1 TB hcode hmT hu hT hdef hfree fun f c' pm ctv H2 s2 I2 eN T2 hf hfn hfr hco => PyProof.Rows.kws_nil ?_)
  show wpAny _ _ (call (.builtin "min") [.ref l] [(("key" : Str), .ref f)]) _ _ _
  -- the list, the dict, the cell
  have hl2 : H2 l = some (.lst (zs.map fun p => V.str p.2)) := eN _ _ hl fun ps z => by cases z
  have hd2 : H2 d = some (.dK kvs) := eN _ _ hd fun ps z => by cases z
  obtain ⟨hz, its, n, rv, hat⟩ : ObjOk X.prog X.w H2 s2.heap l (.lst (zs.map fun p => V.str p.2)) := I2.hok l _ hl2
  obtain ⟨_, _, dvs, rel, dd⟩ := dk_of I2.hok hd2
  obtain ⟨⟨oc, cvs, t, hoc, hcd, hcv⟩, _, _⟩ : ObjOk X.prog X.w H2 s2.heap c' (CodeO c' (X.env.qual ++ "<lambda>")) := I2.hok c' _ hco
  obtain ⟨m, hn, hlk⟩ := id I2.loc
  obtain ⟨w', rw', qc⟩ := hlk it "table" (.ref d) hN ht hvt
  obtain rfl : w' = Value.ref d := rw'
  have vis : X.env.scope.names.lookup ("table" : Str) = some .cell ∨ X.env.scope.names.lookup ("table" : Str) = some .free := hsub (("table" : Str), .free) (PySem.mem_of_lookup LT.tb) rfl
  obtain ⟨ct, hct, hcell⟩ : ∃ c, X.env.cells.lookup ("table" : Str) = some c ∧ s2.heap.IsCell c (some (.ref d)) := by
    rcases qc with ⟨k', _⟩ | ⟨_, c3, e', z⟩
    · have k' : X.env.scope.names.lookup ("table" : Str) = some .local := k'
      rcases vis with v | v <;> rw [v] at k' <;> cases k'
    · exact ⟨c3, e', z⟩
  have clo : (cloFrom X.env.cells scope.names []).lookup ("table" : Str) = some ct := by
    have hy : (("table" : Str), NameKind.free) ∈ scope.names := PySem.mem_of_lookup LT.tb
    obtain ⟨c4, h4⟩ := mem_lookup (cloFrom_has (cells := X.env.cells) (acc := []) hy)
    rw [h4]
    rcases cloFrom_mem (PySem.mem_of_lookup h4) with hm' | ⟨_, h5⟩
    · cases hm'
    · rw [h5, hct]
      rfl
  have L : LamAt X.prog X.w s2.heap f c' ct d (X.env.qual ++ "<lambda>") params body scope (cloFrom X.env.cells scope.names []) pm ctv dvs :=
    ⟨hf, ⟨c', oc, cvs, t, rfl, hoc, hcd, hcv⟩, clo, hcell, dd, I2.nolimit⟩
  have hlen : its.length = zs.length := by
    have := Paired.length rv
    simpa using this.symm
  have item : ∀ i u, its[i]? = some u → ∃ t, u = Value.str (zs.getD i (0, "")).2 t := fun i u hi => by
    have hi' : i < zs.length := by
      rw [← hlen]
      exact (List.getElem?_eq_some_iff.mp hi).1
    obtain ⟨u', hu', ru'⟩ := rv.get (i := i) (x := V.str (zs.getD i (0, "")).2) (by rw [List.getElem?_map, List.getElem?_eq_getElem hi', List.getD_eq_getElem?_getD, List.getElem?_eq_getElem hi']; rfl)
    rw [hi] at hu'
    cases hu'
    exact ru'
  have du : ∀ i, i < zs.length → ∃ t, valueAt dvs (.inr (zs.getD i (0, "")).2) = some (.int (zs.getD i (0, "")).1 t) := fun i hi => by
    obtain ⟨w2, hw2, rw2⟩ := RelO.some_of (v := .int (zs.getD i (0, "")).1) (o := valueAt dvs (.inr (zs.getD i (0, "")).2)) (by rw [← hv _ (getD_mem hi)]; exact rel.val _)
    obtain ⟨t, rfl⟩ := rw2
    exact ⟨t, hw2⟩
  refine min_raw LT L (I2.ok.hd hc) (by have := hr.dp; show X.A.depth < _; omega) (by have := hr.un; omega) ⟨_, hat, rfl, _, rfl⟩ (by simpa using hlen) (by simpa using item) du h0 fun h' tk i t hi least kk => ?_
  refine ⟨.str (zs.getD i (0, "")).2, H2, ?_, ⟨t, rfl⟩, q H2 _ eN T2 (getD_mem hi) fun z hz' => ?_⟩
  · have := I2.kept (t' := tk) kk
    exact this
  · obtain ⟨j, hj, rfl⟩ := List.mem_iff_getElem.mp hz'
    have := least j hj
    rwa [List.getD_eq_getElem?_getD, List.getElem?_eq_getElem hj] at this
end K34
end
section
set_option linter.all false
set_option maxRecDepth 100000
/-! Who goes first. -/
namespace K34
open PySem PySem.Spec PyProof.Rows L2 LamX
/-- a def whose code object is told -/
structure DfC (K : PySem.W.Frag) (mg : Str → Option Value) (x : Str) (st : Stmt) (ps : List Str) (c : Addr) : Prop where
  ex : ∃ (f : Addr) (oc : Value) (od an : Option Addr) (osl : Array (Option Value)) (kV doc pm ct : Value),
    K.lookup f = some ⟨oc, od, .func (PySem.W.fnOf x x (defArgs st) (defBody st) (defScope st) .none kV doc pm an (.ref c) ct), osl⟩ ∧ PySem.W.codeIn K (.ref c) x = true ∧ mg x = some (.ref f) ∧ PySem.W.keepIn K (.ref f) = true ∧
    Binds K (PySem.W.fnOf x x (defArgs st) (defBody st) (defScope st) .none kV doc pm an (.ref c) ct) ps []
section
variable {P : Program} {w : World} {K : PySem.W.Frag} {mg : Str → Option Value} {base : Heap}
theorem caC {x : Str} {st : Stmt} {N ps : List Str} {k : Nat} {sp : Sp} {c : Addr} (D : DfC K mg x st ps c) (S : FnScope N ps (defScope st)) (len : ∀ vs H Q E, sp vs H Q E → vs.length = ps.length)
    (hbody : ∀ (f : Addr) (A : Around) (outer : List Env) (s : Shared) (H : Hp) (vs : List V) (Q : VK) (E : XK), Room k (A.deeper (envOfC x (defScope st) s.heap.objs.size f (.ref c))) → sp vs H Q E →
      ∃ t, PSs (cxOf CX0 P w K mg base N x (defScope st) f (.ref c) A outer s H E).nox (defBody st) t ∧ t { nx := fun _ H' => Q .non H', rt := Q } (start N vs) H) : Ca P w K mg base CX0 (k + 1) x sp := by
  obtain ⟨f, oc, od, an, osl, kV, doc, pm, ct, lk, hcd, g, kp, b⟩ := D.ex
  refine ⟨f, _, ps, fn_of lk hcd S len fun A outer s H vs Q E hr hsp => ?_, g, kp, b⟩
  obtain ⟨t, h, q⟩ := hbody f A outer s H vs Q E hr hsp
  exact ⟨t, h.nox, q⟩
end
/-- all but two lists and the tables stay -/
def But2 (l f : Addr) (H H' : Hp) : Prop := ∀ b o, H b = some o → (∀ ps, o ≠ .tbl ps) → b ≠ l → b ≠ f → H' b = some o
theorem But2.refl (l f : Addr) (H : Hp) : But2 l f H H := fun _ _ h _ _ _ => h
theorem But2.ext {l f : Addr} {H H1 H2 : Hp} (h : But2 l f H H1) (e : ExtN H1 H2) : But2 l f H H2 := fun b o a n h1 h2 => e b o (h b o a n h1 h2) n
theorem But2.same {l f : Addr} {H H1 H2 : Hp} (h : But2 l f H H1) (e : Same H1 H2) : But2 l f H H2 := h.ext fun b o a _ => e b o a
theorem But2.put {l f : Addr} {H H1 : Hp} {o : HO} (h : But2 l f H H1) : But2 l f H (upd H1 l o) := fun b u a n h1 h2 => by
  rw [upd_ne h1]
  exact h b u a n h1 h2
theorem But2.put' {l f : Addr} {H H1 : Hp} {o : HO} (h : But2 l f H H1) : But2 l f H (upd H1 f o) := fun b u a n h1 h2 => by
  rw [upd_ne h2]
  exact h b u a n h1 h2
theorem tabS_upd {H : Hp} {p : Addr} {o : HO} {P : Addr} {q : Str} (t : TabS H P q) (h1 : ∀ ps, H p ≠ some (.tbl ps)) (h2 : ∀ g, H p ≠ some (.ext g)) : TabS (upd H p o) P q := by
  obtain ⟨ps, a, b, c⟩ := t
  have hp : P ≠ p := fun z => h1 ps (by rw [← z]; exact a)
  refine ⟨ps, by rw [upd_ne hp]; exact a, b, fun pos cv hc => ?_⟩
  obtain ⟨c', e1, e2⟩ := c pos cv hc
  have hc' : c' ≠ p := fun z => h2 _ (by rw [← z]; exact e2)
  exact ⟨c', e1, by rw [upd_ne hc']; exact e2⟩
theorem tabs_upd {T : List (Addr × Str)} {H : Hp} {p : Addr} {o : HO} (t : Tabs T H) (h1 : ∀ ps, H p ≠ some (.tbl ps)) (h2 : ∀ g, H p ≠ some (.ext g)) : Tabs T (upd H p o) := fun q hq => tabS_upd (t q hq) h1 h2
theorem tabs_lst {T : List (Addr × Str)} {H : Hp} {p : Addr} {o : HO} {xs : List V} (t : Tabs T H) (h : H p = some (.lst xs)) : Tabs T (upd H p o) := tabs_upd t (fun ps z => by rw [h] at z; cases z) (fun g z => by rw [h] at z; cases z)
theorem tabs_new {T : List (Addr × Str)} {H : Hp} {p : Addr} {o : HO} (t : Tabs T H) (h : H p = none) : Tabs T (upd H p o) := tabs_upd t (fun ps z => by rw [h] at z; cases z) (fun g z => by rw [h] at z; cases z)
theorem atI_zero {A : Type} {x : A} {xs : List A} : atI (x :: xs) 0 = some x := by
  unfold atI ixN
  rw [if_pos (Int.le_refl _), if_pos (by rw [List.length_cons]; omega)]
  rfl
def waitF (ws : Pairs2) (z : Str) : Nat := (wv ws z).toNat
/-- the order that goes by the dues -/
noncomputable def order (ws ds : Pairs2) : List Str := edf ltS (waitF ws) (fun z => ds.lookup z) ws.length (lot (ws.map (·.1))) 0
def uT (P : Addr) : List (Addr × Str) := [(P, "urgent_order.<locals>.<lambda>")]
section
variable {P : Program} {w : World} {K : PySem.W.Frag} {mg : Str → Option Value} {base : Heap} {a : Ad} {e : Ae}
def spUrgentOrder (TP : Addr) : Sp := fun vs H Q _ => ∃ (d1 d2 : Addr) (ws ds : Pairs2), vs = [.ref d1, .ref d2] ∧ PD H d1 ws ∧ PD H d2 ds ∧ (∀ p ∈ ws, 0 ≤ p.2) ∧ (ws.map (·.1)).Nodup ∧ ws.length < 64 ∧
  Feas (waitF ws) (lot (ws.map (·.1))) 0 ∧ Tabs (uT TP) H ∧ ∀ H' p, ExtN H H' → Tabs (uT TP) H' → H' p = some (.tup ((order ws ds).map V.str)) → Q (.ref p) H'
theorem ok_UrgentOrder (T : Tx K mg a) {c TP : Addr} (D : DfC K mg "urgent_order" sUrgentOrder ["waits", "table"] c) (TB : TabB base mg c TP) : Ca P w K mg base CX0 1 "urgent_order" (spUrgentOrder TP) := by
  refine caC D cUrgentOrder (fun vs H Q E h => ?_) (fun fa A outer s H vs Q E hr h => ?_)
  · obtain ⟨d1, d2, ws, ds, rfl, _⟩ := h
    rfl
  · obtain ⟨d1, d2, ws, ds, rfl, h1, h2, hw, hn, hz, hF, hT, q⟩ := h
    have hu := hu_of hr
    refine ⟨_, pss_cons (ps_par (i := 2) (j := 3) rfl cUrgentOrder.nd rfl rfl (by decide) rfl rfl (pa_cons (pe_callB cr_sortedS (by rfl) T.m_sorted PyProof.Rows.boot_sorted (pa_cons (pe_callTy (call_listD rfl) (by rfl) T.m_list PyProof.Rows.boot_list (pa_cons (pv 0) pa_nil)) pa_nil)) (pa_cons (pe_lst pa_nil) pa_nil)) (by rfl))
      (pss_cons (ps_for PassesOwn.never rfl (pi_range1 (by rfl) T.m_range (pa_cons (pe_callB call_lenD (by rfl) T.m_len PySem.boot_len (pa_cons (pv 0) pa_nil)) pa_nil)) (pg_name (i := 4) cUrgentOrder.nd rfl (Or.inr rfl))
        (pss_cons (ps_setLc (i := 6) (own := [("box", 5)]) (g := gName 5) (tt := tB (tOp (rI0 fun i j => .bl (decide (i ≤ j))) (tDGet (tVar 0) (tVar 5)) (tVar 4))) (te := tVar 5) rfl cUrgentOrder.nd rfl rfl (sw_true rfl rfl rfl (by decide +kernel)) (pi_list (pv 2)) (blkOk_by (N := nUrgentOrder) (sc := defScope sUrgentOrder) (by decide +kernel))
            (fun _ _ _ _ _ => by exact pg_name (i := 5) cUrgentOrder.nd rfl (Or.inl rfl)) (fun _ _ _ _ _ => by exact pts_one (pt_cmpR op_le (pe_dget hu (pv 0) (pv 5) (fun _ _ => rfl)) (pv 4) (nomark _))) (fun _ _ _ _ _ => by exact pv 5))
        (pss_cons (ps_setLc (i := 7) (own := [("box", 5)]) (g := gName 5) (tt := tB (tDIn (tVar 5) (tVar 1))) (te := tVar 5) rfl cUrgentOrder.nd rfl rfl (sw_true rfl rfl rfl (by decide +kernel)) (pi_list (pv 6)) (blkOk_by (N := nUrgentOrder) (sc := defScope sUrgentOrder) (by decide +kernel))
            (fun _ _ _ _ _ => by exact pg_name (i := 5) cUrgentOrder.nd rfl (Or.inl rfl)) (fun _ _ _ _ _ => by exact pts_one (pt_cmp (pc_din hu (pv 5) (pv 1)))) (fun _ _ _ _ _ => by exact pv 5))
        (pss_cons (ps_set (i := 5) cUrgentOrder.nd rfl (.inl rfl) (pe_ifExp (pt_cmpR (op_neE (Nat.lt_of_succ_lt hu)) (pv 7) (pe_lst pa_nil) (by rfl))
            (pe_minK (T := uT TP) (it := 1) rfl hr (by rfl) T.m_min rfl (by first | exact Or.inl rfl | exact Or.inr (Or.inl rfl) | exact Or.inr (Or.inr rfl)) (pv 7) ?LT ?hsub TB rfl ?hmT ?huT rfl)
            (pe_ix ix_list (pv 6) pe_int (fun _ _ => rfl))))
        (pss_cons (ps_expr (pe_bm PySem.F.plainAttrs_list PySem.F.slot_list_remove PySem.F.type_list_remove mt_removeS (pv 2) (pa_cons (pv 5) pa_nil)))
        (pss_one (ps_expr (pe_bm PySem.F.plainAttrs_list PySem.F.slot_list_append PySem.F.type_list_append mt_append (pv 3) (pa_cons (pv 5) pa_nil)))))))))
      (pss_one (ps_ret (pe_callTy call_tuple_of (by rfl) T.m_tuple PyProof.Rows.boot_tuple (pa_cons (pv 3) pa_nil))))), ?_⟩
    case LT => exact ⟨rfl, rfl, rfl, by decide +kernel, by rfl, by rfl, ⟨_, _, _, _, _, _, rfl⟩, fun _ _ _ _ _ _ => rfl⟩
    case hsub =>
      intro y hy e
      rcases List.mem_cons.mp hy with rfl | hy
      · cases e
      · obtain rfl := List.mem_singleton.mp hy
        exact .inl (by rfl)
    case hmT => exact List.mem_singleton.mpr rfl
    case huT => exact fun p hp _ => by rw [List.mem_singleton.mp hp]; rfl
    refine ⟨.ref d1, rfl, d1, pkv ws, rfl, .inl h1, fun p0 hp0 => ?_⟩
    have s0 := same_new (o := .lst ((pkv ws).map fun kv => kV kv.1)) hp0
    have T0 := tabs_new (o := .lst ((pkv ws).map fun kv => kV kv.1)) hT hp0
    have l0 : upd H p0 (.lst ((pkv ws).map fun kv => kV kv.1)) p0 = some (.lst ((ws.map (·.1)).map V.str)) := by
      rw [upd_same, List.map_map, List.map_map]
      rfl
    generalize upd H p0 (.lst ((pkv ws).map fun kv => kV kv.1)) = H1 at s0 T0 l0 ⊢
    refine ⟨p0, ws.map (·.1), rfl, .of l0, by rw [List.length_map]; exact hz, fun ys l hys hup hl => ?_⟩
    have ey := lot_eq hys hup
    subst ey
    have s1 := s0.trans (same_new (o := .lst ((lot (ws.map (·.1))).map V.str)) hl)
    have T1 := tabs_new (o := .lst ((lot (ws.map (·.1))).map V.str)) T0 hl
    have l1 : upd H1 l (.lst ((lot (ws.map (·.1))).map V.str)) l = some (.lst ((lot (ws.map (·.1))).map V.str)) := upd_same
    have nl : H l = none := s0.free hl
    generalize upd H1 l (.lst ((lot (ws.map (·.1))).map V.str)) = H2 at s1 T1 l1 ⊢
    refine ⟨Nat.zero_le _, fun fo hfo => ?_⟩
    have s2 := s1.trans (same_new (o := .lst []) hfo)
    have T2 := tabs_new (o := .lst []) T1 hfo
    have f2 : upd H2 fo (.lst []) fo = some (.lst []) := upd_same
    have lf : l ≠ fo := ne_of_none l1 hfo
    have l2 : upd H2 fo (.lst []) l = some (.lst ((lot (ws.map (·.1))).map V.str)) := by
      rw [upd_ne lf]
      exact l1
    have nf : H fo = none := s1.free hfo
    generalize upd H2 fo (.lst []) = H3 at s2 T2 l2 f2 ⊢
    have lk : (lot (ws.map (·.1))).length = ws.length := by rw [lot_length, List.length_map]
    have d13 := h1.same s2
    have d23 := h2.same s2
    have n1l : d1 ≠ l := ne_of_none h1 nl
    have n1f : d1 ≠ fo := ne_of_none h1 nf
    have n2l : d2 ≠ l := ne_of_none h2 nl
    have n2f : d2 ≠ fo := ne_of_none h2 nf
    refine ⟨_, _, rfl, .ref d1, rfl, d1, pkv ws, rfl, d13, ((pkv ws).length : Nat), rfl, by omega, by rw [List.length_map]; omega, ?_⟩
    refine for_it (walk_range0 (n := (((pkv ws).length : Nat) : Int).toNat)) (fun i σ H' => (∃ u4 u5 u6 u7, σ = [some (.ref d1), some (.ref d2), some (.ref l), some (.ref fo), u4, u5, u6, u7]) ∧ But2 l fo H3 H' ∧ Tabs (uT TP) H' ∧
        ∃ left found : List Str, H' l = some (.lst (left.map V.str)) ∧ H' fo = some (.lst (found.map V.str)) ∧ found.length = i ∧ left.length + i = ws.length ∧ Feas (waitF ws) left i ∧ (∀ z ∈ left, z ∈ ws.map (·.1)) ∧
          order ws ds = found ++ edf ltS (waitF ws) (fun z => ds.lookup z) left.length left i)
      ⟨⟨none, none, none, none, rfl⟩, But2.refl _ _ _, T2, _, [], l2, f2, rfl, by rw [lk]; rfl, hF, fun z h => mem_lot.mp h, by rw [List.nil_append, lk]; rfl⟩ (fun _ _ _ _ _ => True.intro) ?_ ?_
    · rintro i x σ H0 H4 hi ⟨⟨u4, u5, u6, u7, rfl⟩, b4, T4, left, found, hl4, hf4, hfl, hll, hF4, hlk, hord⟩ ⟨rfl, rfl⟩
      have hi' : i < ws.length := by
        rw [List.length_map] at hi
        omega
      have pd1 : PD H4 d1 ws := b4 _ _ d13 (fun ps z => by cases z) n1l n1f
      have pd2 : PD H4 d2 ds := b4 _ _ d23 (fun ps z => by cases z) n2l n2f
      refine ⟨.ref l, rfl, l, rfl, ⟨_, .of hl4⟩, fun C hC => ?_⟩
      have keep : ∀ j, ((left.take j).filter fun z => decide (waitF ws z ≤ i)).length ≤ 1000 := fun j => by
        have h1 := List.length_filter_le (fun z => decide (waitF ws z ≤ i)) (left.take j)
        have h2 := List.length_take_le' j left
        omega
      refine lc_it (walk_listM (l := left) (f := V.str)) (fun j H' => LcS H4 C (((left.take j).filter fun z => decide (waitF ws z ≤ i)).map V.str) H') (LcS.zero hC) (fun j H' _ h => .of (h.1 _ _ hl4)) ?_ ?_
      · rintro j x H6 H7 hj c4 ⟨rfl, z, hz1, rfl⟩
        obtain ⟨n, hn1⟩ := lookup_mem (hlk z (List.mem_of_getElem? hz1))
        have ew : waitF ws z = n.toNat := by
          unfold waitF wv
          rw [hn1]
          rfl
        have hn0 : 0 ≤ n := hw _ (mem_of_lookup2 hn1)
        refine ⟨rfl, .ref d1, rfl, .str z, rfl, d1, .int n, rfl, ?_, .int i, rfl, n, i, rfl, rfl, _, rfl, ite2 (fun h => ?_) (fun h => ?_)⟩
        · have := DGet.k (k := Sum.inr z) (c4.1 _ _ pd1)
          rw [valV_pkv, hn1] at this
          exact this
        · have h' := of_decide_eq_true h
          refine ⟨.str z, rfl, ?_⟩
          refine LcS.step hC c4 (Same.refl _) (by rw [List.length_map]; exact small1000 (keep j)) ?_
          rw [take_succ_keep hz1 (decide_eq_true (by rw [ew]; omega)), List.map_append]
          rfl
        · have h' : ¬ n ≤ (i : Int) := fun z => h (decide_eq_true z)
          rw [take_succ_drop hz1 (decide_eq_false (by rw [ew]; omega))]
          exact c4
      · intro H6 c6
        rw [List.take_length] at c6
        obtain ⟨s6, C6⟩ := c6
        have b6 := b4.same s6
        have T6 := T4.ext s6
        have pd16 := pd1.same s6
        have pd26 := pd2.same s6
        have hl6 := s6 _ _ hl4
        have hf6 := s6 _ _ hf4
        generalize hcan : left.filter (fun z => decide (waitF ws z ≤ i)) = can at C6
        have hcl : can.length ≤ 64 := by
          have := List.length_filter_le (fun z => decide (waitF ws z ≤ i)) left
          rw [hcan] at this
          omega
        have hcm : ∀ z, z ∈ can ↔ z ∈ left ∧ waitF ws z ≤ i := fun z => by
          rw [← hcan, List.mem_filter, decide_eq_true_iff]
        refine ⟨.ref C, rfl, C, rfl, ⟨_, .of C6⟩, fun D hD => ?_⟩
        refine lc_it (walk_listM (l := can) (f := V.str)) (fun j H' => LcS H6 D (((can.take j).filter fun z => (ds.lookup z).isSome).map V.str) H') (LcS.zero hD) (fun j H' _ h => .of (h.1 _ _ C6)) ?_ ?_
        · rintro j x H7 H8 hj c7 ⟨rfl, z, hz1, rfl⟩
          refine ⟨rfl, .str z, rfl, .ref d2, rfl, d2, _, rfl, DGet.k (k := Sum.inr z) (c7.1 _ _ pd26), _, rfl, ?_⟩
          rw [valV_pkv, Option.isSome_map]
          refine ite2 (fun h => ?_) (fun h => ?_)
          · refine ⟨.str z, rfl, ?_⟩
            refine LcS.step hD c7 (Same.refl _) ?_ ?_
            · rw [List.length_map]
              have h1 := List.length_filter_le (fun z => (ds.lookup z).isSome) (can.take j)
              have h2 := List.length_take_le' j can
              exact small1000 (by omega)
            · rw [take_succ_keep hz1 h, List.map_append]
              rfl
          · rw [take_succ_drop hz1 (Bool.eq_false_iff.mpr h)]
            exact c7
        · intro H7 c7
          rw [List.take_length] at c7
          obtain ⟨s7, D7⟩ := c7
          have b7 := b6.same s7
          have T7 := T6.ext s7
          have pd17 := pd16.same s7
          have pd27 := pd26.same s7
          have hl7 := s7 _ _ hl6
          have hf7 := s7 _ _ hf6
          have C7 := s7 _ _ C6
          generalize hdue : can.filter (fun z => (ds.lookup z).isSome) = due at D7
          have hdm : ∀ z, z ∈ due ↔ z ∈ can ∧ (ds.lookup z).isSome = true := fun z => by
            rw [← hdue, List.mem_filter]
          have key : ∀ Q0 : VK, (∀ (H8 : Hp) (b : Str), ExtN H7 H8 → Tabs (uT TP) H8 → IsPick ltS (waitF ws) (fun z => ds.lookup z) left i b → Q0 (.str b) H8) →
              tIf (tTest (tOp (rEmp K not) (tVar 7) (tLst tNil))) (tMinK (uT TP) 1 (tVar 7)) (tOp (rIxL K) (tVar 6) (tC (.int 0))) [some (.ref d1), some (.ref d2), some (.ref l), some (.ref fo), some (.int (i : Nat)), u5, some (.ref C), some (.ref D)] H7 Q0 := by
            intro Q0 hQ
            refine ⟨.ref D, rfl, Nat.zero_le _, fun E0 hE0 => ?_⟩
            have s8 := same_new (o := .lst []) hE0
            have T8 := tabs_new (o := .lst []) T7 hE0
            have e8 : upd H7 E0 (.lst []) E0 = some (.lst []) := upd_same
            generalize upd H7 E0 (.lst []) = H8 at s8 T8 e8 ⊢
            refine ⟨D, E0, due.map V.str, rfl, rfl, .inl ⟨.of (s8 _ _ D7), .of e8⟩, _, rfl, ?_⟩
            cases hdd : due with
            | nil =>
              refine iteF' rfl ?_
              obtain ⟨c0, hc1, hc2⟩ := hF4.some (by omega)
              have hc0 : c0 ∈ can := (hcm c0).mpr ⟨hc1, hc2⟩
              cases hcc : can with
              | nil =>
                rw [hcc] at hc0
                cases hc0
              | cons b r =>
                have hb : b ∈ can := by
                  rw [hcc]
                  exact List.mem_cons_self
                refine ⟨.ref C, rfl, C, can.map V.str, 0, .str b, rfl, rfl, .of (s8 _ _ C7), by rw [hcc, List.map_cons]; exact atI_zero, ?_⟩
                refine hQ _ b (.of s8) T8 ⟨((hcm b).mp hb).1, ((hcm b).mp hb).2, .inr ⟨fun c h1 h2 => ?_, by rw [hcan, hcc]; rfl⟩⟩
                cases hx : ds.lookup c with
                | none => exact hx
                | some d =>
                  have : c ∈ due := (hdm c).mpr ⟨(hcm c).mpr ⟨h1, h2⟩, by rw [hx]; rfl⟩
                  rw [hdd] at this
                  cases this
            | cons b0 r0 =>
              refine iteT' rfl ?_
              refine ⟨.ref D, rfl, D, d2, due.map fun z => ((ds.lookup z).getD 0, z), pkv ds, rfl, by rw [List.map_map]; exact s8 _ _ D7, rfl, pd27.same s8, fun p hp => ?_, by rw [hdd]; exact List.cons_ne_nil _ _, T8, fun H9 p e9 T9 hp hleast => ?_⟩
              · obtain ⟨z, hz1, rfl⟩ := List.mem_map.mp hp
                obtain ⟨d, hd⟩ := Option.isSome_iff_exists.mp ((hdm z).mp hz1).2
                rw [valV_pkv]
                show (ds.lookup z).map V.int = some (.int ((ds.lookup z).getD 0))
                rw [hd]
                rfl
              · obtain ⟨b, hb1, rfl⟩ := List.mem_map.mp hp
                obtain ⟨hb2, hb3⟩ := (hdm b).mp hb1
                obtain ⟨d, hd⟩ := Option.isSome_iff_exists.mp hb3
                refine hQ H9 b ((ExtN.of s8).trans e9) T9 ⟨((hcm b).mp hb2).1, ((hcm b).mp hb2).2, .inl ⟨d, hd, fun c h1 h2 e he => ?_⟩⟩
                have he : ds.lookup c = some e := he
                have hc : c ∈ due := (hdm c).mpr ⟨(hcm c).mpr ⟨h1, h2⟩, by rw [he]; rfl⟩
                have := keyLt_no.mp (hleast ((ds.lookup c).getD 0, c) (List.mem_map_of_mem hc))
                dsimp only at this
                rw [hd, he] at this
                exact this
          refine key _ fun H8 b e8 T8 pick => ?_
          have hl8 := e8 _ _ hl7 (fun ps z => by cases z)
          have hf8 := e8 _ _ hf7 (fun ps z => by cases z)
          refine ⟨.ref l, rfl, .inl ⟨rfl, _, .of hl8⟩, .str b, rfl, l, left, b, rfl, rfl, hl8, pick.1, ?_⟩
          have hf9 : upd H8 l (.lst ((left.erase b).map V.str)) fo = some (.lst (found.map V.str)) := by
            rw [upd_ne lf.symm]
            exact hf8
          refine ⟨.ref fo, rfl, .inl ⟨rfl, _, .of hf9⟩, .str b, rfl, fo, _, .str b, rfl, rfl, hf9, by rw [List.length_map]; exact small1000 (by omega), ?_⟩
          have hel := List.length_erase_of_mem pick.1
          have hpos := List.length_pos_of_mem pick.1
          refine ⟨⟨_, _, _, _, rfl⟩, ((b7.ext e8).put).put', tabs_lst (tabs_lst T8 hl8) hf9, left.erase b, found ++ [b], ?_, ?_, ?_, by omega, hF4.erase pick.1 pick.2.1, fun z h => hlk z (List.mem_of_mem_erase h), ?_⟩
          · rw [upd_ne lf, upd_same]
          · rw [upd_same, List.map_append]
            rfl
          · rw [List.length_append, hfl]
            rfl
          · rw [hord, hel]
            have es := edf_step ordS (k := left.length - 1) pick
            rw [show left.length - 1 + 1 = left.length by omega] at es
            rw [es, List.append_assoc]
            rfl
    · rintro σ H4 ⟨⟨u4, u5, u6, u7, rfl⟩, b4, T4, left, found, hl4, hf4, hfl, hll, hF4, hlk, hord⟩
      have el : left = [] := by
        rw [List.length_map] at hll
        exact List.eq_nil_of_length_eq_zero (by omega)
      subst el
      refine ⟨.ref fo, rfl, fo, _, rfl, .inl ⟨.of hf4, fun p hp => ?_⟩⟩
      rw [show order ws ds = found by rw [hord]; exact List.append_nil _] at q
      refine q _ p (fun b o e n => ?_) (tabs_new T4 hp) upd_same
      have h := b4 b o (s2 b o e) n (ne_of_none e nl) (ne_of_none e nf)
      rw [upd_ne (ne_of_none h hp)]
      exact h
end
end K34
end
section
set_option linter.all false
set_option maxRecDepth 100000
/-! Plain: somebody can always go; what dues that are told leave. -/
namespace K34
open PySem PySem.Spec PyProof.Rows L2
theorem lookup_of_mem {ps : Pairs2} {p : Str × Int} : (ps.map (·.1)).Nodup → p ∈ ps → ps.lookup p.1 = some p.2 := by
  induction ps with
  | nil => exact fun _ h => by cases h
  | cons q r ih =>
    intro hn h
    obtain ⟨y, n⟩ := q
    have hn := List.nodup_cons.mp hn
    rcases List.mem_cons.mp h with e | e
    · subst e
      simp [List.lookup]
    · have : p.1 ≠ y := fun z => hn.1 (Eq.mp (congrArg (fun u => u ∈ r.map fun q : Str × Int => q.1) z) (List.mem_map_of_mem (f := fun q : Str × Int => q.1) e))
      rw [show List.lookup p.1 ((y, n) :: r) = List.lookup p.1 r by simp [List.lookup, show (p.1 == y) = false by simpa using this]]
      exact ih hn.2 e
theorem wv_of_mem {ps : Pairs2} {p : Str × Int} (hn : (ps.map (·.1)).Nodup) (h : p ∈ ps) : wv ps p.1 = p.2 := by
  unfold wv
  rw [lookup_of_mem hn h]
  rfl
theorem count_drop {A : Type} {p : A → Bool} {l : List A} {k : Nat} (h : ∀ x ∈ l.drop k, p x = true) : l.length - k ≤ l.countP p := by
  have a : (l.drop k).countP p = (l.drop k).length := List.countP_eq_length.mpr h
  have b : (l.drop k).countP p ≤ l.countP p := (List.drop_sublist k l).countP_le
  rw [List.length_drop] at a
  omega
theorem row_count {h : Nat} {free : Int} {row : List Str} {t : Nat} (hr : row.length ≤ h) (hg : ((h - row.length : Nat) : Int) ≤ free) : min row.length (t + 1) ≤ (rowW h free row).countP fun p => decide (p.2.toNat ≤ t) := by
  have e : (rowW h free row).length = row.length := by
    rw [← List.length_map (f := fun p : Str × Int => p.1), rowW_keys]
  have := count_drop (p := fun p : Str × Int => decide (p.2.toNat ≤ t)) (l := rowW h free row) (k := row.length - (t + 1)) fun x hx => by
    obtain ⟨j, hj, ej⟩ := List.mem_iff_getElem.mp hx
    rw [List.getElem_drop] at ej
    unfold rowW at ej
    rw [List.getElem_mapIdx] at ej
    rw [← ej]
    rw [List.length_drop, e] at hj
    apply decide_eq_true
    dsimp only
    split <;> omega
  omega
theorem sub_free : ∀ {hs : List Nat} {rs : Rows}, rs.length = hs.length → (∀ (i : Nat) r, rs[i]? = some r → r.2.length ≤ hs.getD i 0) → (boxes rs).length ≤ hs.sum ∧ ∀ (i : Nat) r, rs[i]? = some r → ((hs.getD i 0 - r.2.length : Nat) : Int) ≤ freeN hs rs
  | [], [], _, _ => ⟨Nat.le_refl _, fun i r h => by simp at h⟩
  | h :: hs, r :: rs, hl, hf => by
    have hl' : rs.length = hs.length := by simpa using hl
    obtain ⟨h1, h2⟩ := sub_free hl' fun i r h => by simpa using hf (i + 1) r h
    have h0 : r.2.length ≤ h := hf 0 r rfl
    have eb : boxes (r :: rs) = r.2 ++ boxes rs := List.flatMap_cons
    unfold freeN at h2 ⊢
    rw [eb, List.length_append, List.sum_cons]
    refine ⟨by omega, fun i q hi => ?_⟩
    cases i with
    | zero =>
      cases (show some r = some q from hi)
      show ((h - r.2.length : Nat) : Int) ≤ _
      omega
    | succ i =>
      have := h2 i q hi
      show ((hs.getD i 0 - q.2.length : Nat) : Int) ≤ _
      omega
  | [], _ :: _, hl, _ => nomatch hl
  | _ :: _, [], hl, _ => nomatch hl
theorem wait_count {free : Int} {t : Nat} : ∀ {hs : List Nat} {rs : Rows}, rs.length = hs.length → (∀ (i : Nat) r, rs[i]? = some r → r.2.length ≤ hs.getD i 0) → (∀ (i : Nat) r, rs[i]? = some r → ((hs.getD i 0 - r.2.length : Nat) : Int) ≤ free) →
    min (boxes rs).length (t + 1) ≤ (waitL free hs rs).countP fun p => decide (p.2.toNat ≤ t)
  | [], [], _, _, _ => by simp
  | h :: hs, r :: rs, hl, hf, hg => by
    have hl' : rs.length = hs.length := by simpa using hl
    have ih := wait_count (free := free) (t := t) hl' (fun i r h => by simpa using hf (i + 1) r h) (fun i r h => by simpa using hg (i + 1) r h)
    have h0 := row_count (t := t) (hf 0 r rfl) (hg 0 r rfl)
    have eb : boxes (r :: rs) = r.2 ++ boxes rs := List.flatMap_cons
    rw [eb, List.length_append]
    show _ ≤ (rowW h free r.2 ++ waitL free hs rs).countP _
    rw [List.countP_append]
    have h0 : min r.2.length (t + 1) ≤ (rowW h free r.2).countP fun p => decide (p.2.toNat ≤ t) := h0
    omega
  | [], _ :: _, hl, _, _ => nomatch hl
  | _ :: _, [], hl, _, _ => nomatch hl
theorem rowW_mem {h : Nat} {free : Int} {row : List Str} {p : Str × Int} (hp : p ∈ rowW h free row) : 0 ≤ p.2 ∧ (0 ≤ free → p.2 ≤ h) := by
  unfold rowW at hp
  obtain ⟨j, hj, ej⟩ := List.mem_mapIdx.mp hp
  rw [← ej]
  dsimp only
  split <;> omega
theorem waitL_mem {free : Int} : ∀ {hs : List Nat} {rs : Rows} {p : Str × Int}, p ∈ waitL free hs rs → 0 ≤ p.2 ∧ (0 ≤ free → p.2 ≤ hs.sum)
  | _, [], _, hp => by cases hp
  | hs, r :: rs, p, hp => by
    rcases List.mem_append.mp (show p ∈ rowW (hs.headD 0) free r.2 ++ waitL free hs.tail rs from hp) with h | h
    · have := rowW_mem h
      cases hs with
      | nil => simpa using this
      | cons x hs =>
        refine ⟨this.1, fun h0 => ?_⟩
        have := this.2 h0
        rw [List.sum_cons]
        simp at this
        omega
    · have := waitL_mem h
      cases hs with
      | nil => exact this
      | cons x hs =>
        refine ⟨this.1, fun h0 => ?_⟩
        have := this.2 h0
        rw [List.sum_cons]
        simp at this
        omega
/-- the waits of a good standing -/
abbrev wts (hs : List Nat) (rs : Rows) : Pairs2 := waitL (freeN hs rs) hs rs
theorem countP_keys {ws : Pairs2} (hn : (ws.map (·.1)).Nodup) (t : Nat) : (ws.map (·.1)).countP (fun z => decide (waitF ws z ≤ t)) = ws.countP fun p => decide (p.2.toNat ≤ t) := by
  rw [List.countP_map]
  refine List.countP_congr fun p hp => ?_
  show decide (waitF ws p.1 ≤ t) = true ↔ _
  unfold waitF
  rw [wv_of_mem hn hp]
theorem Good.free {hs : List Nat} {rs : Rows} (g : Good hs rs) : 0 ≤ freeN hs rs := by
  have := (sub_free g.len g.fit).1
  unfold freeN
  omega
theorem Good.wnd {hs : List Nat} {rs : Rows} (g : Good hs rs) : ((wts hs rs).map (·.1)).Nodup := by
  rw [waitL_keys]
  exact g.nd
theorem Good.wlen {hs : List Nat} {rs : Rows} (g : Good hs rs) : (wts hs rs).length = (boxes rs).length := by
  rw [← List.length_map (f := fun p : Str × Int => p.1), waitL_keys]
theorem Good.wmem {hs : List Nat} {rs : Rows} (g : Good hs rs) {p : Str × Int} (hp : p ∈ wts hs rs) : 0 ≤ p.2 ∧ p.2 < 1000 := by
  have := waitL_mem hp
  have h1 := this.2 g.free
  have h2 := g.sum
  exact ⟨this.1, by omega⟩
theorem Good.feas {hs : List Nat} {rs : Rows} (g : Good hs rs) : Feas (waitF (wts hs rs)) (lot ((wts hs rs).map (·.1))) 0 := fun t _ h2 => by
  rw [(lot_perm _).countP_eq, countP_keys g.wnd]
  rw [lot_length, List.length_map, g.wlen] at h2
  have h3 : _ ≤ (wts hs rs).countP fun p => decide (p.2.toNat ≤ t) := wait_count (free := freeN hs rs) (t := t) g.len g.fit (sub_free g.len g.fit).2
  omega
/-- dues that are taken: each box once, from one on -/
theorem run_ok : ∀ {bs : List Str} {ps t t' : Pairs2}, runDues bs ps t = .ok t' → (∀ p ∈ t, p.1 ∈ bs) → (t.map (·.1)).Nodup → (∀ p ∈ t', p.1 ∈ bs) ∧ (t'.map (·.1)).Nodup ∧ t' = t ++ ps
  | bs, [], t, t', h, h1, h2 => by
    cases (show Dut.ok t = Dut.ok t' from h)
    exact ⟨h1, h2, (List.append_nil _).symm⟩
  | bs, (z, n) :: r, t, t', h, h1, h2 => by
    have h : (if z ∈ bs then (if z ∈ t.map (·.1) then Dut.refused else if n < 1 then .size else runDues bs r (t ++ [(z, n)])) else .name z) = .ok t' := h
    split at h
    · rename_i hz
      split at h
      · cases h
      · rename_i hz2
        split at h
        · cases h
        · have ih := run_ok h (fun p hp => by
            rcases List.mem_append.mp hp with e | e
            · exact h1 p e
            · rw [List.mem_singleton.mp e]
              exact hz) (by
            rw [List.map_append]
            refine List.nodup_append.mpr ⟨h2, List.nodup_cons.mpr ⟨List.not_mem_nil, List.nodup_nil⟩, fun a ha b hb => ?_⟩
            rw [List.mem_singleton.mp hb]
            exact fun e => hz2 ((show a = z from e) ▸ ha))
          refine ⟨ih.1, ih.2.1, ?_⟩
          rw [ih.2.2, List.append_assoc]
          rfl
    · cases h
end K34
end
section
set_option linter.all false
set_option maxRecDepth 100000
/-! The order that is due. -/
namespace K34
open PySem PySem.Spec PyProof.Rows L2 LamX
theorem order_perm {hs : List Nat} {rs : Rows} (g : Good hs rs) (ds : Pairs2) : (order (wts hs rs) ds).Perm (boxes rs) ∧ Goes (waitF (wts hs rs)) (fun z => ds.lookup z) 0 (order (wts hs rs) ds) := by
  have := edf_ok ordS (wait := waitF (wts hs rs)) (due := fun z => ds.lookup z) (wts hs rs).length (lot ((wts hs rs).map (·.1))) 0 (by rw [lot_length, List.length_map]) g.feas
  refine ⟨(this.1.trans (lot_perm _)).trans ?_, this.2⟩
  rw [waitL_keys]
section
variable {P : Program} {w : World} {K : PySem.W.Frag} {mg : Str → Option Value} {base : Heap} {a : Ad} {e : Ae}
/-- the first crowd that breaks its bounds, or none -/
def FcOk (a : Ad) (TP : Addr) (H : Hp) (Q : VK) (ws ds : Pairs2) : Prop :=
  (∀ (f e : Nat) (x p : Addr) H', f ≤ e → e < ws.length → big ws ds f e → (∀ f' e' : Nat, f' ≤ e' → e' < ws.length → f' < f ∨ (f' = f ∧ e' < e) → ¬ big ws ds f' e') → ExtN H H' → Tabs (uT TP) H' →
    CrowdAt a H' x (.int f) (.int e) (.ref p) → H' p = some (.tup ((lot (crowdL ws ds f e)).map V.str)) → Q (.ref x) H') ∧
  ((∀ f e : Nat, f ≤ e → e < ws.length → ¬ big ws ds f e) → ∀ H', ExtN H H' → Tabs (uT TP) H' → Q .non H')
def DoOk (a : Ad) (e : Ae) (TP : Addr) (H : Hp) (Q : VK) (E : XK) (ws : Pairs2) : Dut → Prop
  | .ok t => Tabs (uT TP) H ∧ (inTime t (order ws t) = true → ∀ H' p, ExtN H H' → Tabs (uT TP) H' → H' p = some (.tup ((order ws t).map V.str)) → Q (.ref p) H') ∧ (inTime t (order ws t) = false → FcOk a TP H Q ws t)
  | d => DutOk e H (fun _ _ => False) E d
def spDueOrder (a : Ad) (e : Ae) (TP : Addr) : Sp := fun vs H Q E => ∃ (y : Addr) (v u : V), vs = [.ref y, v, u] ∧ (spNeedStanding a e [.ref y, v] H (fun _ _ => False) E ∨
  ∃ (st dt : Addr) (hs : List Nat) (rs : Rows) (ps : Dues), v = .ref st ∧ u = .ref dt ∧ YardAt a H y hs ∧ StAt H st rs ∧ Good hs rs ∧ DuesAt H dt ps ∧ ps.length ≤ 1000 ∧ DoOk a e TP H Q E (wts hs rs) (runDues (boxes rs) (ps.map (·.2)) []))
theorem run_few {hs : List Nat} {rs : Rows} (g : Good hs rs) {ps t : Pairs2} (h : runDues (boxes rs) ps [] = .ok t) : (∀ p ∈ t, p.1 ∈ boxes rs) ∧ (t.map (·.1)).Nodup ∧ t.length < 64 ∧ t = ps := by
  have r := run_ok h (fun p hp => by cases hp) List.nodup_nil
  refine ⟨r.1, r.2.1, ?_, r.2.2⟩
  have := nodup_len r.2.1 (m := boxes rs) fun z hz => by
    obtain ⟨p, hp, rfl⟩ := List.mem_map.mp hz
    exact r.1 p hp
  rw [List.length_map] at this
  have := g.few
  omega
theorem ok_DueOrder (T : Tx K mg a) (T2 : Tx2 P K mg e) {c TP : Addr} (D : DfC K mg "urgent_order" sUrgentOrder ["waits", "table"] c) (TB : TabB base mg c TP) : CaF P w K mg base (L2.CX P w) 6 "due_order" sDueOrder ["yard", "standing", "dues"] (spDueOrder a e TP) := by
  have G1 : Ca P w K mg base (L2.CX P w) 4 "due_table" (spDueTable a e) := ok_DueTable T T2
  have G2 : Ca P w K mg base CX0 5 "wait_table" (spWaitTable a) := ok_WaitTable T T2
  have G3 : Ca P w K mg base CX0 1 "urgent_order" (spUrgentOrder TP) := ok_UrgentOrder T D TB
  have G4 : Ca P w K mg base CX0 1 "in_time" spInTime := ok_InTime T
  have G5 : Ca P w K mg base CX0 3 "first_crowd" (spFirstCrowd a) := ok_FirstCrowd T
  refine caXF T.dDueOrder cDueOrder (fun vs H Q E h => ?_) (fun f cdv A outer s H vs Q E hr h => ?_)
  · obtain ⟨y, v, u, rfl, _⟩ := h
    rfl
  · obtain ⟨y, v, u, rfl, h⟩ := h
    refine ⟨_, pss_cons (ps_set (i := 3) cDueOrder.nd rfl (.inl rfl) (pe_cS G1 hr (by decide) (takes_of rfl rfl rfl rfl) (by rfl) (pa_cons (pv 0) (pa_cons (pv 1) (pa_cons (pv 2) pa_nil)))))
      (pss_cons (ps_set (i := 4) cDueOrder.nd rfl (.inl rfl) (pe_c0 G2 hr (by decide) (by rfl) (pa_cons (pv 0) (pa_cons (pv 1) pa_nil))))
      (pss_cons (ps_set (i := 5) cDueOrder.nd rfl (.inl rfl) (pe_c0 G3 hr (by decide) (by rfl) (pa_cons (pv 4) (pa_cons (pv 3) pa_nil))))
      (pss_one (ps_ret (pe_ifExp (pt_val (pe_c0 G4 hr (by decide) (by rfl) (pa_cons (pv 5) (pa_cons (pv 3) pa_nil)))) (pv 5) (pe_c0 G5 hr (by decide) (by rfl) (pa_cons (pv 4) (pa_cons (pv 3) pa_nil)))))))), ?_⟩
    refine ⟨.ref y, rfl, v, rfl, u, rfl, ?_⟩
    unfold tNil
    rcases h with h | ⟨st, dt, hs, rs, ps, rfl, rfl, hy, hst, g, hd, hz, q⟩
    · exact ⟨y, v, u, rfl, .inl (ns_mono (fun _ _ z => z.elim) h)⟩
    · refine ⟨y, _, _, rfl, .inr ⟨st, dt, hs, rs, ps, rfl, rfl, hy, hst, g, hd, hz, ?_⟩⟩
      cases hrun : runDues (boxes rs) (ps.map (·.2)) [] with
      | name z =>
        rw [hrun] at q
        exact q
      | refused =>
        rw [hrun] at q
        exact q
      | size =>
        rw [hrun] at q
        exact q
      | ok t =>
        rw [hrun] at q
        obtain ⟨hT, q1, q2⟩ := q
        obtain ⟨r1, r2, r3, _⟩ := run_few g hrun
        intro H1 td s1 ntd ptd
        refine ⟨.ref y, rfl, .ref st, rfl, y, st, hs, rs, rfl, hy.same s1, hst.same s1, g, fun H2 wd s2 nwd pwd => ?_⟩
        have s12 := s1.trans s2
        have p2 := ptd.same s2
        have hwd : wd ≠ td := (ne_of_none ptd nwd).symm
        refine ⟨.ref wd, rfl, .ref td, rfl, wd, td, _, t, rfl, pwd, p2, fun p hp => (g.wmem hp).1, g.wnd, by rw [g.wlen]; have := g.few; omega, g.feas, hT.ext s12, fun H3 p e3 T3 hpt => ?_⟩
        have op := (order_perm g t).1
        have e13 : ExtN H H3 := (ExtN.of s12).trans e3
        have pw3 := pwd.ext e3
        have pt3 := p2.ext e3
        refine ⟨.ref p, rfl, .ref td, rfl, p, td, order (wts hs rs) t, t, rfl, hpt, pt3, by rw [op.length_eq]; have := g.few; omega, fun H4 s4 => ?_⟩
        have e14 := e13.trans (ExtN.of s4)
        refine ⟨_, rfl, ite2 (fun hin => ?_) (fun hin => ?_)⟩
        · exact ⟨.ref p, rfl, q1 hin H4 p e14 (T3.ext s4) (s4 _ _ hpt)⟩
        · have q2 := q2 (Bool.eq_false_iff.mpr hin)
          refine ⟨.ref wd, rfl, .ref td, rfl, wd, td, _, t, rfl, pw3.same s4, pt3.same s4, hwd, fun p hp => g.wmem hp, g.wnd, by rw [g.wlen]; have := g.few; omega, fun p hp => by rw [waitL_keys]; exact r1 p hp, r2, r3, ?_, ?_⟩
          · intro f e x p H5 h1 h2 h3 h4 s5 _ _ h5 h6
            exact q2.1 f e x p H5 h1 h2 h3 h4 (e14.trans (ExtN.of s5)) ((T3.ext s4).ext s5) h5 h6
          · intro h1 H5 s5
            exact q2.2 h1 H5 (e14.trans (ExtN.of s5)) ((T3.ext s4).ext s5)
end
end K34
end
section
set_option linter.all false
set_option maxRecDepth 100000
/-! Answers are checked. -/
namespace K34
open PySem PySem.Spec PyProof.Rows L2 LamX
def outW (ws : Pairs2) (zs : List Str) : List Bool := zs.mapIdx fun i z => decide (wv ws z ≤ (i : Int))
/-- an order keeps what is told -/
def keepsB (ws ds : Pairs2) (zs : List Str) : Bool := inTime ds zs && (outW ws zs).all id
def txts : Rw → List Str
  | .bad _ => []
  | .row _ xs => xs.map txtV
def ckOrd (bs : List Str) (ws ds : Pairs2) (r : Rw) : Bool := isOrd bs r && keepsB ws ds (txts r)
/-- what is said of a crowd -/
def ckCr (ws ds : Pairs2) (d : PyData) : V → V → Bool
  | .int f, .int e => decide (0 ≤ f) && decide (0 ≤ e) && decide (f ≤ e) && PyData.eqv d (.tuple ((lot (crowdL ws ds f e)).map PyData.str)) && decide (e - f < ((crowdL ws ds f e).length : Nat))
  | _, _ => false
def isNumV : V → Bool
  | .int i => decide (0 ≤ i)
  | _ => false
theorem ckCr_f {ws ds : Pairs2} {d : PyData} {f e : V} (h : isNumV f = false) : ckCr ws ds d f e = false := by
  cases f with
  | int i =>
    cases e with
    | int j =>
      have h : decide (0 ≤ i) = false := h
      simp only [ckCr, h, Bool.false_and]
    | _ => rfl
  | _ => rfl
theorem ckCr_e {ws ds : Pairs2} {d : PyData} {f e : V} (h : isNumV e = false) : ckCr ws ds d f e = false := by
  cases f with
  | int i =>
    cases e with
    | int j =>
      have h : decide (0 ≤ j) = false := h
      simp only [ckCr, h, Bool.and_false, Bool.false_and]
    | _ => rfl
  | _ => rfl
theorem numV {v : V} (h : isNumV v = true) : ∃ i : Int, v = .int i ∧ 0 ≤ i := by
  cases v with
  | int i => exact ⟨i, rfl, of_decide_eq_true h⟩
  | _ => cases h
theorem goes_names : ∀ {xs : List V} {left : List Str}, goes xs left = true → xs = (xs.map txtV).map V.str ∧ (∀ z ∈ xs.map txtV, z ∈ left) ∧ (left.Nodup → (xs.map txtV).Nodup)
  | [], _, _ => ⟨rfl, fun z (h : z ∈ ([] : List Str)) => (List.not_mem_nil h).elim, fun _ => List.nodup_nil⟩
  | x :: r, left, h => by
    have h : (isNameV x && decide (txtV x ∈ left) && goes r (left.erase (txtV x))) = true := h
    rw [Bool.and_eq_true, Bool.and_eq_true] at h
    obtain ⟨⟨h1, h2⟩, h3⟩ := h
    obtain ⟨i1, i2, i3⟩ := goes_names h3
    have h2 := of_decide_eq_true h2
    refine ⟨?_, fun z hz => ?_, fun hn => ?_⟩
    · rw [List.map_cons, List.map_cons, ← i1, ← nameStr h1]
    · rw [List.map_cons] at hz
      rcases List.mem_cons.mp hz with e | e
      · rw [e]
        exact h2
      · exact List.mem_of_mem_erase (i2 z e)
    · rw [List.map_cons]
      refine List.nodup_cons.mpr ⟨fun q => ?_, i3 (hn.sublist List.erase_sublist)⟩
      have := i2 _ q
      exact (List.Nodup.not_mem_erase hn) this
section
variable {P : Program} {w : World} {K : PySem.W.Frag} {mg : Str → Option Value} {base : Heap} {a : Ad} {e : Ae}
theorem rw_ty (T : Tx K mg a) {H : Hp} {r : Rw} (h : r.ok H) : ∃ t, TyX K H r.v t ∧ PySem.W.kitOne K t (.ref a.C) = some false := by
  cases r with
  | bad v =>
    rcases h with h | ⟨l, xs, rfl, h⟩
    · cases v with
      | non => exact ⟨_, .base .non, T.nisC _ (by decide)⟩
      | bl b => exact ⟨_, .base (.bl b), T.nisC _ (by decide)⟩
      | int i => exact ⟨_, .base (.int i), T.nisC _ (by decide)⟩
      | str z => exact ⟨_, .base (.str z), T.nisC _ (by decide)⟩
      | _ => cases h
    · exact ⟨_, .base (.lst h), T.nisC _ (by decide)⟩
  | row t xs => exact ⟨_, .base (.tup h.1), T.nisC _ (by decide)⟩
theorem Rw.ok_same {H H' : Hp} {r : Rw} (h : r.ok H) (s : Same H H') : r.ok H' := by
  cases r with
  | bad v => exact h.imp id fun ⟨l, xs, e1, e2⟩ => ⟨l, xs, e1, s _ _ e2⟩
  | row t xs => exact ⟨s _ _ h.1, h.2⟩
/-- of what kind a value is, and the answer -/
def CkOk (K : PySem.W.Frag) (a : Ad) (H : Hp) (Q : VK) (bs : List Str) (ws ds : Pairs2) (x : V) : Prop :=
  (∃ r : Rw, x = r.v ∧ r.ok H ∧ ∀ H', Same H H' → Q (.bl (ckOrd bs ws ds r)) H') ∨
  (∃ (xa : Addr) (f en b : V) (d : PyData), x = .ref xa ∧ CrowdAt a H xa f en b ∧ flatV f = true ∧ flatV en = true ∧ (∀ H', Same H H' → Dp K H' b d) ∧ SeqAt.shaped d = true ∧ ∀ H', Same H H' → Q (.bl (ckCr ws ds d f en)) H')
def CdOk (K : PySem.W.Frag) (a : Ad) (e : Ae) (H : Hp) (Q : VK) (E : XK) (bs : List Str) (ws : Pairs2) (x : V) : Dut → Prop
  | .ok t => CkOk K a H Q bs ws t x
  | d => DutOk e H (fun _ _ => False) E d
def spCheckDues (K : PySem.W.Frag) (a : Ad) (e : Ae) : Sp := fun vs H Q E => ∃ (y : Addr) (v u x : V), vs = [.ref y, v, u, x] ∧ (spNeedStanding a e [.ref y, v] H (fun _ _ => False) E ∨
  ∃ (st dt : Addr) (hs : List Nat) (rs : Rows) (ps : Dues), v = .ref st ∧ u = .ref dt ∧ YardAt a H y hs ∧ StAt H st rs ∧ Good hs rs ∧ DuesAt H dt ps ∧ ps.length ≤ 1000 ∧ CdOk K a e H Q E (boxes rs) (wts hs rs) x (runDues (boxes rs) (ps.map (·.2)) []))
theorem DpAll.strs {K : PySem.W.Frag} {H : Hp} : ∀ l : List Str, DpAll K H (l.map V.str) (l.map PyData.str)
  | [] => .nil
  | _ :: r => .cons (.str _) (DpAll.strs r)
theorem letters_ok : ∀ c ∈ letters.cps.toList, c < 0x110000 := by decide +kernel
theorem name_ok {z : Str} (h : nameB z = true) : PyData.strOk z = true := by
  unfold nameB at h
  rw [Bool.and_eq_true] at h
  have h := List.all_eq_true.mp h.2
  unfold PyData.strOk
  rw [Array.all_eq_true_iff_forall_mem]
  exact fun c hc => decide_eq_true (letters_ok c (of_decide_eq_true (h c (by simpa using hc))))
theorem shaped_strs {l : List Str} (h : ∀ z ∈ l, PyData.strOk z = true) : SeqAt.shaped (.tuple (l.map PyData.str)) = true := by
  have h1 : ∀ l : List Str, (∀ z ∈ l, PyData.strOk z = true) → PyData.canLayAll0 (l.map PyData.str) = true := fun l => by
    induction l with
    | nil => exact fun _ => rfl
    | cons x r ih =>
      intro h
      simp only [List.map_cons, PyData.canLayAll0, PyData.canLay0, Bool.and_eq_true]
      exact ⟨h x List.mem_cons_self, ih fun z hz => h z (List.mem_cons_of_mem _ hz)⟩
  have h2 : ∀ l : List Str, PyData.depthAll (l.map PyData.str) ≤ 1 := fun l => by
    induction l with
    | nil => simp [PyData.depthAll]
    | cons x r ih =>
      simp only [List.map_cons, PyData.depthAll, PyData.depth]
      omega
  unfold SeqAt.shaped
  rw [Bool.and_eq_true]
  refine ⟨by simp only [PyData.canLay0]; exact h1 l h, decide_eq_true ?_⟩
  simp only [PyData.depth]
  have := h2 l
  omega
theorem ok_CheckDues (T : Tx K mg a) (T2 : Tx2 P K mg e) : CaF P w K mg base (L2.CX P w) 6 "check_dues" sCheckDues ["yard", "standing", "dues", "value"] (spCheckDues K a e) := by
  have G1 : Ca P w K mg base (L2.CX P w) 4 "due_table" (spDueTable a e) := ok_DueTable T T2
  have G2 : Ca P w K mg base CX0 5 "wait_table" (spWaitTable a) := ok_WaitTable T T2
  have G3 : Ca P w K mg base CX0 2 "is_number" spIsNumber := ok_IsNumber T
  have G4 : Ca P w K mg base CX0 1 "in_time" spInTime := ok_InTime T
  have G5 : Ca P w K mg base CX0 2 "crowded" spCrowded := ok_Crowded T
  have G6 : Ca P w K mg base CX0 5 "is_order" (spIsOrder a) := ok_IsOrder T T2
  refine caXF T.dCheckDues cCheckDues (fun vs H Q E h => ?_) (fun fa cdv A outer s H vs Q E hr h => ?_)
  · obtain ⟨y, v, u, x, rfl, _⟩ := h
    rfl
  · obtain ⟨y, v, u, x, rfl, h⟩ := h
    have hu := hu_of hr
    have hu64 : (A.deeper (envOfC "check_dues" (defScope sCheckDues) s.heap.objs.size fa cdv)).units + 64 < cLine := hr.units
    refine ⟨_, pss_cons (ps_set (i := 4) cCheckDues.nd rfl (.inl rfl) (pe_cS G1 hr (by decide) (takes_of rfl rfl rfl rfl) (by rfl) (pa_cons (pv 0) (pa_cons (pv 1) (pa_cons (pv 2) pa_nil)))))
      (pss_cons (ps_set (i := 5) cCheckDues.nd rfl (.inr rfl) (pe_c0 G2 hr (by decide) (by rfl) (pa_cons (pv 0) (pa_cons (pv 1) pa_nil))))
      (pss_cons (ps_if (pt_val (pe_callB call_isi (by rfl) T.m_isinstance boot_isi (pa_cons (pv 3) (pa_cons (pe_glob (by rfl) T.gC (show RelV (.ref a.C) (.ref a.C) from rfl)) pa_nil))))
        (pss_cons (ps_if (pw_or (pt_not (pt_val (pe_c0 G3 hr (by decide) (by rfl) (pa_cons (pe_fld (pv 3) rfl) pa_nil)))) (pw_or (pt_not (pt_val (pe_c0 G3 hr (by decide) (by rfl) (pa_cons (pe_fld (pv 3) rfl) pa_nil)))) (pw_or1 (pt_cmpR op_gt (pe_fld (pv 3) rfl) (pe_fld (pv 3) rfl) (nomark _))))).pt
            (pss_one (ps_ret pe_bl)) pss_nil)
        (pss_cons (ps_set (i := 6) cCheckDues.nd rfl (.inl rfl) (pe_c0 G5 hr (by decide) (by rfl) (pa_cons (pv 5) (pa_cons (pv 4) (pa_cons (pe_fld (pv 3) rfl) (pa_cons (pe_fld (pv 3) rfl) pa_nil))))))
        (pss_one (ps_ret (pe_and (pe_cmpR (op_eqD hu64) (pe_fld (pv 3) rfl) (pv 6) (nomark _)) (pe_one (pe_cmpR op_gt (pe_callB call_len_seq (by rfl) T.m_len PySem.boot_len (pa_cons (pv 6) pa_nil)) (pe_op op_sub (pe_fld (pv 3) rfl) (pe_fld (pv 3) rfl)) (nomark _))))))))
        pss_nil)
      (pss_cons (ps_if (pt_not (pt_val (pe_c0 G6 hr (by decide) (by rfl) (pa_cons (pv 0) (pa_cons (pv 1) (pa_cons (pv 3) pa_nil)))))) (pss_one (ps_ret pe_bl)) pss_nil)
      (pss_one (ps_ret (pe_and (pe_c0 G4 hr (by decide) (by rfl) (pa_cons (pv 3) (pa_cons (pv 4) pa_nil))) (pe_one (pe_callB (cr_all rfl) (by rfl) T.m_all boot_all (pa_cons
        (pe_lc (own := [("number", 7), ("box", 8)]) (g := gTup K 2 (gCons (gName 7) (gCons (gName 8) gNil))) (tt := tYes) (te := tOp (rI0 fun i j => .bl (decide (i ≤ j))) (tDGet (tVar 5) (tVar 8)) (tVar 7)) rfl cCheckDues.nd
          (pi_enumT (by rfl) T.m_enumerate (pa_cons (pv 3) pa_nil)) (blkOk_by (N := nCheckDues) (sc := defScope sCheckDues) (by decide +kernel))
          (fun _ _ _ _ _ => by exact pg_tup rfl (pgs_cons (pg_name (i := 7) cCheckDues.nd rfl (Or.inl rfl)) (pgs_cons (pg_name (i := 8) cCheckDues.nd rfl (Or.inl rfl)) pgs_nil)))
          (fun _ _ _ _ _ => pts_nil) (fun _ _ _ _ _ => by exact pe_cmpR op_le (pe_dget hu (pv 5) (pv 8) (fun _ _ => rfl)) (pv 7) (nomark _))) pa_nil))))))))), ?_⟩
    refine ⟨.ref y, rfl, v, rfl, u, rfl, ?_⟩
    unfold tNil
    rcases h with h | ⟨st, dt, hs, rs, ps, rfl, rfl, hy, hst, g, hd, hz, q⟩
    · exact ⟨y, v, u, rfl, .inl (ns_mono (fun _ _ z => z.elim) h)⟩
    · refine ⟨y, _, _, rfl, .inr ⟨st, dt, hs, rs, ps, rfl, rfl, hy, hst, g, hd, hz, ?_⟩⟩
      cases hrun : runDues (boxes rs) (ps.map (·.2)) [] with
      | name z =>
        rw [hrun] at q
        exact q
      | refused =>
        rw [hrun] at q
        exact q
      | size =>
        rw [hrun] at q
        exact q
      | ok t =>
        rw [hrun] at q
        obtain ⟨r1, r2, r3, _⟩ := run_few g hrun
        intro H1 td s1 ntd ptd
        refine ⟨.ref y, rfl, .ref st, rfl, y, st, hs, rs, rfl, hy.same s1, hst.same s1, g, fun H2 wd s2 nwd pwd => ?_⟩
        have s12 := s1.trans s2
        have p2 := ptd.same s2
        have hwd : wd ≠ td := (ne_of_none ptd nwd).symm
        have few := g.few
        rcases q with ⟨r, rfl, hrk, q⟩ | ⟨xa, f, en, b, d, rfl, hx, hf, he, hb, hsd, q⟩
        · obtain ⟨ty, ty1, ty2⟩ := rw_ty T (Rw.ok_same hrk s12)
          refine ⟨r.v, rfl, r.v, .ref a.C, ty, .ref a.C, false, rfl, .own _, ty1, ty2, false, rfl, iteF ?_⟩
          refine ⟨.ref y, rfl, .ref st, rfl, r.v, rfl, y, st, hs, rs, r, rfl, hy.same s12, hst.same s12, g, Rw.ok_same hrk s12, fun H3 s3 => ?_⟩
          have s13 := s12.trans s3
          refine ⟨_, rfl, ?_⟩
          have ck : isOrd (boxes rs) r = false → ckOrd (boxes rs) (wts hs rs) t r = false := fun h => by
            unfold ckOrd
            rw [h]
            rfl
          cases ho : isOrd (boxes rs) r with
          | false =>
            refine iteT ?_
            rw [ck ho] at q
            exact q H3 s13
          | true =>
            refine iteF ?_
            cases r with
            | bad v => cases ho
            | row rt xs =>
              have ho : (goes xs (lot (boxes rs)) && decide (xs.length = (boxes rs).length)) = true := ho
              rw [Bool.and_eq_true] at ho
              have hlen := of_decide_eq_true ho.2
              obtain ⟨g1, g2, g3⟩ := goes_names ho.1
              generalize hzs : xs.map txtV = zs at g1 g2 g3
              have hzl : zs.length = (boxes rs).length := by rw [← hzs, List.length_map, hlen]
              have e1 : ckOrd (boxes rs) (wts hs rs) t (.row rt xs) = (inTime t zs && (outW (wts hs rs) zs).all id) := by
                show ((goes xs (lot (boxes rs)) && decide (xs.length = (boxes rs).length)) && (inTime t (xs.map txtV) && (outW (wts hs rs) (xs.map txtV)).all id)) = _
                rw [ho.1, ho.2, hzs]
                rfl
              rw [e1] at q
              have hrt : H3 rt = some (.tup (zs.map V.str)) := by
                have := s13 _ _ hrk.1
                rw [g1] at this
                exact this
              refine ⟨.ref rt, rfl, .ref td, rfl, rt, td, zs, t, rfl, hrt, p2.same s3, by omega, fun H4 s4 => ?_⟩
              refine ⟨_, rfl, ?_⟩
              cases hin : inTime t zs with
              | false =>
                refine iteF ?_
                rw [hin] at q
                exact q H4 (s13.trans s4)
              | true =>
                refine iteT ?_
                rw [hin, Bool.true_and] at q
                refine ⟨.ref rt, rfl, rt, _, rfl, .of (s4 _ _ hrt), fun D hD => ?_⟩
                have pw4 := (pwd.same s3).same s4
                refine lc_it (walk_enumM (l := zs) (f := V.str)) (fun i H' => LcS H4 D ((outW (wts hs rs) (zs.take i)).map V.bl) H') (LcS.zero hD) (fun i H' _ h => .of (h.1 _ _ (s4 _ _ hrt))) ?_ ?_
                · rintro i x H5 H6 hi c ⟨T1, z, rfl, hT, rfl, hz1⟩
                  refine ⟨T1, _, rfl, .of upd_same, rfl, .int i, [.str z], rfl, .str z, [], rfl, rfl, ?_⟩
                  have c3 : LcS H4 D ((outW (wts hs rs) (zs.take i)).map V.bl) (upd H5 T1 (.tup [.int i, .str z])) := c.to (same_new hT)
                  generalize upd H5 T1 (.tup [.int i, .str z]) = H6 at c3 ⊢
                  have hzk : z ∈ (wts hs rs).map (·.1) := by
                    rw [waitL_keys]
                    exact mem_lot.mp (g2 z (List.mem_of_getElem? hz1))
                  obtain ⟨m, hm⟩ := lookup_mem hzk
                  have hm : (wts hs rs).lookup z = some m := hm
                  have ewv : wv (wts hs rs) z = m := by
                    unfold wv
                    rw [hm]
                    rfl
                  refine ⟨rfl, yesT ?_⟩
                  refine ⟨.ref wd, rfl, .str z, rfl, wd, .int m, rfl, ?_, .int i, rfl, m, i, rfl, rfl, ?_⟩
                  · have := DGet.k (k := Sum.inr z) (c3.1 _ _ pw4)
                    rw [valV_pkv, hm] at this
                    exact this
                  · refine LcS.step hD c3 (Same.refl _) ?_ ?_
                    · unfold outW
                      rw [List.length_map, List.length_mapIdx]
                      have h2 := List.length_take_le' i zs
                      exact small1000 (by omega)
                    · unfold outW
                      rw [List.take_add_one, hz1]
                      show (List.mapIdx _ (zs.take i ++ [z])).map V.bl = _
                      rw [List.mapIdx_concat, List.map_append, List.length_take, Nat.min_eq_left (Nat.le_of_lt hi), ewv]
                      rfl
                · intro H5 c
                  rw [List.take_length] at c
                  exact ⟨D, _, rfl, .of c.2, q H5 ((s13.trans s4).trans c.1)⟩
        · obtain ⟨dx, hx⟩ := hx
          have hx2 := s12 _ _ hx
          refine ⟨.ref xa, rfl, .ref xa, .ref a.C, .ref a.C, .ref a.C, true, rfl, .own _, T.isC.ty hx2, T.isC.me, true, rfl, iteT ?_⟩
          refine ⟨.ref xa, rfl, xa, a.C, dx, _, f, rfl, hx2, T.clC, T.naC1, rfl, ?_⟩
          refine ⟨f, rfl, hf, isNumV f, by cases f <;> rfl, ?_⟩
          cases hnf : isNumV f with
          | false =>
            rw [ckCr_f hnf] at q
            exact q H2 s12
          | true =>
            refine ⟨.ref xa, rfl, xa, a.C, dx, _, en, rfl, hx2, T.clC, T.naC2, rfl, ?_⟩
            refine ⟨en, rfl, he, isNumV en, by cases en <;> rfl, ?_⟩
            cases hne : isNumV en with
            | false =>
              rw [ckCr_e hne] at q
              exact q H2 s12
            | true =>
              obtain ⟨i, rfl, hi⟩ := numV hnf
              obtain ⟨j, rfl, hj⟩ := numV hne
              have ec : ckCr (wts hs rs) t d (.int i) (.int j) = (decide (i ≤ j) && PyData.eqv d (.tuple ((lot (crowdL (wts hs rs) t i j)).map PyData.str)) && decide (j - i < ((crowdL (wts hs rs) t i j).length : Nat))) := by
                show (decide (0 ≤ i) && decide (0 ≤ j) && decide (i ≤ j) && _ && _) = _
                rw [decide_eq_true hi, decide_eq_true hj]
                rfl
              rw [ec] at q
              refine ⟨.ref xa, rfl, xa, a.C, dx, _, (.int i), rfl, hx2, T.clC, T.naC1, rfl, ?_⟩
              refine ⟨.ref xa, rfl, xa, a.C, dx, _, (.int j), rfl, hx2, T.clC, T.naC2, rfl, ?_⟩
              refine ⟨i, j, rfl, rfl, _, rfl, ?_⟩
              refine ite2 (fun hgt => ?_) (fun hgt => ?_)
              · have hgt := of_decide_eq_true hgt
                rw [decide_eq_false (show ¬ i ≤ j by omega)] at q
                exact q H2 s12
              · have hle : i ≤ j := Int.not_lt.mp fun z => hgt (decide_eq_true z)
                rw [decide_eq_true hle, Bool.true_and] at q
                refine ⟨.ref wd, rfl, .ref td, rfl, .ref xa, rfl, xa, a.C, dx, _, (.int i), rfl, hx2, T.clC, T.naC1, rfl, ?_⟩
                refine ⟨.ref xa, rfl, xa, a.C, dx, _, (.int j), rfl, hx2, T.clC, T.naC2, rfl, ?_⟩
                refine ⟨wd, td, wts hs rs, t, i, j, rfl, pwd, p2, hwd, fun p hp => by rw [waitL_keys]; exact r1 p hp, r2, r3, fun H3 p s3 hp hpt => ?_⟩
                have s13 := s12.trans s3
                have hx3 := s3 _ _ hx2
                refine ⟨.ref xa, rfl, xa, a.C, dx, _, b, rfl, hx3, T.clC, T.naC3, rfl, ?_⟩
                refine ⟨.ref p, rfl, d, .tuple ((lot (crowdL (wts hs rs) t i j)).map PyData.str), hb H3 s13, .tup (.of hpt) (DpAll.strs _), hsd, shaped_strs fun z hz => name_ok (g.names z (by
                  have h1 := mem_lot.mp hz
                  have h2 := (crowd_sub (wts hs rs) t i j).subset h1
                  obtain ⟨pr, h3, rfl⟩ := List.mem_map.mp h2
                  exact r1 pr h3)), _, rfl, ?_⟩
                cases hq : PyData.eqv d (.tuple ((lot (crowdL (wts hs rs) t i j)).map PyData.str)) with
                | false =>
                  rw [hq] at q
                  refine iteF ?_
                  exact q H3 s13
                | true =>
                  rw [hq, Bool.true_and] at q
                  refine iteT ?_
                  refine ⟨.ref p, rfl, p, _, rfl, .inr (.of hpt), .ref xa, rfl, xa, a.C, dx, _, (.int j), rfl, hx3, T.clC, T.naC2, rfl, ?_⟩
                  refine ⟨.ref xa, rfl, xa, a.C, dx, _, (.int i), rfl, hx3, T.clC, T.naC1, rfl, ?_⟩
                  refine ⟨j, i, rfl, rfl, _, _, rfl, rfl, ?_⟩
                  rw [List.length_map, lot_length]
                  exact q H3 s13
end
end K34
end
section
set_option linter.all false
set_option maxRecDepth 100000
/-! == of crowds; calls by keywords. -/
namespace K34
open PySem PySem.Spec PyProof.Rows L2 LamX
def g3 {A : Type} (us ws : List A) : List A := match us, ws with
  | [], [d, y, s] => [y, s, d]
  | _, _ => []
def g4 {A : Type} (us ws : List A) : List A := match us, ws with
  | [], [d, v, y, s] => [y, s, d, v]
  | _, _ => []
theorem g3_len {A : Type} {us ws : List A} (h : (g3 us ws).length = 3) : ∃ d y s, us = [] ∧ ws = [d, y, s] := by
  unfold g3 at h
  split at h
  · exact ⟨_, _, _, rfl, rfl⟩
  · cases h
theorem g4_len {A : Type} {us ws : List A} (h : (g4 us ws).length = 4) : ∃ d v y s, us = [] ∧ ws = [d, v, y, s] := by
  unfold g4 at h
  split at h
  · exact ⟨_, _, _, _, rfl, rfl⟩
  · cases h
theorem g3_rel {vs : List V} {us : List Value} {zs : List V} {ws : List Value} (h : Vals vs us) (k : Vals zs ws) : Vals (g3 vs zs) (g3 us ws) := by
  cases h with
  | nil =>
    cases k with
    | nil => exact .nil
    | cons a k =>
      cases k with
      | nil => exact .nil
      | cons b k =>
        cases k with
        | nil => exact .nil
        | cons c k =>
          cases k with
          | nil => exact .cons b (.cons c (.cons a .nil))
          | cons d k => exact .nil
  | cons _ _ => exact .nil
theorem g4_rel {vs : List V} {us : List Value} {zs : List V} {ws : List Value} (h : Vals vs us) (k : Vals zs ws) : Vals (g4 vs zs) (g4 us ws) := by
  cases h with
  | nil =>
    cases k with
    | nil => exact .nil
    | cons a k =>
      cases k with
      | nil => exact .nil
      | cons b k =>
        cases k with
        | nil => exact .nil
        | cons c k =>
          cases k with
          | nil => exact .nil
          | cons d k =>
            cases k with
            | nil => exact .cons c (.cons d (.cons a (.cons b .nil)))
            | cons _ _ => exact .nil
  | cons _ _ => exact .nil
section
variable {P : Program} {w : World} {K : PySem.W.Frag} {mg : Str → Option Value} {base : Heap} {a : Ad} {e : Ae}
theorem kb_DueOrder {f : Addr} {fd : FuncData} (F : Fun K "due_order" "due_order" sDueOrder f fd) : KBinds K fd ["yard", "standing", "dues"] ["dues", "yard", "standing"] g3 g3 := by
  obtain ⟨oc, od, kV, doc, pm, an, cdv, ct, osl, rfl, lk, hcd⟩ := F.ex
  refine ⟨fun s us ws _ hl => ?_, fun h k => g3_rel h k⟩
  obtain ⟨d, y, s', rfl, rfl⟩ := g3_len hl
  exact .of_eq rfl
theorem kb_CheckDues {f : Addr} {fd : FuncData} (F : Fun K "check_dues" "check_dues" sCheckDues f fd) : KBinds K fd ["yard", "standing", "dues", "value"] ["dues", "value", "yard", "standing"] g4 g4 := by
  obtain ⟨oc, od, kV, doc, pm, an, cdv, ct, osl, rfl, lk, hcd⟩ := F.ex
  refine ⟨fun s us ws _ hl => ?_, fun h k => g4_rel h k⟩
  obtain ⟨d, v, y, s', rfl, rfl⟩ := g4_len hl
  exact .of_eq rfl
/-- == of two crowds -/
def spCrowdEq (K : PySem.W.Frag) (a : Ad) : Sp := fun vs H Q _ => ∃ (x y : Addr) (f1 e1 f2 e2 : Int) (b1 b2 : V) (d1 d2 : PyData), vs = [.ref x, .ref y] ∧ CrowdAt a H x (.int f1) (.int e1) b1 ∧ CrowdAt a H y (.int f2) (.int e2) b2 ∧ Dp K H b1 d1 ∧ Dp K H b2 d2 ∧
  SeqAt.shaped d1 = true ∧ SeqAt.shaped d2 = true ∧ Q (.bl (decide (f1 = f2) && decide (e1 = e2) && PyData.eqv d1 d2)) H
/-- how crowds are compared -/
structure CrEq (K : PySem.W.Frag) (a : Ad) : Prop where
  ex : ∃ f fd, PySem.W.findIn K (.ref a.C) "__eq__" = some (some (.ref f)) ∧ PySem.W.isFn K (.ref f) = true ∧ Fun K "__eq__" "Crowd.__eq__" sCrowdEq f fd ∧ Binds K fd ["self", "other"] []
theorem decV (i j : Int) : decide (V.int i = V.int j) = decide (i = j) := by
  by_cases h : i = j
  · rw [decide_eq_true h, decide_eq_true (by rw [h])]
  · rw [decide_eq_false h, decide_eq_false fun z => h (V.int.inj z)]
theorem ok_CrowdEq (T : Tx K mg a) (C : CrEq K a) : ∃ f fd, FnOk P w K mg base CX0 1 f fd ["self", "other"] (spCrowdEq K a) ∧ PySem.W.findIn K (.ref a.C) "__eq__" = some (some (.ref f)) ∧ PySem.W.isFn K (.ref f) = true ∧ Binds K fd ["self", "other"] [] := by
  obtain ⟨f, fd, e1, e2, F, b⟩ := C.ex
  refine ⟨f, fd, F.ok cCrowdEq (fun vs H Q E h => ?_) (fun cdv A outer s H vs Q E hr h => ?_), e1, e2, b⟩
  · obtain ⟨x, y, f1, e1, f2, e2, b1, b2, d1, d2, rfl, _⟩ := h
    rfl
  · obtain ⟨x, y, f1, e1, f2, e2, b1, b2, d1, d2, rfl, ⟨dx, hx⟩, ⟨dy, hy⟩, p1, p2, s1, s2, q⟩ := h
    refine ⟨_, pss_cons (ps_if (pt_not (pt_val (pe_callB call_isi (by rfl) T.m_isinstance boot_isi (pa_cons (pv 1) (pa_cons (pe_glob (by rfl) T.gC (show RelV (.ref a.C) (.ref a.C) from rfl)) pa_nil))))) (pss_one (ps_ret pe_bl)) pss_nil)
      (pss_one (ps_ret (pe_and (pe_cmpR op_eq (pe_fld (pv 0) rfl) (pe_fld (pv 1) rfl) (nomark _)) (pe_and (pe_cmpR op_eq (pe_fld (pv 0) rfl) (pe_fld (pv 1) rfl) (nomark _)) (pe_one (pe_cmpR (op_eqD hr.units) (pe_fld (pv 0) rfl) (pe_fld (pv 1) rfl) (nomark _))))))), ?_⟩
    refine ⟨.ref y, rfl, .ref y, .ref a.C, .ref a.C, .ref a.C, true, rfl, .own _, T.isC.ty hy, T.isC.me, true, rfl, iteF ?_⟩
    refine ⟨.ref x, rfl, x, a.C, dx, _, .int f1, rfl, hx, T.clC, T.naC1, rfl, .ref y, rfl, y, a.C, dy, _, .int f2, rfl, hy, T.clC, T.naC1, rfl, rfl, _, rfl, ?_⟩
    rw [decV]
    cases h1 : decide (f1 = f2) with
    | false =>
      rw [h1] at q
      exact iteF q
    | true =>
      rw [h1, Bool.true_and] at q
      refine iteT ?_
      refine ⟨.ref x, rfl, x, a.C, dx, _, .int e1, rfl, hx, T.clC, T.naC2, rfl, .ref y, rfl, y, a.C, dy, _, .int e2, rfl, hy, T.clC, T.naC2, rfl, rfl, _, rfl, ?_⟩
      rw [decV]
      cases h2 : decide (e1 = e2) with
      | false =>
        rw [h2] at q
        exact iteF q
      | true =>
        rw [h2, Bool.true_and] at q
        refine iteT ?_
        exact ⟨.ref x, rfl, x, a.C, dx, _, b1, rfl, hx, T.clC, T.naC3, rfl, .ref y, rfl, y, a.C, dy, _, b2, rfl, hy, T.clC, T.naC3, rfl, d1, d2, p1, p2, s1, s2, q⟩
end
end K34
end
section
set_option linter.all false
set_option maxRecDepth 100000
/-! The law's source of numbers. -/
namespace K34
open PySem PySem.Spec PyProof.Rows L2 LamX
/-- the law's source stands at p, its list at l -/
def SrcAt (H : Hp) (p l : Addr) : Prop := p ≠ l ∧ ∃ (ks : List Int) (m : Int), H p = some (.lst [.ref l, .int m]) ∧ H l = some (.lst (ks.map V.int)) ∧ ks.length ≤ 63
/-- what a helper of the law leaves: all but the source stands -/
structure Lw (p l : Addr) (H H' : Hp) : Prop where
  keep : ∀ b o, H b = some o → b ≠ p → b ≠ l → H' b = some o
  src : SrcAt H' p l
section
variable {p l : Addr} {H H1 H2 : Hp}
theorem SrcAt.same (h : SrcAt H p l) (s : Same H H1) : SrcAt H1 p l := by
  obtain ⟨n, ks, m, h1, h2, h3⟩ := h
  exact ⟨n, ks, m, s _ _ h1, s _ _ h2, h3⟩
theorem Lw.of (h : SrcAt H p l) (s : Same H H1) : Lw p l H H1 := ⟨fun b o e _ _ => s b o e, h.same s⟩
theorem Lw.refl (h : SrcAt H p l) : Lw p l H H := Lw.of h (Same.refl _)
theorem Lw.trans (a : Lw p l H H1) (b : Lw p l H1 H2) : Lw p l H H2 := ⟨fun c o e h1 h2 => b.keep c o (a.keep c o e h1 h2) h1 h2, b.src⟩
theorem Lw.same (a : Lw p l H H1) (s : Same H1 H2) : Lw p l H H2 := a.trans (Lw.of a.src s)
theorem SrcAt.np (h : SrcAt H p l) {b : Addr} {o : HO} (e : H b = some o) (n : ∀ xs, o ≠ .lst xs) : b ≠ p ∧ b ≠ l := by
  obtain ⟨_, ks, m, h1, h2, _⟩ := h
  refine ⟨fun z => ?_, fun z => ?_⟩
  · rw [z, h1] at e
    exact n _ (Option.some.inj e).symm
  · rw [z, h2] at e
    exact n _ (Option.some.inj e).symm
/-- what is no list stands -/
theorem Lw.get (h : SrcAt H p l) (a : Lw p l H H1) {b : Addr} {o : HO} (e : H b = some o) (n : ∀ xs, o ≠ .lst xs) : H1 b = some o := a.keep b o e (h.np e n).1 (h.np e n).2
theorem Lw.free (a : Lw p l H H1) {b : Addr} (e : H1 b = none) : H b = none := by
  cases h : H b with
  | none => rfl
  | some o =>
    obtain ⟨_, ks, m, h1, h2, _⟩ := a.src
    have n1 : b ≠ p := fun z => by
      rw [z, h1] at e
      cases e
    have n2 : b ≠ l := fun z => by
      rw [z, h2] at e
      cases e
    rw [a.keep b o h n1 n2] at e
    cases e
theorem SrcAt.new (h : SrcAt H p l) {b : Addr} (e : H b = none) : b ≠ p ∧ b ≠ l := by
  obtain ⟨_, ks, m, h1, h2, _⟩ := h
  refine ⟨fun z => ?_, fun z => ?_⟩
  · rw [z, h1] at e
    cases e
  · rw [z, h2] at e
    cases e
end
section
variable {P : Program} {w : World} {K : PySem.W.Frag} {mg : Str → Option Value} {base : Heap} {a : Ad} {e : Ae}
def spLNumber : Sp := fun vs H Q _ => ∃ (p l : Addr) (n : Nat), vs = [.ref p, .int n] ∧ SrcAt H p l ∧ 0 < n ∧ n < 1073741824 ∧ ∀ H' (k : Nat), Lw p l H H' → k < n → Q (.int k) H'
theorem atI_last {xs : List V} {x : V} : atI (xs ++ [x]) (-1) = some x := by
  unfold atI ixN
  rw [if_neg (by decide), if_pos (by rw [List.length_append]; simp; omega), List.length_append]
  show (xs ++ [x])[(-1 + ((xs.length + 1 : Nat) : Int)).toNat]? = some x
  rw [show (-1 + ((xs.length + 1 : Nat) : Int)).toNat = xs.length by omega]
  simp
theorem snoc_cases {A : Type} (l : List A) : l = [] ∨ ∃ r x, l = r ++ [x] := by
  rcases List.eq_nil_or_concat l with h | ⟨r, x, h⟩
  · exact .inl h
  · exact .inr ⟨r, x, by rw [h, List.concat_eq_append]⟩
theorem Lw.putl {p l : Addr} {H H1 : Hp} {m : Int} {ks : List Int} (lw : Lw p l H H1) (h : H1 p = some (.lst [.ref l, .int m])) (hk : ks.length ≤ 63) : Lw p l H (upd H1 l (.lst (ks.map V.int))) :=
  ⟨fun b o e h1 h2 => by rw [upd_ne h2]; exact lw.keep b o e h1 h2, lw.src.1, ks, m, by rw [upd_ne lw.src.1]; exact h, upd_same, hk⟩
theorem Lw.putp {p l : Addr} {H H1 : Hp} {m : Int} {ks : List Int} (lw : Lw p l H H1) (h : H1 l = some (.lst (ks.map V.int))) (hk : ks.length ≤ 63) : Lw p l H (upd H1 p (.lst [.ref l, .int m])) :=
  ⟨fun b o e h1 h2 => by rw [upd_ne h1]; exact lw.keep b o e h1 h2, lw.src.1, ks, m, upd_same, by rw [upd_ne lw.src.1.symm]; exact h, hk⟩
theorem while_gen {c : TT} {tb : TS} {D : Ends} {σ : L2.St} {H : Hp} (X : L2.St → Hp → Prop) (hx : ∀ σ H, X σ H → D.nx σ H) (h : ∀ nx : L2.St → Hp → Prop, (∀ σ H, X σ H → nx σ H) → tWhile c tb { D with nx := nx } σ H) : tWhile c tb D σ H := h D.nx hx
theorem ok_LNumber (T : Tx K mg a) : Ca P w K mg base CX0 1 "_law_number" spLNumber := by
  refine ca0 T.dLNumber cLNumber (fun vs H Q E h => ?_) (fun f cdv A outer s H vs Q E hr h => ?_)
  · obtain ⟨p, l, n, rfl, _⟩ := h
    rfl
  · obtain ⟨p, l, n, rfl, hs, hn, hn2, q⟩ := h
    have hu := hu_of hr
    refine ⟨_, pss_cons (ps_while PassesOwn.never (pw_and (pt_cmpR (op_neE (Nat.lt_of_succ_lt hu)) (pe_ix ix_list (pv 0) pe_int (fun _ _ => rfl)) (pe_lst pa_nil) (by rfl))
          (pw_and1 (pt_cmpR op_eq (pe_ix ix_list (pe_ix ix_list (pv 0) pe_int (fun _ _ => rfl)) (pe_un un_neg pe_int) (fun _ _ => rfl)) pe_int (by rfl)))).pt
        (pss_one (ps_expr (pe_bm0 PySem.F.plainAttrs_list PySem.F.slot_list_pop PySem.F.type_list_pop mt_pop (pe_ix ix_list (pv 0) pe_int (fun _ _ => rfl))))))
      (pss_cons (ps_if (pt_cmpR (op_neE (Nat.lt_of_succ_lt hu)) (pe_ix ix_list (pv 0) pe_int (fun _ _ => rfl)) (pe_lst pa_nil) (by rfl))
        (pss_cons (ps_set (i := 2) cLNumber.nd rfl (.inl rfl) (pe_callTy call_int1 (by rfl) T.m_int PyProof.Rows.boot_int (pa_cons (pe_bm0 PySem.F.plainAttrs_list PySem.F.slot_list_pop PySem.F.type_list_pop mt_pop (pe_ix ix_list (pv 0) pe_int (fun _ _ => rfl))) pa_nil)))
        (pss_cons (ps_expr (pe_bm PySem.F.plainAttrs_list PySem.F.slot_list_append PySem.F.type_list_append mt_append (pe_ix ix_list (pv 0) pe_int (fun _ _ => rfl)) (pa_cons (pe_op op_fdiv (pv 2) (pv 1)) pa_nil)))
        (pss_one (ps_ret (pe_op op_mod (pv 2) (pv 1)))))) pss_nil)
      (pss_cons (ps_asg (pe_op op_mod (pe_callTy call_int1 (by rfl) T.m_int PyProof.Rows.boot_int (pa_cons (pe_op op_add (pe_op op_mul (pe_ix ix_list (pv 0) pe_int (fun _ _ => rfl)) pe_int) pe_int) pa_nil)) pe_int) (pg_sub (pv 0) pe_int set_list (fun _ => rfl)))
      (pss_one (ps_ret (pe_op op_mod (pe_callTy call_int1 (by rfl) T.m_int PyProof.Rows.boot_int (pa_cons (pe_op op_fdiv (pe_ix ix_list (pv 0) pe_int (fun _ _ => rfl)) pe_int) pa_nil)) (pv 1)))))), ?_⟩
    have lw0 := Lw.refl hs
    refine while_gen (fun σ H' => σ = [some (.ref p), some (.int n), none] ∧ Lw p l H H') ?_ fun nx hnx => ⟨fun m σ H' => σ = [some (.ref p), some (.int n), none] ∧ Lw p l H H' ∧ ∃ (ks : List Int) (m0 : Int), H' p = some (.lst [.ref l, .int m0]) ∧ H' l = some (.lst (ks.map V.int)) ∧ ks.length = m ∧ m ≤ 63, ?_, ?_⟩
    · rintro σ H1 ⟨rfl, lw⟩
      have npl := hs.1
      obtain ⟨_, ks, m0, h1, h2, h3⟩ := id lw.src
      refine ⟨.ref p, rfl, p, _, 0, .ref l, rfl, rfl, .of h1, atI_zero, Nat.zero_le _, fun E0 hE0 => ?_⟩
      have s2 := same_new (o := .lst []) hE0
      have e2 : upd H1 E0 (.lst []) E0 = some (.lst []) := upd_same
      generalize upd H1 E0 (.lst []) = H2 at s2 e2 ⊢
      have lw2 := lw.same s2
      have h12 := s2 _ _ h1
      have h22 := s2 _ _ h2
      refine ⟨l, E0, ks.map V.int, rfl, rfl, .inl ⟨.of h22, .of e2⟩, _, rfl, ?_⟩
      rcases snoc_cases ks with rfl | ⟨ks', k, rfl⟩
      · refine iteF' rfl ?_
        refine ⟨.ref p, rfl, p, _, 1, .int m0, rfl, rfl, .of h12, rfl, ?_⟩
        refine ⟨m0, 69069, rfl, rfl, .inr ⟨by decide, by decide⟩, _, 5, rfl, rfl, .inl ⟨_, rfl, _, 2147483647, rfl, rfl, (by show (0 : Int) < 2147483647; decide), ?_⟩⟩
        refine ⟨.ref p, rfl, p, _, 1, 1, rfl, rfl, h12, rfl, ?_⟩
        have lw3 : Lw p l H (upd H2 p (.lst [.ref l, .int ((m0 * 69069 + 5) % 2147483647)])) := lw2.putp h22 h3
        refine ⟨.ref p, rfl, p, _, 1, .int ((m0 * 69069 + 5) % 2147483647), rfl, rfl, .of upd_same, rfl, ?_⟩
        refine ⟨_, 32, rfl, rfl, ⟨by decide, by decide⟩, .inl ⟨_, rfl, .int n, rfl, _, n, rfl, rfl, (by show (0 : Int) < n; omega), ?_⟩⟩
        have hm := Int.emod_nonneg ((m0 * 69069 + 5) % 2147483647 / 32) (show (n : Int) ≠ 0 by omega)
        have hm2 := Int.emod_lt_of_pos ((m0 * 69069 + 5) % 2147483647 / 32) (show (0 : Int) < n by omega)
        have := q _ ((m0 * 69069 + 5) % 2147483647 / 32 % n).toNat lw3 (by omega)
        rw [Int.toNat_of_nonneg hm] at this
        exact this
      · have ek : List.map V.int (ks' ++ [k]) = ks'.map V.int ++ [.int k] := by rw [List.map_append]; rfl
        have hne : (!(List.map V.int (ks' ++ [k])).isEmpty) = true := by
          rw [ek]
          cases ks'.map V.int <;> rfl
        refine iteT' hne ?_
        have h23 := h22
        rw [ek] at h23
        rw [List.length_append] at h3
        have h3 : ks'.length + 1 ≤ 63 := h3
        refine ⟨.ref p, rfl, p, _, 0, .ref l, rfl, rfl, .of h12, atI_zero, .inl ⟨rfl, _, .of h23⟩, l, ks'.map V.int ++ [.int k], .int k, rfl, rfl, h23, by simp, ?_⟩
        rw [List.dropLast_concat]
        have lw3 : Lw p l H (upd H2 l (.lst (ks'.map V.int))) := lw2.putl h12 (by omega)
        have l3 : upd H2 l (.lst (ks'.map V.int)) l = some (.lst (ks'.map V.int)) := upd_same
        have p3 : upd H2 l (.lst (ks'.map V.int)) p = some (.lst [.ref l, .int m0]) := by
          rw [upd_ne npl]
          exact h12
        generalize upd H2 l (.lst (ks'.map V.int)) = H3 at lw3 l3 p3 ⊢
        refine .inl ⟨k, rfl, ?_⟩
        refine ⟨.ref p, rfl, p, _, 0, .ref l, rfl, rfl, .of p3, atI_zero, .inl ⟨rfl, _, .of l3⟩, .int k, rfl, .int n, rfl, k, n, rfl, rfl, ⟨by omega, by omega⟩, l, _, _, rfl, rfl, l3, by rw [List.length_map]; exact small1000 (by omega), ?_⟩
        have lw4 : Lw p l H (upd H3 l (.lst (ks'.map V.int ++ [.int (k / n)]))) := by
          have := lw3.putl (ks := ks' ++ [k / n]) p3 (by rw [List.length_append]; exact h3)
          rw [List.map_append] at this
          exact this
        refine ⟨.int k, rfl, .int n, rfl, k, n, rfl, rfl, (by show (0 : Int) < n; omega), ?_⟩
        have hm := Int.emod_nonneg k (show (n : Int) ≠ 0 by omega)
        have hm2 := Int.emod_lt_of_pos k (show (0 : Int) < n by omega)
        have := q _ (k % n).toNat lw4 (by omega)
        rw [Int.toNat_of_nonneg hm] at this
        exact this
    · obtain ⟨_, ks, m, h1, h2, h3⟩ := id hs
      exact ⟨ks.length, rfl, lw0, ks, m, h1, h2, rfl, h3⟩
    · rintro m σ H1 ⟨rfl, lw, ks, m0, h1, h2, h3, h4⟩
      have npl := hs.1
      refine ⟨.ref p, rfl, p, _, 0, .ref l, rfl, rfl, .of h1, atI_zero, Nat.zero_le _, fun E0 hE0 => ?_⟩
      have s2 := same_new (o := .lst []) hE0
      have e2 : upd H1 E0 (.lst []) E0 = some (.lst []) := upd_same
      generalize upd H1 E0 (.lst []) = H2 at s2 e2 ⊢
      have lw2 := lw.same s2
      have h12 := s2 _ _ h1
      have h22 := s2 _ _ h2
      refine ⟨l, E0, ks.map V.int, rfl, rfl, .inl ⟨.of h22, .of e2⟩, _, rfl, ?_⟩
      rcases snoc_cases ks with rfl | ⟨ks', k, rfl⟩
      · exact iteF' rfl (iteF' rfl (hnx _ _ ⟨rfl, lw2⟩))
      · have ek : List.map V.int (ks' ++ [k]) = ks'.map V.int ++ [.int k] := by rw [List.map_append]; rfl
        have hne : (!(List.map V.int (ks' ++ [k])).isEmpty) = true := by
          rw [ek]
          cases ks'.map V.int <;> rfl
        refine iteT' hne ?_
        rw [ek] at h22
        rw [List.length_append] at h3
        have h3 : ks'.length + 1 = m := h3
        refine ⟨.ref p, rfl, p, _, 0, .ref l, rfl, rfl, .of h12, atI_zero, 1, rfl, l, _, -1, .int k, rfl, rfl, .of h22, atI_last, rfl, _, rfl, ?_⟩
        refine ite2 (fun hk => ?_) (fun hk => hnx _ _ ⟨rfl, lw2⟩)
        refine ⟨fun σ' H' => σ' = [some (.ref p), some (.int n), none] ∧ Lw p l H H' ∧ H' p = some (.lst [.ref l, .int m0]) ∧ H' l = some (.lst (ks'.map V.int)), fun σ' H' ⟨a1, a2, a3, a4⟩ => ⟨ks'.length, by omega, a1, a2, ks', m0, a3, a4, rfl, by omega⟩, ?_⟩
        refine ⟨.ref p, rfl, p, _, 0, .ref l, rfl, rfl, .of h12, atI_zero, .inl ⟨rfl, _, .of h22⟩, l, ks'.map V.int ++ [.int k], .int k, rfl, rfl, h22, by simp, ?_⟩
        rw [List.dropLast_concat]
        exact ⟨rfl, lw2.putl h12 (by omega), by rw [upd_ne npl]; exact h12, upd_same⟩
end
end K34
end
section
set_option linter.all false
set_option maxRecDepth 100000
/-! The law's source is made; one of some; some mixed. -/
namespace K34
open PySem PySem.Spec PyProof.Rows L2 LamX
theorem cut_map {A : Type} (f : A → V) (ns : List A) (lo hi : Option Int) : ∃ ms : List A, cutV (ns.map f) lo hi = ms.map f ∧ ms.Sublist ns := by
  refine ⟨(ns.drop (HT.sIx (ns.map f).length 0 lo)).take (HT.sIx (ns.map f).length (ns.map f).length hi - HT.sIx (ns.map f).length 0 lo), ?_, (List.take_sublist _ _).trans (List.drop_sublist _ _)⟩
  unfold cutV
  rw [List.map_take, List.map_drop]
def absI (i : Int) : Int := if i < 0 then -i else i
section
variable {P : Program} {w : World} {K : PySem.W.Frag} {mg : Str → Option Value} {base : Heap} {a : Ad} {e : Ae}
def spLSource (K : PySem.W.Frag) : Sp := fun vs H Q _ => ∃ (s : Addr) (ns : List Int) (b : Int), vs = [.ref s, .int b] ∧ SqL K H s (ns.map V.int) ∧ ns.length ≤ 63 ∧ ∀ H' p l, Same H H' → SrcAt H' p l → H p = none → H l = none → Q (.ref p) H'
theorem ok_LSource (T : Tx K mg a) : Ca P w K mg base CX0 1 "_law_source" (spLSource K) := by
  refine ca0 T.dLSource cLSource (fun vs H Q E h => ?_) (fun f cdv A outer s H vs Q E hr h => ?_)
  · obtain ⟨s, ns, b, rfl, _⟩ := h
    rfl
  · obtain ⟨sc, ns, b, rfl, hs, hn, q⟩ := h
    refine ⟨_, pss_cons (ps_setLc (i := 3) (own := [("_law_cell", 2)]) (g := gName 2) (tt := tYes) (te := tCB (fun xs H Q => ∃ i, xs = [V.int i] ∧ Q (V.int (if i < 0 then -i else i)) H) (tCons (tCB (fun xs H Q => (∃ i, xs = [V.int i] ∧ Q (V.int i) H) ∨ ∃ k, xs = [V.bl k] ∧ Q (V.int (if k then 1 else 0)) H) (tCons (tVar 2) tNil)) tNil)) rfl cLSource.nd rfl rfl (sw_true rfl rfl rfl (by decide +kernel))
          (pi_list (pe_slice sl_list (pv 0) po_none (po_some pe_int))) (blkOk_by (N := nLSource) (sc := defScope sLSource) (by decide +kernel))
          (fun _ _ _ _ _ => by exact pg_name (i := 2) cLSource.nd rfl (Or.inl rfl)) (fun _ _ _ _ _ => pts_nil) (fun _ _ _ _ _ => by exact pe_callB call_abs (by rfl) T.m_abs boot_abs (pa_cons (pe_callTy call_int1 (by rfl) T.m_int PyProof.Rows.boot_int (pa_cons (pv 2) pa_nil)) pa_nil)))
      (pss_cons (ps_set (i := 4) cLSource.nd rfl (.inl rfl) (pe_op op_add (pe_op op_mul pe_int (pv 1)) pe_int))
      (pss_cons (ps_for PassesOwn.never rfl (pi_list (pv 3)) (pg_name (i := 2) cLSource.nd rfl (Or.inl rfl))
        (pss_one (ps_set (i := 4) cLSource.nd rfl (.inl rfl) (pe_op op_mod (pe_callTy call_int1 (by rfl) T.m_int PyProof.Rows.boot_int (pa_cons (pe_op op_add (pe_op op_add (pe_op op_mul (pv 4) pe_int) (pe_op op_mod (pv 2) pe_int)) pe_int) pa_nil)) pe_int))))
      (pss_one (ps_ret (pe_lst (pa_cons (pe_revL
          (pe_lc (own := [("_law_cell", 2)]) (g := gName 2) (tt := tB (tOp (rI0 fun i j => .bl (decide (j ≤ i))) (tVar 2) (tOp (rI CPow fun i j => .int (i ^ j.toNat)) (tC (.int 10)) (tC (.int 18))))) (te := tVar 2) rfl cLSource.nd (pi_list (pv 3)) (blkOk_by (N := nLSource) (sc := defScope sLSource) (by decide +kernel))
            (fun _ _ _ _ _ => by exact pg_name (i := 2) cLSource.nd rfl (Or.inl rfl)) (fun _ _ _ _ _ => by exact pts_one (pt_cmpR op_ge (pv 2) (pe_op op_pow pe_int pe_int) (nomark _))) (fun _ _ _ _ _ => by exact pv 2))) (pa_cons (pv 4) pa_nil))))))), ?_⟩
    refine ⟨.ref sc, rfl, 63, rfl, sc, _, rfl, hs, fun c0 hc0 => ?_⟩
    obtain ⟨ms, em, hsub⟩ := cut_map V.int ns none (some 63)
    have hml : ms.length ≤ 63 := Nat.le_trans hsub.length_le hn
    rw [em]
    have s0 := same_new (o := .lst (ms.map V.int)) hc0
    have l0 : upd H c0 (.lst (ms.map V.int)) c0 = some (.lst (ms.map V.int)) := upd_same
    generalize upd H c0 (.lst (ms.map V.int)) = H1 at s0 l0 ⊢
    refine ⟨c0, rfl, ⟨_, .of l0⟩, fun D hD => ?_⟩
    refine lc_it (walk_listM (l := ms) (f := V.int)) (fun i H' => LcS H1 D ((ms.take i).map fun k => V.int (absI k)) H') (LcS.zero hD) (fun i H' _ h => .of (h.1 _ _ l0)) ?_ ?_
    · rintro i x H2 H3 hi c ⟨rfl, k, hk, rfl⟩
      refine ⟨rfl, yesT ⟨.int k, rfl, .inl ⟨k, rfl, k, rfl, ?_⟩⟩⟩
      refine LcS.step hD c (Same.refl _) ?_ (take_succ_map hk)
      rw [List.length_map]
      have := List.length_take_le' i ms
      exact small1000 (by omega)
    · intro H2 c
      rw [List.take_length] at c
      obtain ⟨s2, d2⟩ := c
      have s2 := s0.trans s2
      have d2 : H2 D = some (.lst ((ms.map absI).map V.int)) := by
        rw [List.map_map]
        exact d2
      generalize hcs : ms.map absI = cs at d2
      have hcl : cs.length ≤ 63 := by
        rw [← hcs, List.length_map]
        exact hml
      refine ⟨.int b, rfl, 9176, b, rfl, rfl, .inl ⟨by decide, by decide⟩, _, 40503, rfl, rfl, ?_⟩
      refine ⟨.ref D, rfl, D, rfl, ⟨_, .of d2⟩, ?_⟩
      refine for_it (walk_listM (l := cs) (f := V.int)) (fun i σ H' => H' = H2 ∧ ∃ u2 m, σ = [some (.ref sc), some (.int b), u2, some (.ref D), some (.int m)]) ⟨rfl, _, _, rfl⟩ (fun i σ H' _ h => by rw [h.1]; exact .of d2) ?_ ?_
      · rintro i x σ H3 H4 hi ⟨rfl, u2, m, rfl⟩ ⟨rfl, k, hk, rfl⟩
        refine ⟨.int m, rfl, m, 69069, rfl, rfl, .inr ⟨by decide, by decide⟩, .int k, rfl, k, 2147483563, rfl, rfl, (by show (0 : Int) < 2147483563; decide), _, _, rfl, rfl, _, 101, rfl, rfl, .inl ⟨_, rfl, _, 2147483647, rfl, rfl, (by show (0 : Int) < 2147483647; decide), ?_⟩⟩
        exact ⟨rfl, _, _, rfl⟩
      · rintro σ H3 ⟨rfl, u2, m, rfl⟩
        refine ⟨.ref D, rfl, D, rfl, ⟨_, .of d2⟩, fun F hF => ?_⟩
        refine lc_it (walk_listM (l := cs) (f := V.int)) (fun i H' => LcS H3 F (((cs.take i).filter fun k => decide ((10 : Int) ^ 18 ≤ k)).map V.int) H') (LcS.zero hF) (fun i H' _ h => .of (h.1 _ _ d2)) ?_ ?_
        · rintro i x H4 H5 hi c ⟨rfl, k, hk, rfl⟩
          refine ⟨rfl, .int k, rfl, 10, 18, rfl, rfl, ⟨by decide, by decide, by decide⟩, k, _, rfl, rfl, _, rfl, ?_⟩
          refine ite2 (fun h => ?_) (fun h => ?_)
          · refine ⟨.int k, rfl, ?_⟩
            refine LcS.step hF c (Same.refl _) ?_ ?_
            · rw [List.length_map]
              have h1 := List.length_filter_le (fun k => decide ((10 : Int) ^ 18 ≤ k)) (cs.take i)
              have h2 := List.length_take_le' i cs
              exact small1000 (by omega)
            · rw [take_succ_keep hk h, List.map_append]
              rfl
          · rw [take_succ_drop hk (Bool.eq_false_iff.mpr h)]
            exact c
        · intro H4 c
          rw [List.take_length] at c
          obtain ⟨s4, f4⟩ := c
          have hfl : (cs.filter fun k => decide ((10 : Int) ^ 18 ≤ k)).length ≤ 63 := Nat.le_trans (List.length_filter_le _ _) hcl
          generalize cs.filter (fun k => decide ((10 : Int) ^ 18 ≤ k)) = fs at f4 hfl
          refine ⟨F, _, rfl, .of f4, fun l hl => ?_⟩
          have s5 := s2.trans (s4.trans (same_new (o := .lst ((fs.map V.int).reverse)) hl))
          have nl : H l = none := (s2.trans s4).free hl
          refine ⟨.int m, rfl, by simp [sizeLine_eq], fun p hp => ?_⟩
          have npl : p ≠ l := fun z => by
            rw [z, upd_same] at hp
            cases hp
          refine q _ p l (same_put (s5.free hp) s5) ⟨npl, fs.reverse, m, upd_same, ?_, by rw [List.length_reverse]; exact hfl⟩ (s5.free hp) nl
          rw [upd_ne npl.symm, upd_same, List.map_reverse]
end
end K34
end
section
set_option linter.all false
set_option maxRecDepth 100000
/-! One of some; some mixed. -/
namespace K34
open PySem PySem.Spec PyProof.Rows L2 LamX
section
variable {P : Program} {w : World} {K : PySem.W.Frag} {mg : Str → Option Value} {base : Heap} {a : Ad} {e : Ae}
def spLOf : Sp := fun vs H Q _ => ∃ (p l : Addr) (x : V), vs = [.ref p, x] ∧ SrcAt H p l ∧
  ((∃ b xs, x = .ref b ∧ H b = some (.lst xs) ∧ b ≠ p ∧ b ≠ l ∧ xs ≠ [] ∧ xs.length < 1000 ∧ ∀ H' (i : Nat) v, Lw p l H H' → xs[i]? = some v → Q v H') ∨
   (∃ z : Str, x = .str z ∧ 0 < z.length ∧ z.length < 1000 ∧ ∀ H' (i : Nat) c, Lw p l H H' → z.cps[i]? = some c → Q (.str ⟨#[c]⟩) H'))
theorem ok_LOf (T : Tx K mg a) : Ca P w K mg base CX0 2 "_law_of" spLOf := by
  have G : Ca P w K mg base CX0 1 "_law_number" spLNumber := ok_LNumber T
  refine ca0 T.dLOf cLOf (fun vs H Q E h => ?_) (fun f cdv A outer s H vs Q E hr h => ?_)
  · obtain ⟨p, l, x, rfl, _⟩ := h
    rfl
  · obtain ⟨p, l, x, rfl, hs, h⟩ := h
    refine ⟨_, pss_one (ps_ret (pe_ix ix_seq (pv 1) (pe_c0 G hr (by decide) (by rfl) (pa_cons (pv 0) (pa_cons (pe_callB (call_len_seq.or call_len_str) (by rfl) T.m_len PySem.boot_len (pa_cons (pv 1) pa_nil)) pa_nil))) (fun _ _ => rfl))), ?_⟩
    rcases h with ⟨b, xs, rfl, hb, b1, b2, hx, hx2, q⟩ | ⟨z, rfl, hz, hz2, q⟩
    · have hpos := List.length_pos_iff.mpr hx
      refine ⟨.ref b, rfl, .ref p, rfl, .ref b, rfl, .inl ⟨b, xs, rfl, .inl (.of hb), p, l, xs.length, rfl, hs, hpos, by omega, fun H' k lw hk => ?_⟩⟩
      exact .inl ⟨b, xs, k, xs[k], rfl, rfl, .of (lw.keep _ _ hb b1 b2), atI_nat (List.getElem?_eq_getElem hk), q H' k _ lw (List.getElem?_eq_getElem hk)⟩
    · refine ⟨.str z, rfl, .ref p, rfl, .str z, rfl, .inr ⟨z, rfl, by rw [sizeLine_eq]; omega, p, l, z.length, rfl, hs, hz, by omega, fun H' k lw hk => ?_⟩⟩
      have hk' : k < z.cps.toList.length := hk
      refine .inr (.inr ⟨z, k, z.cps.toList[k], rfl, rfl, by rw [sizeLine_eq]; omega, atI_nat (List.getElem?_eq_getElem hk'), q H' k _ lw ?_⟩)
      rw [Array.getElem?_eq_getElem hk, Array.getElem_toList]
      rfl
theorem pop_perm {A : Type} : ∀ (l : List A) (k : Nat) (h : k < l.length), (l[k] :: l.eraseIdx k).Perm l
  | x :: l, 0, _ => .refl _
  | x :: l, k + 1, h => by
    have h' : k < l.length := Nat.lt_of_succ_lt_succ h
    exact (List.Perm.swap x l[k] (l.eraseIdx k)).trans ((pop_perm l k h').cons x)
def spLMixed : Sp := fun vs H Q _ => ∃ (p l b : Addr) (xs : List V), vs = [.ref p, .ref b] ∧ SrcAt H p l ∧ H b = some (.lst xs) ∧ b ≠ p ∧ b ≠ l ∧ xs.length < 1000 ∧ ∀ H' f ys, Lw p l H H' → H f = none → H' f = some (.lst ys) → ys.Perm xs → Q (.ref f) H'
theorem seq_nat {n k : Nat} (h : k < n) : seqIndex? (k : Int) n = some k := by
  have := ixN_seq (n := n) (i := (k : Int)) (j := k) (by
    unfold ixN
    rw [if_pos (by omega), if_pos (by omega), Int.toNat_natCast])
  exact this.1
theorem ok_LMixed (T : Tx K mg a) : Ca P w K mg base CX0 2 "_law_mixed" spLMixed := by
  have G : Ca P w K mg base CX0 1 "_law_number" spLNumber := ok_LNumber T
  refine ca0 T.dLMixed cLMixed (fun vs H Q E h => ?_) (fun fa cdv A outer s H vs Q E hr h => ?_)
  · obtain ⟨p, l, b, xs, rfl, _⟩ := h
    rfl
  · obtain ⟨p, l, b, xs, rfl, hs, hb, b1, b2, hz, q⟩ := h
    refine ⟨_, pss_cons (ps_par (i := 2) (j := 3) rfl cLMixed.nd rfl rfl (by decide) rfl rfl (pa_cons (pe_callTy call_list_of (by rfl) T.m_list PyProof.Rows.boot_list (pa_cons (pv 1) pa_nil)) (pa_cons (pe_lst pa_nil) pa_nil)) (by rfl))
      (pss_cons (ps_for PassesOwn.never rfl (pi_range1 (by rfl) T.m_range (pa_cons (pe_callB call_len_seq (by rfl) T.m_len PySem.boot_len (pa_cons (pv 1) pa_nil)) pa_nil)) (pg_name (i := 4) cLMixed.nd rfl (Or.inl rfl))
        (pss_one (ps_expr (pe_bm PySem.F.plainAttrs_list PySem.F.slot_list_append PySem.F.type_list_append mt_append (pv 3) (pa_cons (pe_bm PySem.F.plainAttrs_list PySem.F.slot_list_pop PySem.F.type_list_pop mt_popAt (pv 2)
          (pa_cons (pe_c0 G hr (by decide) (by rfl) (pa_cons (pv 0) (pa_cons (pe_callB call_len_seq (by rfl) T.m_len PySem.boot_len (pa_cons (pv 2) pa_nil)) pa_nil))) pa_nil)) pa_nil)))))
      (pss_one (ps_ret (pv 3)))), ?_⟩
    refine ⟨.ref b, rfl, b, xs, rfl, .inl (.of hb), fun lf hlf => ?_⟩
    have s1 := same_new (o := .lst xs) hlf
    have l1 : upd H lf (.lst xs) lf = some (.lst xs) := upd_same
    generalize upd H lf (.lst xs) = H1 at s1 l1 ⊢
    refine ⟨Nat.zero_le _, fun fo hfo => ?_⟩
    have nfo := s1.free hfo
    have s2 := s1.trans (same_new (o := .lst []) hfo)
    have l2 : upd H1 fo (.lst []) lf = some (.lst xs) := by
      rw [upd_ne (ne_of_none l1 hfo)]
      exact l1
    have f2 : upd H1 fo (.lst []) fo = some (.lst []) := upd_same
    have nlf : lf ≠ fo := ne_of_none l1 hfo
    generalize upd H1 fo (.lst []) = H2 at s2 l2 f2 ⊢
    obtain ⟨lp, ll⟩ := hs.new hlf
    obtain ⟨fp, fl⟩ := hs.new nfo
    refine ⟨_, _, rfl, .ref b, rfl, b, xs, rfl, .inl (.of (s2 _ _ hb)), ((xs.length : Nat) : Int), rfl, by omega, by omega, ?_⟩
    refine for_it (walk_range0 (n := ((xs.length : Nat) : Int).toNat)) (fun i σ H' => (∃ u4, σ = [some (.ref p), some (.ref b), some (.ref lf), some (.ref fo), u4]) ∧ Lw p l H H' ∧ ∃ left found : List V, H' lf = some (.lst left) ∧ H' fo = some (.lst found) ∧ found.length = i ∧ (found ++ left).Perm xs)
      ⟨⟨none, rfl⟩, Lw.of hs s2, xs, [], l2, f2, rfl, .refl _⟩ (fun _ _ _ _ _ => True.intro) ?_ ?_
    · rintro i x σ H0 H4 hi ⟨⟨u4, rfl⟩, lw, left, found, hl4, hf4, hfl, hp⟩ ⟨rfl, rfl⟩
      have hlen := hp.length_eq
      rw [List.length_append] at hlen
      refine ⟨.ref fo, rfl, .inl ⟨rfl, _, .of hf4⟩, .ref lf, rfl, .inl ⟨rfl, _, .of hl4⟩, .ref p, rfl, .ref lf, rfl, lf, left, rfl, .inl (.of hl4), p, l, left.length, rfl, lw.src, by omega, by omega, fun H5 k lw5 hk => ?_⟩
      have hl5 := lw5.keep _ _ hl4 lp ll
      have hf5 := lw5.keep _ _ hf4 fp fl
      have lw5 := lw.trans lw5
      refine ⟨lf, left, k, k, left[k], rfl, rfl, hl5, by omega, by omega, seq_nat hk, List.getElem?_eq_getElem hk, ?_⟩
      have hf6 : upd H5 lf (.lst (left.eraseIdx k)) fo = some (.lst found) := by
        rw [upd_ne nlf.symm]
        exact hf5
      refine ⟨fo, found, _, rfl, rfl, hf6, by exact small1000 (by omega), ?_⟩
      refine ⟨⟨_, rfl⟩, ⟨fun c o ho h1 h2 => ?_, ?_⟩, left.eraseIdx k, found ++ [left[k]], ?_, upd_same, by rw [List.length_append, hfl]; rfl, ?_⟩
      · rw [upd_ne (ne_of_none ho nfo), upd_ne (ne_of_none ho hlf)]
        exact lw5.keep c o ho h1 h2
      · obtain ⟨n, ks, m, h1, h2, h3⟩ := lw5.src
        exact ⟨n, ks, m, by rw [upd_ne fp.symm, upd_ne lp.symm]; exact h1, by rw [upd_ne fl.symm, upd_ne ll.symm]; exact h2, h3⟩
      · rw [upd_ne nlf, upd_same]
      · rw [List.append_assoc]
        exact (List.Perm.append_left found (pop_perm left k hk)).trans hp
    · rintro σ H4 ⟨⟨u4, rfl⟩, lw, left, found, hl4, hf4, hfl, hp⟩
      have hlen := hp.length_eq
      rw [List.length_append] at hlen
      have el : left = [] := List.eq_nil_of_length_eq_zero (by omega)
      subst el
      rw [List.append_nil] at hp
      exact ⟨_, rfl, q H4 fo found lw nfo hf4 hp⟩
end
end K34
end
section
set_option linter.all false
set_option maxRecDepth 100000
/-! Names. -/
namespace K34
open PySem PySem.Spec PyProof.Rows L2 LamX SX
/-- a comprehension's list at D, while the source is drawn from -/
def LcW (p l : Addr) (H1 : Hp) (D : Addr) (out : List V) (H : Hp) : Prop := Lw p l H1 H ∧ H D = some (.lst out)
section
variable {p l : Addr} {H1 H H4 : Hp} {D : Addr} {out out' : List V} {y : V}
theorem LcW.zero (hs : SrcAt H1 p l) (hD : H1 D = none) : LcW p l H1 D [] (upd H1 D (.lst [])) := ⟨Lw.of hs (same_new hD), upd_same⟩
theorem Lw.putn (hs : SrcAt H1 p l) (hD : H1 D = none) (w : Lw p l H1 H) {o : HO} : Lw p l H1 (upd H D o) := by
  obtain ⟨d1, d2⟩ := hs.new hD
  obtain ⟨n, ks, m, h1, h2, h3⟩ := w.src
  refine ⟨fun b o e h1 h2 => ?_, n, ks, m, ?_, ?_, h3⟩
  · rw [upd_ne (ne_of_none e hD)]
    exact w.keep b o e h1 h2
  · rw [upd_ne d1.symm]
    exact h1
  · rw [upd_ne d2.symm]
    exact h2
theorem LcW.to (hs : SrcAt H1 p l) (hD : H1 D = none) (c : LcW p l H1 D out H) (w : Lw p l H H4) : LcW p l H1 D out H4 := ⟨c.1.trans w, w.keep _ _ c.2 (hs.new hD).1 (hs.new hD).2⟩
theorem LcW.step (hs : SrcAt H1 p l) (hD : H1 D = none) (c : LcW p l H1 D out H) (w : Lw p l H H4) (hl : out.length < sizeLine) (e : out' = out ++ [y]) :
    ∃ acc, H4 D = some (.lst acc) ∧ acc.length < sizeLine ∧ LcW p l H1 D out' (upd H4 D (.lst (acc ++ [y]))) :=
  ⟨out, (c.to hs hD w).2, hl, Lw.putn hs hD (c.1.trans w), by rw [e]; exact upd_same⟩
end
abbrev chV (c : Nat) : V := .str ⟨#[c]⟩
theorem cut_take {xs : List V} (k : Nat) : cutV xs none (some (k : Int)) = xs.take k := by
  unfold cutV
  rw [HT.sIx_nat, HT.sIx_none, List.drop_zero, Nat.sub_zero]
  by_cases h : k ≤ xs.length
  · rw [Nat.min_eq_left h]
  · rw [Nat.min_eq_right (by omega), List.take_of_length_le (Nat.le_refl _), List.take_of_length_le (by omega)]
def rJoin (K : PySem.W.Frag) : V → List V → Hp → VK → Prop := fun x xs H Q => ∃ a p, ∃ ys : List Str, x = .str a ∧ xs = [.ref p] ∧ (SqL K H p (ys.map V.str) ∨ SqT K H p (ys.map V.str)) ∧ (ys.map (·.length)).sum + ys.length * a.length ≤ 16777216 ∧ Q (.str (Txt.join a ys)) H
theorem pe_joinR {X : Cx} {o e : Expr} {to te : TE} {apos pos : Pos} (ho : PE X o to) (he : PE X e te) (hs : starEach [e] X.env = [(false, eval e X.env)] := by rfl) (hbase : attributeBase o "join" X.env (eval o X.env) = eval o X.env := by rfl) (hline : (apos.endLine == pos.line) = true := by rfl) :
    PE X (.Call (.Attribute o "join" apos) [e] [] pos) (tM1 (rJoin X.K) to te) := pe_join ho he hs hbase hline
/-- letters only -/
def AllL (cs : List Nat) : Prop := ∀ c ∈ cs, c ∈ letters.cps.toList
theorem ifs_gen {c : TT} {t e u : TS} {D : Ends} {σ : L2.St} {H : Hp} (h : ∀ nx : L2.St → Hp → Prop, nx σ H → tIfS c t e { D with nx := nx } σ H) (hx : u D σ H) : tSeq (tIfS c t e) u D σ H := h (u D) hx
theorem ife_gen {c : TT} {t e : TE} {σ : L2.St} {H : Hp} {Q : VK} (R : VK) (h : ∀ Q' : VK, (∀ v H', R v H' → Q' v H') → tIf c t e σ H Q') (hx : ∀ v H', R v H' → Q v H') : tIf c t e σ H Q := h Q hx
theorem asg_if_gen {c : TT} {t e : TE} {g : TG} {u : TS} {D : Ends} {σ : L2.St} {H : Hp} (R : VK) (h : ∀ Q' : VK, (∀ v H', R v H' → Q' v H') → tIf c t e σ H Q') (hx : ∀ v H', R v H' → g v σ H' (u D)) : tSeq (tAsg (tIf c t e) g) u D σ H := h _ hx
theorem letters_mod (x : Int) : ∃ c, atI letters.cps.toList (x % 26) = some c ∧ c ∈ letters.cps.toList ∧ letters.cps.toList[(x % 26).toNat]? = some c := by
  have h1 := Int.emod_nonneg x (show (26 : Int) ≠ 0 by decide)
  have h2 := Int.emod_lt_of_pos x (show (0 : Int) < 26 by decide)
  have hl : letters.cps.toList.length = 26 := by decide +kernel
  have hk : (x % 26).toNat < letters.cps.toList.length := by omega
  refine ⟨letters.cps.toList[(x % 26).toNat], ?_, List.getElem_mem hk, List.getElem?_eq_getElem hk⟩
  have := atI_nat (xs := letters.cps.toList) (List.getElem?_eq_getElem hk)
  rwa [Int.toNat_of_nonneg h1] at this
theorem ixN_nat {n k : Nat} (h : k < n) : ixN n (k : Int) = some k := by
  unfold ixN
  rw [if_pos (by omega), if_pos (by omega), Int.toNat_natCast]
theorem letters_nodup : letters.cps.toList.Nodup := by decide +kernel
theorem letters_inj {i j c : Nat} (h : letters.cps.toList[i]? = some c) (k : letters.cps.toList[j]? = some c) : i = j := by
  obtain ⟨hi, ei⟩ := List.getElem?_eq_some_iff.mp h
  obtain ⟨hj, ej⟩ := List.getElem?_eq_some_iff.mp k
  exact (List.getElem_inj letters_nodup).mp (ei.trans ej.symm)
abbrev steps : List Nat := [1, 3, 5, 7, 9, 11, 15, 17]
theorem step_inj {st f i j : Nat} (hs : st ∈ steps) (hi : i < 26) (hj : j < 26) (h : ((f : Int) + (st : Int) * (i : Int)) % 26 = ((f : Int) + (st : Int) * (j : Int)) % 26) : i = j := by
  simp only [steps, List.mem_cons, List.not_mem_nil, or_false] at hs
  rcases hs with rfl | rfl | rfl | rfl | rfl | rfl | rfl | rfl <;> omega
theorem args2 {p : Addr} {i : Int} {n : Nat} (h : i = (n : Int)) : [V.ref p, V.int i] = [V.ref p, V.int (n : Int)] := by rw [h]
theorem joinE : ∀ cs : List Nat, TL.joinL [] (cs.map fun c => [c]) = cs
  | [] => rfl
  | [c] => rfl
  | c :: d :: r => by
    show [c] ++ ([] ++ TL.joinL [] ((d :: r).map fun c => [c])) = _
    rw [joinE (d :: r)]
    rfl
theorem join_chars (cs : List Nat) : Txt.join "" (cs.map fun c => (⟨#[c]⟩ : Str)) = S cs := by
  have h := join_S [] (cs.map fun c => [c])
  rw [joinE, List.map_map] at h
  exact h
theorem chars_sum (cs : List Nat) : ((cs.map fun c => (⟨#[c]⟩ : Str)).map (·.length)).sum = cs.length := by
  induction cs with
  | nil => rfl
  | cons c r ih =>
    rw [List.map_cons, List.map_cons, List.sum_cons, ih, List.length_cons]
    show 1 + _ = _
    omega
theorem nameS {cs : List Nat} (h : AllL cs) (h1 : 1 ≤ cs.length) (h8 : cs.length ≤ 8) : nameB (S cs) = true := by
  unfold nameB
  rw [S_len, decide_eq_true h1, decide_eq_true h8]
  show (cs.toArray.toList.all _) = true
  rw [List.all_eq_true]
  exact fun c hc => decide_eq_true (h c hc)
theorem perm_strs {ys : List V} {zs : List Str} (h : ys.Perm (zs.map V.str)) : ∃ zs' : List Str, zs'.Perm zs ∧ ys = zs'.map V.str := by
  refine ⟨ys.map txtV, ?_, ?_⟩
  · have := h.map txtV
    rw [txt_map] at this
    exact this
  · rw [List.map_map]
    have : ∀ y ∈ ys, (V.str ∘ txtV) y = y := fun y hy => by
      obtain ⟨z, _, rfl⟩ := List.mem_map.mp (h.mem_iff.mp hy)
      rfl
    rw [List.map_congr_left this]
    exact (List.map_id _).symm
theorem ch_map (cs : List Nat) : cs.map chV = (cs.map fun c => (⟨#[c]⟩ : Str)).map V.str := by
  rw [List.map_map]
  rfl
section
variable {P : Program} {w : World} {K : PySem.W.Frag} {mg : Str → Option Value} {base : Heap} {a : Ad} {e : Ae}
def spLNames : Sp := fun vs H Q _ => ∃ (p l : Addr) (many : Nat), vs = [.ref p, .int many] ∧ SrcAt H p l ∧ 1 ≤ many ∧ many ≤ 25 ∧ ∀ H' f (zs : List Str), Lw p l H H' → H f = none → H' f = some (.lst (zs.map V.str)) → zs.length = many → zs.Nodup → (∀ z ∈ zs, nameB z = true) → Q (.ref f) H'
theorem ok_LNames (T : Tx K mg a) : Ca P w K mg base CX0 3 "_law_names" spLNames := by
  have G1 : Ca P w K mg base CX0 1 "_law_number" spLNumber := ok_LNumber T
  have G2 : Ca P w K mg base CX0 2 "_law_of" spLOf := ok_LOf T
  have G3 : Ca P w K mg base CX0 2 "_law_mixed" spLMixed := ok_LMixed T
  refine ca0 T.dLNames cLNames (fun vs H Q E h => ?_) (fun fa cdv A outer s H vs Q E hr h => ?_)
  · obtain ⟨p, l, many, rfl, _⟩ := h
    rfl
  · obtain ⟨p, l, many, rfl, hs, hm1, hm2, q⟩ := h
    have nd := cLNames.nd
    refine ⟨_, pss_cons (ps_set (i := 2) nd rfl (.inr rfl) pe_str)
      (pss_cons (ps_asg (pe_tup (pa_cons (pe_lc (own := [("_law_turn", 3)]) (g := gName 3) (tt := tYes) (te := tCall spLOf [] E0 (tCons (tVar 0) (tCons (tVar 2) tNil))) rfl nd (pi_range1 (by rfl) T.m_range (pa_cons pe_int pa_nil)) (blkOk_by (N := nLNames) (sc := defScope sLNames) (by decide +kernel))
            (fun _ _ _ _ _ => by exact pg_name (i := 3) nd rfl (Or.inl rfl)) (fun _ _ _ _ _ => pts_nil) (fun _ _ _ _ _ => by exact pe_c0 G2 hr (by decide) (by rfl) (pa_cons (pv 0) (pa_cons (pv 2) pa_nil))))
          (pa_cons (pe_c0 G1 hr (by decide) (by rfl) (pa_cons (pv 0) (pa_cons pe_int pa_nil))) pa_nil)))
          (pg_tup rfl (pgs_cons (pg_name (i := 4) nd rfl (Or.inr rfl)) (pgs_cons (pg_name (i := 5) nd rfl (Or.inl rfl)) pgs_nil))))
      (pss_cons (ps_if (pw_and (pt_cmpR op_eq (pv 5) pe_int (nomark _)) (pw_and1 (pt_cmpR op_le (pv 1) pe_int (nomark _)))).pt
        (pss_one (ps_ret (pe_slice sl_list (pe_c0 G3 hr (by decide) (by rfl) (pa_cons (pv 0) (pa_cons
          (pe_lc (own := [("_law_size", 6)]) (g := gName 6) (tt := tYes) (te := tM1 (rJoin K) (tC (.str "")) (tSl (rSlL K) (tVar 4) tNoPart (tPart (tOp (rI0 fun i j => .int (i + j)) (tVar 6) (tC (.int 1)))))) rfl nd (pi_range1 (by rfl) T.m_range (pa_cons pe_int pa_nil)) (blkOk_by (N := nLNames) (sc := defScope sLNames) (by decide +kernel))
            (fun _ _ _ _ _ => by exact pg_name (i := 6) nd rfl (Or.inl rfl)) (fun _ _ _ _ _ => pts_nil) (fun _ _ _ _ _ => by exact pe_joinR pe_str (pe_slice sl_list (pv 4) po_none (po_some (pe_op op_add (pv 6) pe_int))))) pa_nil))) po_none (po_some (pv 1))))) pss_nil)
      (pss_cons (ps_set (i := 6) nd rfl (.inl rfl) (pe_ifExp (pw_and (pt_cmpR op_eq (pv 5) pe_int (nomark _)) (pw_and1 (pt_cmpR op_le (pv 1) pe_int (nomark _)))).pt pe_int (pe_op op_add pe_int (pe_c0 G1 hr (by decide) (by rfl) (pa_cons (pv 0) (pa_cons pe_int pa_nil))))))
      (pss_cons (ps_par (i := 7) (j := 8) rfl nd rfl rfl (by decide) rfl rfl (pa_cons (pe_c0 G1 hr (by decide) (by rfl) (pa_cons (pv 0) (pa_cons (pv 6) pa_nil))) (pa_cons (pe_c0 G2 hr (by decide) (by rfl) (pa_cons (pv 0) (pa_cons (pe_lst (pa_cons pe_int (pa_cons pe_int (pa_cons pe_int (pa_cons pe_int (pa_cons pe_int (pa_cons pe_int (pa_cons pe_int (pa_cons pe_int pa_nil))))))))) pa_nil))) pa_nil)) (by rfl))
      (pss_cons (ps_set (i := 9) nd rfl (.inl rfl) (pe_ifExp (pt_cmpR op_gt (pv 6) pe_int (nomark _)) (pe_op op_mod (pe_callTy call_int1 (by rfl) T.m_int PyProof.Rows.boot_int (pa_cons (pe_op op_add (pe_op op_add (pv 7) pe_int) (pe_c0 G1 hr (by decide) (by rfl) (pa_cons (pv 0) (pa_cons (pe_op op_sub (pv 6) pe_int) pa_nil)))) pa_nil)) (pv 6)) (pv 7)))
      (pss_cons (ps_par3 (i := 10) (j := 11) (l := 12) rfl nd rfl rfl rfl (by decide) (by decide) (by decide) rfl rfl rfl (pa_cons (pe_c0 G1 hr (by decide) (by rfl) (pa_cons (pv 0) (pa_cons pe_int pa_nil))) (pa_cons (pe_c0 G1 hr (by decide) (by rfl) (pa_cons (pv 0) (pa_cons pe_int pa_nil))) (pa_cons (pe_lst pa_nil) pa_nil))) (by rfl))
      (pss_cons (ps_for PassesOwn.never rfl (pi_range1 (by rfl) T.m_range (pa_cons (pv 1) pa_nil)) (pg_name (i := 3) nd rfl (Or.inl rfl))
        (pss_cons (ps_set (i := 13) nd rfl (.inl rfl) (pe_slice sl_list (pv 4) po_none (po_some (pv 6))))
        (pss_cons (ps_asg (pe_ix ix_seq (pv 2) (pe_op op_mod (pe_callTy call_int1 (by rfl) T.m_int PyProof.Rows.boot_int (pa_cons (pe_op op_add (pv 11) (pe_op op_fdiv (pv 3) pe_int)) pa_nil)) pe_int) (fun _ _ => rfl)) (pg_sub (pv 13) (pv 9) set_list (fun _ => rfl)))
        (pss_cons (ps_asg (pe_ix ix_seq (pv 2) (pe_op op_mod (pe_callTy call_int1 (by rfl) T.m_int PyProof.Rows.boot_int (pa_cons (pe_op op_add (pv 10) (pe_op op_mul (pv 8) (pv 3))) pa_nil)) pe_int) (fun _ _ => rfl)) (pg_sub (pv 13) (pv 7) set_list (fun _ => rfl)))
        (pss_one (ps_expr (pe_bm PySem.F.plainAttrs_list PySem.F.slot_list_append PySem.F.type_list_append mt_append (pv 12) (pa_cons (pe_joinR pe_str (pv 13)) pa_nil))))))))
      (pss_one (ps_ret (pe_c0 G3 hr (by decide) (by rfl) (pa_cons (pv 0) (pa_cons (pv 12) pa_nil)))))))))))), ?_⟩
    refine ⟨8, rfl, (by decide), (by decide), fun D hD => ?_⟩
    refine lc_it (walk_range0 (n := (8 : Int).toNat)) (fun i H' => ∃ ws : List Nat, LcW p l H D (ws.map chV) H' ∧ ws.length = i ∧ AllL ws) ⟨[], LcW.zero hs hD, rfl, fun c h => by cases h⟩ (fun _ _ _ _ => True.intro) ?_ ?_
    · rintro i x H2 H3 hi ⟨ws, c, hl, hw⟩ ⟨rfl, rfl⟩
      refine ⟨rfl, yesT ⟨.ref p, rfl, .str letters, rfl, p, l, .str letters, rfl, c.1.src, .inr ⟨letters, rfl, by decide, by decide, fun H4 j ch lw hc => ?_⟩⟩⟩
      have hi : i < 8 := hi
      obtain ⟨acc, h1, h2, h3⟩ := LcW.step (y := chV ch) hs hD c lw (by rw [List.length_map]; exact small1000 (by omega)) rfl
      refine ⟨acc, h1, h2, ws ++ [ch], by rw [List.map_append]; exact h3, by rw [List.length_append, hl]; rfl, fun d hd => ?_⟩
      rcases List.mem_append.mp hd with h | h
      · exact hw d h
      · rw [List.mem_singleton.mp h]
        obtain ⟨hj, ej⟩ := Array.getElem?_eq_some_iff.mp hc
        rw [← ej]
        exact Array.getElem_mem_toList hj
    · rintro H2 ⟨ws, c, hl, hw⟩
      have hl : ws.length = 8 := hl
      refine ⟨.ref p, rfl, p, l, 3, rfl, c.1.src, by decide, by decide, fun H3 k lw3 hk => ?_⟩
      have c3 := c.to hs hD lw3
      refine ⟨(by show 2 ≤ sizeLine; decide), fun t ht => ?_⟩
      refine ⟨t, _, rfl, .of upd_same, rfl, _, _, rfl, _, [], rfl, rfl, ?_⟩
      have c5 := c3.to hs hD (Lw.of c3.1.src (same_new (o := .tup [.ref D, .int k]) ht))
      generalize upd H3 t (.tup [.ref D, .int k]) = H5 at c5 ⊢
      obtain ⟨lw5, hw5⟩ := c5
      dsimp only
      refine ifs_gen (fun nx hnx => ?_) ?_
      · refine ⟨.int k, rfl, rfl, _, rfl, ite2 (fun h0 => ?_) (fun _ => iteF' (Bool.eq_false_iff.mpr Bool.false_ne_true) hnx)⟩
        refine ⟨.int many, rfl, many, 8, rfl, rfl, _, rfl, ite2 (fun h8 => ?_) (fun _ => hnx)⟩
        have h8 : (many : Int) ≤ 8 := of_decide_eq_true h8
        refine ⟨.ref p, rfl, 8, rfl, (by decide), (by decide), fun F hF => ?_⟩
        refine lc_it (walk_range0 (n := (8 : Int).toNat)) (fun i H' => LcS H5 F (((List.range i).map fun k => S (ws.take (k + 1))).map V.str) H') (LcS.zero hF) (fun _ _ _ _ => True.intro) ?_ ?_
        · rintro i x H6 H7 hi c ⟨rfl, rfl⟩
          refine ⟨rfl, yesT ⟨⟨_, rfl⟩, .ref D, rfl, .int i, rfl, i, 1, rfl, rfl, _, rfl, D, _, rfl, .of (c.1 _ _ hw5), fun sa hsa => ?_⟩⟩
          have c7 : LcS H5 F (((List.range i).map fun k => S (ws.take (k + 1))).map V.str) (upd H7 sa (.lst (cutV (ws.map chV) none (some ((i : Int) + 1))))) := c.to (same_new hsa)
          have e7 : upd H7 sa (.lst (cutV (ws.map chV) none (some ((i : Int) + 1)))) sa = some (.lst (((ws.take (i + 1)).map fun c => (⟨#[c]⟩ : Str)).map V.str)) := by
            rw [upd_same, show ((i : Int) + 1) = ((i + 1 : Nat) : Int) by omega, cut_take, ← List.map_take, ch_map]
          generalize upd H7 sa (.lst (cutV (ws.map chV) none (some ((i : Int) + 1)))) = H8 at c7 e7 ⊢
          have htl := List.length_take_le' (i + 1) ws
          refine ⟨"", sa, (ws.take (i + 1)).map fun c => (⟨#[c]⟩ : Str), rfl, rfl, .inl (.of e7), ?_, ?_⟩
          · rw [chars_sum]
            show _ + _ * 0 ≤ _
            omega
          · rw [join_chars]
            have hi : i < 8 := hi
            refine LcS.step hF c7 (Same.refl _) ?_ ?_
            · rw [List.length_map, List.length_map, List.length_range]
              exact small1000 (by omega)
            · rw [List.range_succ, List.map_append, List.map_append]
              rfl
        · intro H6 c6
          obtain ⟨s6, F6⟩ := c6
          obtain ⟨d1, d2⟩ := lw5.src.new hF
          refine ⟨p, l, F, _, rfl, lw5.src.same s6, F6, d1, d2, by rw [List.length_map, List.length_map, List.length_range]; decide, fun H7 f ys lw7 nf hf hp => ?_⟩
          obtain ⟨zs, hz, rfl⟩ := perm_strs hp
          refine ⟨.int many, rfl, many, rfl, f, _, rfl, .of hf, fun r hr' => ?_⟩
          have lwF := (lw5.same s6).trans lw7
          have hzl : zs.length = 8 := by rw [hz.length_eq, List.length_map, List.length_range]; rfl
          have nd8 : ((List.range (8 : Int).toNat).map fun k => S (ws.take (k + 1))).Nodup := by
            refine List.pairwise_map.mpr (List.Pairwise.imp_of_mem (fun {i j} hi hj hij he => ?_) List.pairwise_lt_range)
            have hj := List.mem_range.mp hj
            have hj : j < 8 := hj
            have := congrArg List.length (S_inj he)
            rw [List.length_take, List.length_take] at this
            omega
          refine q _ r (zs.take many) (Lw.putn hs (lwF.free hr') lwF) (lwF.free hr') ?_ ?_ ?_ ?_
          · rw [upd_same, cut_take, ← List.map_take]
          · rw [List.length_take]
            omega
          · exact (hz.nodup_iff.mpr nd8).sublist (List.take_sublist _ _)
          · intro z hzm
            have := hz.mem_iff.mp (List.mem_of_mem_take hzm)
            obtain ⟨k, hk, rfl⟩ := List.mem_map.mp this
            have hk := List.mem_range.mp hk
            have hk : k < 8 := hk
            refine nameS (fun c hc => hw c (List.mem_of_mem_take hc)) ?_ ?_
            · rw [List.length_take]
              omega
            · rw [List.length_take]
              omega
      · have c5 : LcW p l H D (ws.map chV) H5 := ⟨lw5, hw5⟩
        refine asg_if_gen (fun v H' => ∃ n : Nat, v = .int n ∧ 1 ≤ n ∧ n ≤ 8 ∧ LcW p l H D (ws.map chV) H') (fun Q' hQ => ?_) ?_
        · have big : ∀ {B : Prop}, (∀ H' (j : Nat), Lw p l H5 H' → j < 7 → Q' (.int (2 + (j : Nat))) H') := fun {B} H' j lw hj => hQ _ _ ⟨2 + j, rfl, by omega, by omega, c5.to hs hD lw⟩
          have two : tOp (rI0 fun i j => V.int (i + j)) (tC (V.int 2)) (tCall spLNumber [] E0 (tCons (tVar 0) (tCons (tC (V.int 7)) tNil))) [some (.ref p), some (.int many), some (.str letters), none, some (.ref D), some (.int k), none, none, none, none, none, none, none, none] H5 Q' :=
            ⟨.ref p, rfl, p, l, 7, rfl, lw5.src, by decide, by decide, fun H6 j lw6 hj => ⟨2, j, rfl, rfl, big (B := True) H6 j lw6 hj⟩⟩
          refine ⟨.int k, rfl, rfl, _, rfl, ite2 (fun h0 => ?_) (fun _ => iteF' (Bool.eq_false_iff.mpr Bool.false_ne_true) two)⟩
          refine ⟨.int many, rfl, many, 26, rfl, rfl, _, rfl, ite2 (fun h8 => ?_) (fun _ => two)⟩
          exact hQ _ _ ⟨1, rfl, by decide, by decide, c5⟩
        · rintro v H6 ⟨size, rfl, hz1, hz8, c6⟩
          refine ⟨.ref p, rfl, .int size, rfl, p, l, size, rfl, c6.1.src, hz1, by omega, fun H7 pl lw7 hpl => ?_⟩
          have c7 := c6.to hs hD lw7
          refine ⟨.ref p, rfl, (by show 8 ≤ sizeLine; decide), fun b hb => ?_⟩
          have c8 := c7.to hs hD (Lw.of c7.1.src (same_new (o := .lst [.int 1, .int 3, .int 5, .int 7, .int 9, .int 11, .int 15, .int 17]) hb))
          obtain ⟨b1, b2⟩ := c7.1.src.new hb
          refine ⟨p, l, .ref b, rfl, c8.1.src, .inl ⟨b, _, rfl, upd_same, b1, b2, List.cons_ne_nil _ _, (by decide), fun H9 j v lw9 hv => ?_⟩⟩
          have c9 := c8.to hs hD lw9
          obtain ⟨st, rfl, hst⟩ : ∃ st : Nat, v = .int st ∧ st ∈ steps := by
            have := List.mem_of_getElem? hv
            simp only [List.mem_cons, List.not_mem_nil, or_false] at this
            rcases this with rfl | rfl | rfl | rfl | rfl | rfl | rfl | rfl
            · exact ⟨1, rfl, by decide⟩
            · exact ⟨3, rfl, by decide⟩
            · exact ⟨5, rfl, by decide⟩
            · exact ⟨7, rfl, by decide⟩
            · exact ⟨9, rfl, by decide⟩
            · exact ⟨11, rfl, by decide⟩
            · exact ⟨15, rfl, by decide⟩
            · exact ⟨17, rfl, by decide⟩
          refine ⟨_, _, rfl, ?_⟩
          dsimp only
          refine asg_if_gen (fun v H' => ∃ n : Nat, v = .int n ∧ n < size ∧ LcW p l H D (ws.map chV) H') (fun Q' hQ => ?_) ?_
          · refine ⟨.int size, rfl, size, 1, rfl, rfl, _, rfl, ite2 (fun h1 => ?_) (fun _ => ⟨.int pl, rfl, hQ _ _ ⟨pl, rfl, hpl, c9⟩⟩)⟩
            have h1 : (1 : Int) < size := of_decide_eq_true h1
            refine ⟨.int pl, rfl, pl, 1, rfl, rfl, .ref p, rfl, .int size, rfl, size, 1, rfl, rfl, p, l, size - 1, args2 (by show ((size : Nat) : Int) - 1 = ((size - 1 : Nat) : Int); omega), c9.1.src, by omega, by omega, fun H10 k2 lw10 hk2 => ?_⟩
            refine ⟨_, _, rfl, rfl, .inl ⟨_, rfl, .int size, rfl, _, size, rfl, rfl, (by show (0 : Int) < size; omega), ?_⟩⟩
            have m1 := Int.emod_nonneg ((pl : Int) + 1 + (k2 : Nat)) (show ((size : Nat) : Int) ≠ 0 by omega)
            have m2 := Int.emod_lt_of_pos ((pl : Int) + 1 + (k2 : Nat)) (show (0 : Int) < (size : Nat) by omega)
            have := hQ (.int (((((pl : Int) + 1 + (k2 : Nat)) % (size : Nat)).toNat : Nat) : Int)) H10 ⟨_, rfl, by omega, c9.to hs hD lw10⟩
            rw [Int.toNat_of_nonneg m1] at this
            exact this
          · rintro v H10 ⟨ot, rfl, hot, c10⟩
            refine ⟨.ref p, rfl, p, l, 26, rfl, c10.1.src, by decide, by decide, fun H11 fi lw11 hfi => ?_⟩
            have c11 := c10.to hs hD lw11
            refine ⟨.ref p, rfl, p, l, 26, rfl, c11.1.src, by decide, by decide, fun H12 se lw12 hse => ?_⟩
            have c12 := c11.to hs hD lw12
            refine ⟨Nat.zero_le _, fun fo hfo => ?_⟩
            have c13 := c12.to hs hD (Lw.of c12.1.src (same_new (o := .lst []) hfo))
            have f13 : upd H12 fo (.lst []) fo = some (.lst []) := upd_same
            have nfo := c12.1.free hfo
            have nDf : D ≠ fo := ne_of_none c12.2 hfo
            obtain ⟨fp, fl⟩ := hs.new nfo
            generalize upd H12 fo (.lst []) = H13 at c13 f13 ⊢
            refine ⟨_, _, _, rfl, ?_⟩
            refine ⟨.int many, rfl, many, rfl, by omega, by omega, ?_⟩
            refine for_it (walk_range0 (n := ((many : Nat) : Int).toNat)) (fun i σ H' => (∃ u3 u13, σ = [some (.ref p), some (.int many), some (.str letters), u3, some (.ref D), some (.int k), some (.int size), some (.int pl), some (.int st), some (.int ot), some (.int fi), some (.int se), some (.ref fo), u13]) ∧ LcW p l H D (ws.map chV) H' ∧
                ∃ css : List (List Nat), H' fo = some (.lst (css.map fun cs => V.str (S cs))) ∧ css.length = i ∧ ∀ (j : Nat) cs, css[j]? = some cs → cs.length = size ∧ AllL cs ∧ ∃ c, cs[pl]? = some c ∧ letters.cps.toList[(((fi : Int) + (st : Int) * (j : Nat)) % 26).toNat]? = some c)
              ⟨⟨none, none, rfl⟩, c13, [], f13, rfl, fun j cs h => by simp at h⟩ (fun _ _ _ _ _ => True.intro) ?_ ?_
            · rintro i x σ H0 H14 hi ⟨⟨u3, u13, rfl⟩, c14, css, hf14, hcl, hcs⟩ ⟨rfl, rfl⟩
              have hi : i < many := by omega
              refine ⟨.ref D, rfl, .int size, rfl, size, rfl, D, _, rfl, .of c14.2, fun sa hsa => ?_⟩
              have c15 := c14.to hs hD (Lw.of c14.1.src (same_new (o := .lst (cutV (ws.map chV) none (some (size : Int)))) hsa))
              have nsa := c14.1.free hsa
              have sf : sa ≠ fo := (ne_of_none hf14 hsa).symm
              have f15 : upd H14 sa (.lst (cutV (ws.map chV) none (some (size : Int)))) fo = some (.lst (css.map fun cs => V.str (S cs))) := by
                rw [upd_ne sf.symm]
                exact hf14
              have a15 : upd H14 sa (.lst (cutV (ws.map chV) none (some (size : Int)))) sa = some (.lst ((ws.take size).map chV)) := by
                rw [upd_same, cut_take, ← List.map_take]
              generalize upd H14 sa (.lst (cutV (ws.map chV) none (some (size : Int)))) = H15 at c15 f15 a15 ⊢
              have htl : (ws.take size).length = size := by
                rw [List.length_take]
                omega
              have htw : AllL (ws.take size) := fun c hc => hw c (List.mem_of_mem_take hc)
              generalize ws.take size = xs at a15 htl htw
              obtain ⟨ca, a1, a2, _⟩ := letters_mod ((se : Int) + ((i : Nat) : Int) / 26)
              obtain ⟨cb, b1, b2, b3⟩ := letters_mod ((fi : Int) + (st : Int) * ((i : Nat) : Int))
              refine ⟨.str letters, rfl, .int se, rfl, .int i, rfl, i, 26, rfl, rfl, ⟨by decide, by decide⟩, se, _, rfl, rfl, .inl ⟨_, rfl, _, 26, rfl, rfl, (by show (0 : Int) < 26; decide), .inr (.inr ⟨letters, _, ca, rfl, rfl, by decide, a1, ?_⟩)⟩⟩
              refine ⟨.ref sa, rfl, .int ot, rfl, sa, _, ot, ot, rfl, rfl, a15, ixN_nat (by rw [List.length_map, htl]; exact hot), ?_⟩
              have st_put : ∀ {H' : Hp} {o : HO}, LcW p l H D (ws.map chV) H' → LcW p l H D (ws.map chV) (upd H' sa o) := fun {H' o} c => ⟨Lw.putn hs nsa c.1, by rw [upd_ne (ne_of_none c14.2 hsa)]; exact c.2⟩
              have c16 := st_put (o := .lst (((xs.set ot ca)).map chV)) c15
              have e16 : (List.map chV xs).set ot (V.str ⟨#[ca]⟩) = (xs.set ot ca).map chV := List.map_set.symm
              rw [e16]
              have f16 : upd H15 sa (.lst ((xs.set ot ca).map chV)) fo = some (.lst (css.map fun cs => V.str (S cs))) := by
                rw [upd_ne sf.symm]
                exact f15
              have a16 : upd H15 sa (.lst ((xs.set ot ca).map chV)) sa = some (.lst ((xs.set ot ca).map chV)) := upd_same
              generalize upd H15 sa (.lst ((xs.set ot ca).map chV)) = H16 at c16 f16 a16 ⊢
              refine ⟨.str letters, rfl, .int fi, rfl, .int st, rfl, .int i, rfl, st, i, rfl, rfl, .inr ⟨by omega, by omega⟩, fi, _, rfl, rfl, .inl ⟨_, rfl, _, 26, rfl, rfl, (by show (0 : Int) < 26; decide), .inr (.inr ⟨letters, _, cb, rfl, rfl, by decide, b1, ?_⟩)⟩⟩
              refine ⟨.ref sa, rfl, .int pl, rfl, sa, _, pl, pl, rfl, rfl, a16, ixN_nat (by rw [List.length_map, List.length_set, htl]; exact hpl), ?_⟩
              have c17 := st_put (o := .lst ((((xs.set ot ca).set pl cb)).map chV)) c16
              have e17 : (List.map chV (xs.set ot ca)).set pl (V.str ⟨#[cb]⟩) = ((xs.set ot ca).set pl cb).map chV := List.map_set.symm
              rw [e17]
              have f17 : upd H16 sa (.lst (((xs.set ot ca).set pl cb).map chV)) fo = some (.lst (css.map fun cs => V.str (S cs))) := by
                rw [upd_ne sf.symm]
                exact f16
              have a17 : upd H16 sa (.lst (((xs.set ot ca).set pl cb).map chV)) sa = some (.lst (((xs.set ot ca).set pl cb).map chV)) := upd_same
              generalize upd H16 sa (.lst (((xs.set ot ca).set pl cb).map chV)) = H17 at c17 f17 a17 ⊢
              have hyl : ((xs.set ot ca).set pl cb).length = size := by rw [List.length_set, List.length_set, htl]
              have hyw : AllL ((xs.set ot ca).set pl cb) := fun c hc => by
                rcases List.mem_or_eq_of_mem_set hc with h | h
                · rcases List.mem_or_eq_of_mem_set h with h | h
                  · exact htw c h
                  · rw [h]
                    exact a2
                · rw [h]
                  exact b2
              have hyp : ((xs.set ot ca).set pl cb)[pl]? = some cb := by
                rw [List.getElem?_set_self]
                rw [List.length_set, htl]
                exact hpl
              generalize (xs.set ot ca).set pl cb = ys at a17 hyl hyw hyp ⊢
              rw [ch_map] at a17
              refine ⟨.ref fo, rfl, .inl ⟨rfl, _, .of f17⟩, ⟨_, rfl⟩, .ref sa, rfl, "", sa, ys.map fun c => (⟨#[c]⟩ : Str), rfl, rfl, .inl (.of a17), ?_, fo, _, _, rfl, rfl, f17, by rw [List.length_map]; exact small1000 (by omega), ?_⟩
              · rw [chars_sum]
                show _ + _ * 0 ≤ _
                omega
              · rw [join_chars]
                refine ⟨⟨_, _, rfl⟩, ⟨Lw.putn hs nfo c17.1, by rw [upd_ne nDf]; exact c17.2⟩, css ++ [ys], ?_, by rw [List.length_append, hcl]; rfl, fun j cs hj => ?_⟩
                · rw [upd_same, List.map_append]
                  rfl
                · rw [List.getElem?_append] at hj
                  split at hj
                  · exact hcs j cs hj
                  · rename_i hge
                    rw [hcl] at hge hj
                    cases hd : j - i with
                    | zero =>
                      rw [hd] at hj
                      cases (show some ys = some cs from hj)
                      have : j = i := by omega
                      subst this
                      exact ⟨hyl, hyw, cb, hyp, b3⟩
                    | succ m =>
                      rw [hd] at hj
                      cases hj
            · rintro σ H14 ⟨⟨u3, u13, rfl⟩, c14, css, hf14, hcl, hcs⟩
              have hcl : css.length = many := by omega
              refine ⟨.ref p, rfl, .ref fo, rfl, p, l, fo, _, rfl, c14.1.src, hf14, fp, fl, by rw [List.length_map]; omega, fun H15 f ys lw15 nf hf hp => ?_⟩
              have e1 : (css.map fun cs => V.str (S cs)) = (css.map S).map V.str := by
                rw [List.map_map]
                rfl
              rw [e1] at hp
              obtain ⟨zs, hzp, rfl⟩ := perm_strs hp
              have lwE := c14.1.trans lw15
              refine q H15 f zs lwE (c14.1.free nf) hf (by rw [hzp.length_eq, List.length_map, hcl]) (hzp.nodup_iff.mpr ?_) fun z hz => ?_
              · rw [List.nodup_iff_pairwise_ne, List.pairwise_map, List.pairwise_iff_getElem]
                intro i j hi hj hij he
                have he := S_inj he
                obtain ⟨_, _, c, h1, h2⟩ := hcs i _ (List.getElem?_eq_getElem hi)
                obtain ⟨_, _, d, h3, h4⟩ := hcs j _ (List.getElem?_eq_getElem hj)
                rw [he, h3] at h1
                cases h1
                have hh := letters_inj h2 h4
                have m1 := Int.emod_nonneg ((fi : Int) + (st : Int) * (i : Nat)) (show (26 : Int) ≠ 0 by decide)
                have m2 := Int.emod_nonneg ((fi : Int) + (st : Int) * (j : Nat)) (show (26 : Int) ≠ 0 by decide)
                have := step_inj (f := fi) (i := i) (j := j) hst (by omega) (by omega) (by omega)
                omega
              · obtain ⟨cs, hm, rfl⟩ := List.mem_map.mp (hzp.mem_iff.mp hz)
                obtain ⟨j, hj, rfl⟩ := List.mem_iff_getElem.mp hm
                obtain ⟨h1, h2, _⟩ := hcs j _ (List.getElem?_eq_getElem hj)
                exact nameS h2 (by omega) (by omega)
end
end K34
end
section
set_option linter.all false
set_option maxRecDepth 100000
/-! Heights. -/
namespace K34
open PySem PySem.Spec PyProof.Rows L2 LamX SX
theorem seq_gen {t u : TS} {D : Ends} {σ : L2.St} {H : Hp} (X : L2.St → Hp → Prop) (h : ∀ nx : L2.St → Hp → Prop, (∀ σ H, X σ H → nx σ H) → t { D with nx := nx } σ H) (hx : ∀ σ H, X σ H → u D σ H) : tSeq t u D σ H := h (u D) hx
theorem sum_set : ∀ (l : List Nat) (j x h : Nat), l[j]? = some h → (l.set j x).sum + h = l.sum + x
  | [], _, _, _, e => by simp at e
  | a :: l, 0, x, h, e => by
    cases (show some a = some h from e)
    show (x :: l).sum + a = (a :: l).sum + x
    rw [List.sum_cons, List.sum_cons]
    omega
  | a :: l, j + 1, x, h, e => by
    have ih := sum_set l j x h e
    show (a :: l.set j x).sum + h = (a :: l).sum + x
    rw [List.sum_cons, List.sum_cons]
    omega
theorem sum_le : ∀ {l : List Nat} {k : Nat}, (∀ h ∈ l, h ≤ k) → l.sum ≤ k * l.length
  | [], _, _ => Nat.zero_le _
  | a :: l, k, h => by
    have ih := sum_le (l := l) fun x hx => h x (List.mem_cons_of_mem _ hx)
    have := h a List.mem_cons_self
    rw [List.sum_cons, List.length_cons, Nat.mul_add]
    omega
theorem first_at : ∀ {l : List Nat} {h : Nat}, h ∈ l → ∃ j : Nat, l[j]? = some h ∧ ∀ m : Nat, m < j → ∀ y, l[m]? = some y → y ≠ h
  | a :: l, h, hm => by
    by_cases e : a = h
    · exact ⟨0, by rw [e]; rfl, fun m hm => absurd hm (Nat.not_lt_zero _)⟩
    · obtain ⟨j, h1, h2⟩ := first_at ((List.mem_cons.mp hm).elim (fun z => absurd z.symm e) id)
      refine ⟨j + 1, h1, fun m hm y hy => ?_⟩
      cases m with
      | zero =>
        cases (show some a = some y from hy)
        exact e
      | succ m => exact h2 m (by omega) y hy
abbrev natV (n : Nat) : V := .int (n : Int)
theorem nat_int (hs : List Nat) : hs.map natV = (hs.map fun n : Nat => (n : Int)).map V.int := by
  rw [List.map_map]
  rfl
theorem int_sum (hs : List Nat) : (hs.map fun n : Nat => (n : Int)).sum = ((hs.sum : Nat) : Int) := by
  induction hs with
  | nil => rfl
  | cons a l ih => rw [List.map_cons, List.sum_cons, ih, List.sum_cons, Int.natCast_add]
structure HG (hs : List Nat) (many : Nat) : Prop where
  len : hs.length = many
  rng : ∀ h ∈ hs, 1 ≤ h ∧ h ≤ 12
section
variable {P : Program} {w : World} {K : PySem.W.Frag} {mg : Str → Option Value} {base : Heap} {a : Ad} {e : Ae}
def spLHeights : Sp := fun vs H Q _ => ∃ (p l : Addr) (many tall : Nat), vs = [.ref p, .int many, .int tall, .int 24] ∧ SrcAt H p l ∧ 3 ≤ many ∧ many ≤ 12 ∧ 2 ≤ tall ∧ tall ≤ 12 ∧
  ∀ H' t (hs : List Nat), Lw p l H H' → H' t = some (.tup (hs.map natV)) → HG hs many → hs.sum ≤ 24 → Q (.ref t) H'
theorem ok_LHeights (T : Tx K mg a) : Ca P w K mg base CX0 2 "_law_heights" spLHeights := by
  have G1 : Ca P w K mg base CX0 1 "_law_number" spLNumber := ok_LNumber T
  refine ca0 T.dLHeights cLHeights (fun vs H Q E h => ?_) (fun fa cdv A outer s H vs Q E hr h => ?_)
  · obtain ⟨p, l, many, tall, rfl, _⟩ := h
    rfl
  · obtain ⟨p, l, many, tall, rfl, hs, hm3, hm12, ht2, ht12, q⟩ := h
    have nd := cLHeights.nd
    refine ⟨_, pss_cons (ps_set (i := 4) nd rfl (.inl rfl) (pe_c0 G1 hr (by decide) (by rfl) (pa_cons (pv 0) (pa_cons pe_int pa_nil))))
      (pss_cons (ps_setLc (i := 5) (own := [("_law_stack", 7)]) (g := gName 7) (tt := tYes) (te := tOp (rI0 fun i j => .int (i + j)) (tC (.int 1)) (tCall spLNumber [] E0 (tCons (tVar 0) (tCons (tVar 2) tNil)))) rfl nd rfl rfl (sw_true rfl rfl rfl (by decide +kernel))
          (pi_range1 (by rfl) T.m_range (pa_cons (pv 1) pa_nil)) (blkOk_by (N := nLHeights) (sc := defScope sLHeights) (by decide +kernel))
          (fun _ _ _ _ _ => by exact pg_name (i := 7) nd rfl (Or.inl rfl)) (fun _ _ _ _ _ => pts_nil) (fun _ _ _ _ _ => by exact pe_op op_add pe_int (pe_c0 G1 hr (by decide) (by rfl) (pa_cons (pv 0) (pa_cons (pv 2) pa_nil)))))
      (pss_cons (ps_if (pt_cmpR op_eq (pv 4) pe_int (nomark _)) (pss_one (ps_set (i := 5) nd rfl (.inl rfl) (pe_op op_rep (pe_lst (pa_cons (pe_op op_add pe_int (pe_c0 G1 hr (by decide) (by rfl) (pa_cons (pv 0) (pa_cons (pv 2) pa_nil)))) pa_nil)) (pv 1)))) pss_nil)
      (pss_cons (ps_if (pt_cmpR op_eq (pv 4) pe_int (nomark _))
        (pss_cons (ps_set (i := 5) nd rfl (.inl rfl) (pe_op op_rep (pe_lst (pa_cons (pe_op op_add pe_int (pe_c0 G1 hr (by decide) (by rfl) (pa_cons (pv 0) (pa_cons pe_int pa_nil)))) pa_nil)) (pv 1)))
        (pss_one (ps_asg (pv 2) (pg_sub (pv 5) (pe_c0 G1 hr (by decide) (by rfl) (pa_cons (pv 0) (pa_cons (pv 1) pa_nil))) set_list (fun _ => rfl))))) pss_nil)
      (pss_cons (ps_for PassesOwn.never rfl (pi_range1 (by rfl) T.m_range (pa_cons (pe_op op_mul pe_int (pv 1)) pa_nil)) (pg_name (i := 6) nd rfl (Or.inl rfl))
        (pss_one (ps_if (pt_cmpR op_gt (pe_callB (cr_sum rfl) (by rfl) T.m_sum PyProof.Rows.boot_sum (pa_cons (pv 5) pa_nil)) (pe_callB (call_max2 rfl) (by rfl) T.m_max PyProof.Rows.boot_max (pa_cons (pv 1) (pa_cons (pv 3) pa_nil))) (nomark _))
          (pss_one (ps_augS (pv 5) (pe_bm PySem.F.plainAttrs_list PySem.F.slot_list_index PySem.F.type_list_index mt_index (pv 5) (pa_cons (pe_callB (cr_max rfl) (by rfl) T.m_max PyProof.Rows.boot_max (pa_cons (pv 5) pa_nil)) pa_nil)) get_list pe_int iop_sub set_list)) pss_nil)))
      (pss_one (ps_ret (pe_callTy call_tuple_of (by rfl) T.m_tuple PyProof.Rows.boot_tuple (pa_cons (pv 5) pa_nil)))))))), ?_⟩
    refine ⟨.ref p, rfl, p, l, 4, rfl, hs, by decide, by decide, fun H1 form lw1 hform => ?_⟩
    refine ⟨.int many, rfl, many, rfl, by omega, by omega, fun D hD => ?_⟩
    have hD0 := lw1.free hD
    refine lc_it (walk_range0 (n := ((many : Nat) : Int).toNat)) (fun i H' => ∃ hs : List Nat, LcW p l H1 D (hs.map natV) H' ∧ HG hs i) ⟨[], LcW.zero lw1.src hD, rfl, fun h hh => by cases hh⟩ (fun _ _ _ _ => True.intro) ?_ ?_
    · rintro i x H2 H3 hi ⟨hs, c, g⟩ ⟨rfl, rfl⟩
      refine ⟨rfl, yesT ⟨.ref p, rfl, .int tall, rfl, p, l, tall, rfl, c.1.src, by omega, by omega, fun H4 k lw4 hk => ⟨1, k, rfl, rfl, ?_⟩⟩⟩
      have gl := g.len
      obtain ⟨acc, h1, h2, h3⟩ := LcW.step (y := natV (1 + k)) lw1.src hD c lw4 (by rw [List.length_map]; exact small1000 (by omega)) rfl
      refine ⟨acc, h1, h2, hs ++ [1 + k], by rw [List.map_append]; exact h3, by rw [List.length_append, g.len]; rfl, fun h hh => ?_⟩
      rcases List.mem_append.mp hh with hh | hh
      · exact g.rng h hh
      · rw [List.mem_singleton.mp hh]
        omega
    · rintro H2 ⟨hs0, c, g0⟩
      have g0 : HG hs0 many := ⟨by rw [g0.len]; exact Int.toNat_natCast _, g0.rng⟩
      have I0 : ∃ fo hs, ([some (.ref p), some (.int many), some (.int tall), some (.int 24), some (.int form), some (.ref D), none, none] : L2.St) = [some (.ref p), some (.int many), some (.int tall), some (.int 24), some (.int form), some (.ref fo), none, none] ∧ H fo = none ∧ Lw p l H H2 ∧ H2 fo = some (.lst (hs.map natV)) ∧ HG hs many :=
        ⟨D, hs0, rfl, hD0, lw1.trans c.1, c.2, g0⟩
      generalize hσ : ([some (.ref p), some (.int many), some (.int tall), some (.int 24), some (.int form), some (.ref D), none, none] : L2.St) = σ0 at I0
      have hI : ∃ I : L2.St → Hp → Prop, I = fun σ H' => ∃ fo hs, σ = [some (.ref p), some (.int many), some (.int tall), some (.int 24), some (.int form), some (.ref fo), none, none] ∧ H fo = none ∧ Lw p l H H' ∧ H' fo = some (.lst (hs.map natV)) ∧ HG hs many := ⟨_, rfl⟩
      obtain ⟨I, hI⟩ := hI
      have rep : ∀ (n k : Nat), (List.replicate ((n : Nat) : Int).toNat [natV k]).flatten = (List.replicate n k).map natV := fun n k => by
        rw [Int.toNat_natCast, List.map_replicate]
        induction n with
        | zero => rfl
        | succ n ih =>
          rw [List.replicate_succ, List.flatten_cons, ih, List.replicate_succ]
          rfl
      have hrep : ∀ k : Nat, 1 ≤ k → k ≤ 12 → HG (List.replicate many k) many := fun k h1 h2 => ⟨List.length_replicate, fun h hh => by rw [(List.mem_replicate.mp hh).2]; exact ⟨h1, h2⟩⟩
      have repn : ∀ {H' : Hp} {b : Addr} {o : HO}, Lw p l H H' → H' b = none → Lw p l H (upd H' b o) := fun w hb => Lw.putn hs (w.free hb) w
      dsimp only
      refine seq_gen I (fun nx hnx => ?_) ?_
      · rw [hI] at hnx
        refine ⟨.int form, rfl, rfl, _, rfl, ite2 (fun _ => ?_) (fun _ => ?_)⟩
        · refine ⟨.ref p, rfl, .int tall, rfl, p, l, tall, rfl, c.1.src, by omega, by omega, fun H4 k lw4 hk => ⟨1, k, rfl, rfl, ?_⟩⟩
          have lw4 := (lw1.trans c.1).trans lw4
          refine ⟨(by show 1 ≤ sizeLine; decide), fun b hb => ?_⟩
          refine ⟨.int many, rfl, b, many, _, rfl, rfl, upd_same, by omega, by omega, ?_, fun r hr' => ?_⟩
          · rw [Int.toNat_natCast, sizeLine_eq]
            show 1 * many ≤ _
            omega
          · have e1 : (List.replicate ((many : Nat) : Int).toNat [V.int (1 + (k : Nat))]).flatten = (List.replicate many (1 + k)).map natV := rep many (1 + k)
            rw [e1]
            have lw5 := repn (o := .lst [.int (1 + (k : Nat))]) lw4 hb
            exact hnx _ _ ⟨r, _, rfl, lw5.free hr', repn lw5 hr', upd_same, hrep (1 + k) (by omega) (by omega)⟩
        · exact hnx _ _ ⟨D, hs0, rfl, hD0, lw1.trans c.1, c.2, g0⟩
      · rw [hI]
        rintro σ1 H3 ⟨fo, hs1, rfl, hf0, lw3, hf3, g3⟩
        refine seq_gen I (fun nx hnx => ?_) ?_
        · rw [hI] at hnx
          refine ⟨.int form, rfl, rfl, _, rfl, ite2 (fun _ => ?_) (fun _ => ?_)⟩
          · refine ⟨.ref p, rfl, p, l, 2, rfl, lw3.src, by decide, by decide, fun H4 k lw4 hk => ⟨1, k, rfl, rfl, ?_⟩⟩
            have lw4 := lw3.trans lw4
            refine ⟨(by show 1 ≤ sizeLine; decide), fun b hb => ?_⟩
            refine ⟨.int many, rfl, b, many, _, rfl, rfl, upd_same, by omega, by omega, ?_, fun r hr' => ?_⟩
            · rw [Int.toNat_natCast, sizeLine_eq]
              show 1 * many ≤ _
              omega
            · have e1 : (List.replicate ((many : Nat) : Int).toNat [V.int (1 + (k : Nat))]).flatten = (List.replicate many (1 + k)).map natV := rep many (1 + k)
              rw [e1]
              have lw5 := repn (o := .lst [.int (1 + (k : Nat))]) lw4 hb
              have nr := lw5.free hr'
              have lw6 := repn (o := .lst ((List.replicate many (1 + k)).map natV)) lw5 hr'
              obtain ⟨r1, r2⟩ := hs.new nr
              refine ⟨.int tall, rfl, .ref r, rfl, .ref p, rfl, .int many, rfl, p, l, many, rfl, lw6.src, by omega, by omega, fun H7 j lw7 hj => ?_⟩
              have hr7 := lw7.keep _ _ (upd_same (H := upd H4 b (.lst [.int (1 + (k : Nat))])) (o := .lst ((List.replicate many (1 + k)).map natV)) (a := r)) r1 r2
              refine ⟨r, _, j, j, rfl, rfl, hr7, ixN_nat (by rw [List.length_map, List.length_replicate]; exact hj), ?_⟩
              have hg := hrep (1 + k) (by omega) (by omega)
              refine hnx _ _ ⟨r, (List.replicate many (1 + k)).set j tall, rfl, nr, Lw.putn hs nr (lw6.trans lw7), by rw [upd_same, List.map_set], ⟨by rw [List.length_set]; exact hg.len, fun h hh => ?_⟩⟩
              rcases List.mem_or_eq_of_mem_set hh with z | z
              · exact hg.rng h z
              · rw [z]
                omega
          · exact hnx _ _ ⟨fo, hs1, rfl, hf0, lw3, hf3, g3⟩
        · rw [hI]
          rintro σ2 H4 ⟨fo, hs2, rfl, hf0, lw4, hf4, g4⟩
          obtain ⟨f1, f2⟩ := hs.new hf0
          refine ⟨.int many, rfl, 12, many, rfl, rfl, .inl ⟨by decide, by decide⟩, 12 * (many : Int), rfl, by omega, by omega, ?_⟩
          refine for_it (walk_range0 (n := (12 * ((many : Nat) : Int)).toNat)) (fun i σ H' => (∃ u6, σ = [some (.ref p), some (.int many), some (.int tall), some (.int 24), some (.int form), some (.ref fo), u6, none]) ∧ Lw p l H H' ∧ ∃ hs : List Nat, H' fo = some (.lst (hs.map natV)) ∧ HG hs many ∧ (hs.sum ≤ 24 ∨ hs.sum + i ≤ 12 * many))
            ⟨⟨none, rfl⟩, lw4, hs2, hf4, g4, .inr ?_⟩ (fun _ _ _ _ _ => True.intro) ?_ ?_
          · have := sum_le fun h hh => (g4.rng h hh).2
            rw [g4.len] at this
            omega
          · rintro i x σ H0 H5 hi ⟨⟨u6, rfl⟩, lw5, hs5, hf5, g5, hsum⟩ ⟨rfl, rfl⟩
            have hf5' := hf5
            rw [nat_int] at hf5'
            refine ⟨.ref fo, rfl, fo, _, rfl, .of hf5', .int many, rfl, .int 24, rfl, many, 24, rfl, _, _, rfl, rfl, _, rfl, ?_⟩
            rw [int_sum]
            have hmax : (if (24 : Int) > (many : Nat) then (24 : Int) else (many : Nat)) = 24 := by rw [if_pos (by omega)]
            rw [hmax]
            refine ite2 (fun hgt => ?_) (fun hgt => ?_)
            · have hgt : (24 : Int) < (hs5.sum : Nat) := of_decide_eq_true hgt
              refine ⟨.ref fo, rfl, .ref fo, rfl, .inl ⟨rfl, _, .of hf5⟩, .ref fo, rfl, fo, _, rfl, .of hf5', by rw [List.length_map, g5.len]; omega, fun m hm hmx => ?_⟩
              obtain ⟨h, hh, rfl⟩ := List.mem_map.mp hm
              have hmx : ∀ y ∈ hs5, y ≤ h := fun y hy => by
                have := hmx _ (List.mem_map_of_mem (f := fun n : Nat => (n : Int)) hy)
                omega
              have hbig : 2 ≤ h := by
                have := sum_le hmx
                rw [g5.len] at this
                apply Nat.le_of_not_lt
                intro hlt
                have h1 : h * many ≤ 1 * many := Nat.mul_le_mul_right _ (by omega)
                omega
              obtain ⟨jx, hget, hfirst⟩ := first_at hh
              have hidx : jx < hs5.length := (List.getElem?_eq_some_iff.mp hget).1
              refine ⟨fo, _, .int (h : Int), jx, .int (h : Int), rfl, rfl, .of hf5, rfl, ?_, by rw [List.getElem?_map, hget]; rfl, by simp [eqV], fun m z hm hz => ?_, ?_⟩
              · rw [List.all_map, List.all_eq_true]
                exact fun _ _ => rfl
              · rw [List.getElem?_map] at hz
                obtain ⟨y, hy, rfl⟩ := Option.map_eq_some_iff.mp hz
                have := hfirst m hm y hy
                simp [eqV]
                omega
              · refine ⟨fo, _, jx, .int (h : Int), rfl, rfl, .of hf5, by rw [List.getElem?_map, hget]; rfl, h, 1, rfl, rfl, ?_⟩
                refine ⟨fo, _, _, jx, rfl, rfl, hf5, ixN_nat (by rw [List.length_map]; exact hidx), ?_⟩
                have hss := sum_set hs5 jx (h - 1) h hget
                refine ⟨⟨_, rfl⟩, Lw.putn hs hf0 lw5, hs5.set jx (h - 1), ?_, ⟨by rw [List.length_set]; exact g5.len, fun y hy => ?_⟩, ?_⟩
                · rw [upd_same, List.map_set]
                  show _ = some (HO.lst ((hs5.map natV).set jx (V.int ((h - 1 : Nat) : Int))))
                  rw [show (((h - 1 : Nat) : Int)) = (h : Int) - 1 by omega]
                · rcases List.mem_or_eq_of_mem_set hy with z | z
                  · exact g5.rng y z
                  · have := g5.rng h hh
                    omega
                · rcases hsum with z | z
                  · omega
                  · exact .inr (by omega)
            · have hgt : ¬ (24 : Int) < (hs5.sum : Nat) := fun z => hgt (decide_eq_true z)
              exact ⟨⟨_, rfl⟩, lw5, hs5, hf5, g5, .inl (by omega)⟩
          · rintro σ H5 ⟨⟨u6, rfl⟩, lw5, hs5, hf5, g5, hsum⟩
            refine ⟨.ref fo, rfl, fo, _, rfl, .inl ⟨.of hf5, fun t ht => ?_⟩⟩
            exact q _ t hs5 (repn lw5 ht) upd_same g5 (by rcases hsum with z | z <;> omega)
end
end K34
end
section
set_option linter.all false
set_option maxRecDepth 100000
/-! A standing is filled. -/
namespace K34
open PySem PySem.Spec PyProof.Rows L2 LamX SX
abbrev rfs (rs : Rows) : List V := rs.map fun r => V.ref r.1
def rowsAt (H : Hp) (rs : Rows) : Prop := ∀ r ∈ rs, H r.1 = some (.tup (r.2.map V.str))
theorem rowsAt.lw {p l : Addr} {H H1 : Hp} {rs : Rows} (hs : SrcAt H p l) (h : rowsAt H rs) (w : Lw p l H H1) : rowsAt H1 rs := fun r hr => w.get hs (h r hr) fun xs z => by cases z
def rlen (rs : Rows) (k : Nat) : Nat := ((rs[k]?).map fun r => r.2.length).getD 0
theorem mem_sum : ∀ {l : List Nat} {x : Nat}, x ∈ l → x ≤ l.sum
  | a :: l, x, h => by
    rw [List.sum_cons]
    rcases List.mem_cons.mp h with e | e
    · rw [e]
      omega
    · have := mem_sum e
      omega
theorem set_boxes : ∀ (rs : Rows) (k : Nat) (r : Addr × List Str) (t : Addr) (z : Str), rs[k]? = some r → (boxes (rs.set k (t, r.2 ++ [z]))).Perm (z :: boxes rs)
  | [], _, _, _, _, h => by simp at h
  | r0 :: rs, 0, r, t, z, h => by
    cases (show some r0 = some r from h)
    show (boxes ((t, r0.2 ++ [z]) :: rs)).Perm (z :: boxes (r0 :: rs))
    rw [show boxes ((t, r0.2 ++ [z]) :: rs) = (r0.2 ++ [z]) ++ boxes rs from List.flatMap_cons, show boxes (r0 :: rs) = r0.2 ++ boxes rs from List.flatMap_cons, List.append_assoc]
    exact List.perm_middle
  | r0 :: rs, k + 1, r, t, z, h => by
    have ih := set_boxes rs k r t z h
    show (boxes (r0 :: rs.set k (t, r.2 ++ [z]))).Perm (z :: boxes (r0 :: rs))
    rw [show boxes (r0 :: rs.set k (t, r.2 ++ [z])) = r0.2 ++ boxes (rs.set k (t, r.2 ++ [z])) from List.flatMap_cons, show boxes (r0 :: rs) = r0.2 ++ boxes rs from List.flatMap_cons]
    exact (List.Perm.append_left _ ih).trans List.perm_middle
theorem full_sum : ∀ {hs : List Nat} {rs : Rows}, rs.length = hs.length → (∀ k, k < hs.length → hs.getD k 0 ≤ rlen rs k) → hs.sum ≤ (boxes rs).length
  | [], [], _, _ => Nat.le_refl _
  | h :: hs, r :: rs, hl, hf => by
    have hl' : rs.length = hs.length := by simpa using hl
    have ih := full_sum hl' fun k hk => by
      have := hf (k + 1) (by rw [List.length_cons]; omega)
      simpa [rlen] using this
    have h0 : h ≤ r.2.length := hf 0 (by rw [List.length_cons]; omega)
    rw [show boxes (r :: rs) = r.2 ++ boxes rs from List.flatMap_cons, List.length_append, List.sum_cons]
    omega
  | [], _ :: _, hl, _ => nomatch hl
  | _ :: _, [], hl, _ => nomatch hl
section
variable {P : Program} {w : World} {K : PySem.W.Frag} {mg : Str → Option Value} {base : Heap} {a : Ad} {e : Ae}
def spLFilled : Sp := fun vs H Q _ => ∃ (p l ht b : Addr) (hs : List Nat) (zs : List Str), vs = [.ref p, .ref ht, .ref b] ∧ SrcAt H p l ∧ H ht = some (.tup (hs.map natV)) ∧ H b = some (.lst (zs.map V.str)) ∧ b ≠ p ∧ b ≠ l ∧ zs.length ≤ hs.sum ∧ hs.sum ≤ 24 ∧ hs.length ≤ 12 ∧ zs.Nodup ∧ (∀ z ∈ zs, nameB z = true) ∧
  ∀ H' st rs, Lw p l H H' → StAt H' st rs → Good hs rs → (boxes rs).Perm zs → Q (.ref st) H'
theorem ok_LFilled (T : Tx K mg a) : Ca P w K mg base CX0 3 "_law_filled" spLFilled := by
  have G2 : Ca P w K mg base CX0 2 "_law_of" spLOf := ok_LOf T
  have G3 : Ca P w K mg base CX0 2 "_law_mixed" spLMixed := ok_LMixed T
  refine ca0 T.dLFilled cLFilled (fun vs H Q E h => ?_) (fun fa cdv A outer s H vs Q E hr h => ?_)
  · obtain ⟨p, l, ht, b, hs, zs, rfl, _⟩ := h
    rfl
  · obtain ⟨p, l, ht, b, hs, zs, rfl, hsrc, hht, hb, b1, b2, hzs, hs24, hs12, hznd, hznm, q⟩ := h
    have nd := cLFilled.nd
    refine ⟨_, pss_cons (ps_set (i := 3) nd rfl (.inr rfl) (pe_op op_rep (pe_lst (pa_cons (pe_tup pa_nil) pa_nil)) (pe_callB call_len_seq (by rfl) T.m_len PySem.boot_len (pa_cons (pv 1) pa_nil))))
      (pss_cons (ps_for PassesOwn.never rfl (pi_list (pe_c0 G3 hr (by decide) (by rfl) (pa_cons (pv 0) (pa_cons (pv 2) pa_nil)))) (pg_name (i := 4) nd rfl (Or.inl rfl))
        (pss_cons (ps_set (i := 5) nd rfl (.inl rfl) (pe_c0 G2 hr (by decide) (by rfl) (pa_cons (pv 0) (pa_cons
          (pe_lc (own := [("_law_at", 5), ("_law_height", 6)]) (g := gTup K 2 (gCons (gName 5) (gCons (gName 6) gNil))) (tt := tTest (tOp (rI0 fun i j => .bl (decide (i < j))) (tCB (rLenS K) (tCons (tOp (rIxL K) (tVar 3) (tVar 5)) tNil)) (tVar 6))) (te := tVar 5) rfl nd
            (pi_enumT (by rfl) T.m_enumerate (pa_cons (pv 1) pa_nil)) (blkOk_by (N := nLFilled) (sc := defScope sLFilled) (by decide +kernel))
            (fun _ _ _ _ _ => by exact pg_tup rfl (pgs_cons (pg_name (i := 5) nd rfl (Or.inl rfl)) (pgs_cons (pg_name (i := 6) nd rfl (Or.inl rfl)) pgs_nil)))
            (fun _ _ _ _ _ => by exact pts_one (pt_cmpR op_lt (pe_callB cr_lenS (by rfl) T.m_len PySem.boot_len (pa_cons (pe_ix ix_list (pv 3) (pv 5) (fun _ _ => rfl)) pa_nil)) (pv 6) (nomark _))) (fun _ _ _ _ _ => by exact pv 5)) pa_nil))))
        (pss_one (ps_asg (pe_op op_catA (pe_ix ix_list (pv 3) (pv 5) (fun _ _ => rfl)) (pe_tup (pa_cons (pv 4) pa_nil))) (pg_sub (pv 3) (pv 5) set_list (fun _ => rfl))))))
      (pss_one (ps_ret (pe_callTy call_tuple_of (by rfl) T.m_tuple PyProof.Rows.boot_tuple (pa_cons (pv 3) pa_nil))))), ?_⟩
    refine ⟨Nat.zero_le _, fun t0 ht0 => ?_⟩
    have w1 := Lw.of hsrc (same_new (o := .tup []) ht0)
    have e1 : upd H t0 (.tup []) t0 = some (.tup []) := upd_same
    generalize upd H t0 (.tup []) = H1 at w1 e1 ⊢
    refine ⟨(by show 1 ≤ sizeLine; decide), fun l0 hl0 => ?_⟩
    have w2 := w1.trans (Lw.of w1.src (same_new (o := .lst [.ref t0]) hl0))
    have e2 : upd H1 l0 (.lst [.ref t0]) t0 = some (.tup []) := by
      rw [upd_ne (ne_of_none e1 hl0)]
      exact e1
    have e2l : upd H1 l0 (.lst [.ref t0]) l0 = some (.lst [.ref t0]) := upd_same
    generalize upd H1 l0 (.lst [.ref t0]) = H2 at w2 e2 e2l ⊢
    have hht2 := w2.get hsrc hht (fun xs z => by cases z)
    refine ⟨.ref ht, rfl, ht, _, rfl, .inr (.of hht2), l0, ((hs.map natV).length : Nat), [.ref t0], rfl, rfl, e2l, by omega, by rw [List.length_map]; omega, ?_, fun r hr' => ?_⟩
    · rw [Int.toNat_natCast, List.length_map, sizeLine_eq]
      show 1 * _ ≤ _
      omega
    have nr := w2.free hr'
    obtain ⟨r1, r2⟩ := hsrc.new nr
    have erep : (List.replicate (((hs.map natV).length : Nat) : Int).toNat [V.ref t0]).flatten = rfs (List.replicate hs.length (t0, [])) := by
      rw [Int.toNat_natCast, List.length_map]
      show _ = (List.replicate hs.length ((t0, []) : Addr × List Str)).map (fun r => V.ref r.1)
      rw [List.map_replicate]
      generalize hs.length = n
      induction n with
      | zero => rfl
      | succ n ih => rw [List.replicate_succ, List.flatten_cons, ih, List.replicate_succ]; rfl
    rw [erep]
    have w3 := Lw.putn hsrc nr w2 (o := .lst (rfs (List.replicate hs.length (t0, []))))
    have er3 : upd H2 r (.lst (rfs (List.replicate hs.length (t0, [])))) r = some (.lst (rfs (List.replicate hs.length (t0, [])))) := upd_same
    have et3 : upd H2 r (.lst (rfs (List.replicate hs.length (t0, [])))) t0 = some (.tup []) := by
      rw [upd_ne (ne_of_none e2 hr')]
      exact e2
    generalize upd H2 r (.lst (rfs (List.replicate hs.length (t0, [])))) = H3 at w3 er3 et3 ⊢
    have hb3 := w3.keep _ _ hb b1 b2
    refine ⟨.ref p, rfl, .ref b, rfl, p, l, b, _, rfl, w3.src, hb3, b1, b2, by rw [List.length_map]; omega, fun H4 f ys w4 nf hf hp => ?_⟩
    obtain ⟨xs, hxp, rfl⟩ := perm_strs hp
    have nf3 := nf
    have w34 := w3.trans w4
    have er4 := w4.keep _ _ er3 r1 r2
    have et4 := w4.get w3.src et3 (fun xs z => by cases z)
    have fr : f ≠ r := (ne_of_none er3 nf3).symm
    obtain ⟨f1, f2⟩ := w3.src.new nf3
    have nf0 := w3.free nf3
    refine ⟨f, rfl, ⟨_, .of hf⟩, ?_⟩
    have hxl : xs.length = zs.length := hxp.length_eq
    refine for_it (walk_listM (l := xs) (f := V.str)) (fun i σ H' => (∃ u4 u5, σ = [some (.ref p), some (.ref ht), some (.ref b), some (.ref r), u4, u5, none]) ∧ Lw p l H H' ∧ H' f = some (.lst (xs.map V.str)) ∧
        ∃ rs : Rows, H' r = some (.lst (rfs rs)) ∧ rowsAt H' rs ∧ rs.length = hs.length ∧ (∀ (k : Nat) q, rs[k]? = some q → q.2.length ≤ hs.getD k 0) ∧ (boxes rs).Perm (xs.take i))
      ⟨⟨none, none, rfl⟩, w34, hf, _, er4, fun q hq => by rw [(List.mem_replicate.mp hq).2]; exact et4, List.length_replicate, fun k q hq => by rw [(List.mem_replicate.mp (List.mem_of_getElem? hq)).2]; exact Nat.zero_le _, ?_⟩ (fun _ _ _ _ h => .of h.2.2.1) ?_ ?_
    · rw [List.take_zero]
      have : boxes (List.replicate hs.length ((t0, []) : Addr × List Str)) = [] := by
        generalize hs.length = n
        induction n with
        | zero => rfl
        | succ n ih => rw [List.replicate_succ]; exact ih
      rw [this]
    · rintro i x σ H0 H5 hi ⟨⟨u4, u5, rfl⟩, w5, hf5, rs, er5, hra, hrl, hfit, hbp⟩ ⟨rfl, z, hz, rfl⟩
      have ht5 := w5.get hsrc hht (fun xs z => by cases z)
      refine ⟨.ref p, rfl, .ref ht, rfl, ht, _, rfl, .of ht5, fun D hD => ?_⟩
      refine lc_it (walk_enumM (l := hs) (f := natV)) (fun j H' => LcS H5 D (((List.range j).filter fun k => decide (rlen rs k < hs.getD k 0)).map natV) H') (LcS.zero hD) (fun j H' _ h => .of (h.1 _ _ ht5)) ?_ ?_
      · rintro j x H6 H7 hj c ⟨T1, n, rfl, hT, rfl, hn⟩
        refine ⟨T1, _, rfl, .of upd_same, rfl, natV j, [natV n], rfl, natV n, [], rfl, rfl, ?_⟩
        have c7 : LcS H5 D (((List.range j).filter fun k => decide (rlen rs k < hs.getD k 0)).map natV) (upd H6 T1 (.tup [.int j, natV n])) := c.to (same_new hT)
        generalize upd H6 T1 (.tup [.int j, natV n]) = H8 at c7 ⊢
        obtain ⟨qr, hqr⟩ : ∃ q, rs[j]? = some q := ⟨_, List.getElem?_eq_getElem (by rw [hrl]; exact hj)⟩
        have hq8 := c7.1 _ _ (hra qr (List.mem_of_getElem? hqr))
        have erl : rlen rs j = qr.2.length := by
          unfold rlen
          rw [hqr]
          rfl
        have ehn : hs.getD j 0 = n := by
          rw [List.getD_eq_getElem?_getD, hn]
          rfl
        refine ⟨rfl, .ref r, rfl, natV j, rfl, r, rfs rs, j, .ref qr.1, rfl, rfl, .of (c7.1 _ _ er5), atI_nat (by rw [List.getElem?_map, hqr]; rfl), qr.1, _, rfl, .inr (.of hq8), natV n, rfl, _, n, rfl, rfl, _, rfl, ?_⟩
        rw [List.length_map]
        have hd : decide (((qr.2.length : Nat) : Int) < (n : Int)) = decide (rlen rs j < hs.getD j 0) := by
          rw [erl, ehn]
          by_cases h : qr.2.length < n
          · rw [decide_eq_true h, decide_eq_true (by omega)]
          · rw [decide_eq_false h, decide_eq_false (by omega)]
        rw [hd]
        refine ite2 (fun h => ?_) (fun h => ?_)
        · refine ⟨natV j, rfl, ?_⟩
          refine LcS.step hD c7 (Same.refl _) ?_ ?_
          · rw [List.length_map]
            have h1 := List.length_filter_le (fun k => decide (rlen rs k < hs.getD k 0)) (List.range j)
            rw [List.length_range] at h1
            exact small1000 (by omega)
          · rw [List.range_succ, List.filter_append, List.filter_cons, if_pos h, List.map_append]
            rfl
        · rw [List.range_succ, List.filter_append, List.filter_cons, if_neg h, List.filter_nil, List.append_nil]
          exact c7
      · intro H6 c6
        obtain ⟨s6, d6⟩ := c6
        have w6 := w5.same s6
        obtain ⟨d1, d2⟩ := w5.src.new hD
        have hne : ((List.range hs.length).filter fun k => decide (rlen rs k < hs.getD k 0)) ≠ [] := fun he => by
          have := full_sum hrl fun k hk => by
            have h1 := List.filter_eq_nil_iff.mp he k (List.mem_range.mpr hk)
            exact Nat.le_of_not_lt fun z => h1 (decide_eq_true z)
          have h2 := hbp.length_eq
          rw [List.length_take] at h2
          omega
        have hle := List.length_filter_le (fun k => decide (rlen rs k < hs.getD k 0)) (List.range hs.length)
        rw [List.length_range] at hle
        refine ⟨p, l, .ref D, rfl, w6.src, .inl ⟨D, _, rfl, d6, d1, d2, fun z => hne (List.map_eq_nil_iff.mp z), by rw [List.length_map]; omega, fun H7 j v w7 hv => ?_⟩⟩
        obtain ⟨k, hk, rfl⟩ : ∃ k, k ∈ ((List.range hs.length).filter fun k => decide (rlen rs k < hs.getD k 0)) ∧ v = natV k := by
          obtain ⟨k, h1, h2⟩ := List.mem_map.mp (List.mem_of_getElem? hv)
          exact ⟨k, h1, h2.symm⟩
        obtain ⟨hk1, hk2⟩ := List.mem_filter.mp hk
        have hk1 := List.mem_range.mp hk1
        have hk2 := of_decide_eq_true hk2
        obtain ⟨qr, hqr⟩ : ∃ q, rs[k]? = some q := ⟨_, List.getElem?_eq_getElem (by rw [hrl]; exact hk1)⟩
        have erl : rlen rs k = qr.2.length := by
          unfold rlen
          rw [hqr]
          rfl
        have er7 := w7.keep _ _ (s6 _ _ er5) r1 r2
        have hf7 := w7.keep _ _ (s6 _ _ hf5) f1 f2
        have hra7 : rowsAt H7 rs := fun x hx => w7.get w6.src (s6 _ _ (hra x hx)) fun xs z => by cases z
        have w7 := w6.trans w7
        have hq7 := hra7 qr (List.mem_of_getElem? hqr)
        refine ⟨.ref r, rfl, natV k, rfl, r, rfs rs, k, .ref qr.1, rfl, rfl, .of er7, atI_nat (by rw [List.getElem?_map, hqr]; rfl), .str z, rfl, (by show 1 ≤ sizeLine; decide), fun tb htb => ?_⟩
        have w8 := Lw.putn hsrc (w7.free htb) w7 (o := .tup [.str z])
        have eb8 : upd H7 tb (.tup [.str z]) tb = some (.tup [.str z]) := upd_same
        have er8 : upd H7 tb (.tup [.str z]) r = some (.lst (rfs rs)) := by
          rw [upd_ne (ne_of_none er7 htb)]
          exact er7
        have hf8 : upd H7 tb (.tup [.str z]) f = some (.lst (xs.map V.str)) := by
          rw [upd_ne (ne_of_none hf7 htb)]
          exact hf7
        have hra8 : rowsAt (upd H7 tb (.tup [.str z])) rs := fun x hx => by
          rw [upd_ne (ne_of_none (hra7 x hx) htb)]
          exact hra7 x hx
        generalize upd H7 tb (.tup [.str z]) = H8 at w8 eb8 er8 hf8 hra8 ⊢
        -- the row is laid
        have fin : ∀ (H9 : Hp) (t : Addr), Same H8 H9 → H9 t = some (.tup ((qr.2 ++ [z]).map V.str)) → gSub (tVar 3) (tVar 5) rSetL (.ref t) [some (.ref p), some (.ref ht), some (.ref b), some (.ref r), some (.str z), some (natV k), none] H9
            (fun σ H' => (∃ u4 u5, σ = [some (.ref p), some (.ref ht), some (.ref b), some (.ref r), u4, u5, none]) ∧ Lw p l H H' ∧ H' f = some (.lst (xs.map V.str)) ∧
              ∃ rs : Rows, H' r = some (.lst (rfs rs)) ∧ rowsAt H' rs ∧ rs.length = hs.length ∧ (∀ (k : Nat) q, rs[k]? = some q → q.2.length ≤ hs.getD k 0) ∧ (boxes rs).Perm (xs.take (i + 1))) := by
          intro H9 t s9 h9
          refine ⟨.ref r, rfl, natV k, rfl, r, rfs rs, k, k, rfl, rfl, s9 _ _ er8, ixN_nat (by rw [List.length_map, hrl]; exact hk1), ?_⟩
          refine ⟨⟨_, _, rfl⟩, Lw.putn hsrc nr (w8.same s9), ?_, rs.set k (t, qr.2 ++ [z]), ?_, fun x hx => ?_, by rw [List.length_set]; exact hrl, fun k' q' hq' => ?_, ?_⟩
          · rw [upd_ne fr]
            exact s9 _ _ hf8
          · rw [upd_same]
            show _ = some (HO.lst ((rs.set k (t, qr.2 ++ [z])).map _))
            rw [List.map_set]
          · have hx9 : H9 x.1 = some (.tup (x.2.map V.str)) := by
              rcases List.mem_or_eq_of_mem_set hx with h | h
              · exact s9 _ _ (hra8 x h)
              · rw [h]
                exact h9
            have : x.1 ≠ r := fun e => by
              rw [e, s9 _ _ er8] at hx9
              cases hx9
            rw [upd_ne this]
            exact hx9
          · by_cases e : k = k'
            · subst e
              rw [List.getElem?_set_self (by rw [hrl]; exact hk1)] at hq'
              cases hq'
              rw [List.length_append]
              show qr.2.length + 1 ≤ _
              omega
            · rw [List.getElem?_set_ne e] at hq'
              exact hfit k' q' hq'
          · refine (set_boxes rs k qr t z hqr).trans ?_
            rw [List.take_add_one, hz]
            exact (hbp.cons z).trans (List.perm_append_singleton z (xs.take i)).symm
        refine ⟨qr.1, tb, qr.2.map V.str, [.str z], rfl, rfl, .of (hra8 qr (List.mem_of_getElem? hqr)), .of eb8, ?_, fun hn => ?_, fun _ hn => (List.cons_ne_nil _ _ hn).elim, fun hn _ t ht => ?_⟩
        · rw [List.length_map]
          have hfk := hfit k qr hqr
          have : hs.getD k 0 ≤ hs.sum := by
            rw [List.getD_eq_getElem?_getD, List.getElem?_eq_getElem hk1]
            exact mem_sum (List.getElem_mem hk1)
          rw [sizeLine_eq]
          show _ + 1 ≤ _
          omega
        · have hn : qr.2 = [] := List.map_eq_nil_iff.mp hn
          exact fin H8 tb (Same.refl _) (by rw [hn]; exact eb8)
        · exact fin _ t (same_new ht) (by rw [upd_same, List.map_append]; rfl)
    · rintro σ H5 ⟨⟨u4, u5, rfl⟩, w5, hf5, rs, er5, hra, hrl, hfit, hbp⟩
      rw [List.take_length] at hbp
      have hbz := hbp.trans hxp
      refine ⟨.ref r, rfl, r, _, rfl, .inl ⟨.of er5, fun st hst => ?_⟩⟩
      refine q _ st rs (Lw.putn hsrc (w5.free hst) w5) ⟨upd_same, fun x hx => ?_⟩ ⟨hrl, hfit, fun z hz => hznm z (hbz.mem_iff.mp hz), hbz.nodup_iff.mpr hznd, by rw [hbz.length_eq]; omega, hs24, hs12⟩ hbz
      rw [upd_ne (ne_of_none (hra x hx) hst)]
      exact hra x hx
end
end K34
end
section
set_option linter.all false
set_option maxRecDepth 100000
/-! The law's own waits. -/
namespace K34
open PySem PySem.Spec PyProof.Rows L2 LamX SX
section
variable {P : Program} {w : World} {K : PySem.W.Frag} {mg : Str → Option Value} {base : Heap} {a : Ad} {e : Ae}
def spLWaits : Sp := fun vs H Q _ => ∃ (ht st : Addr) (hs : List Nat) (rs : Rows), vs = [.ref ht, .ref st] ∧ H ht = some (.tup (hs.map natV)) ∧ StAt H st rs ∧ Good hs rs ∧ ∀ H' d, Same H H' → H d = none → PD H' d (wts hs rs) → Q (.ref d) H'
theorem ok_LWaits (T : Tx K mg a) : Ca P w K mg base CX0 1 "_law_waits" spLWaits := by
  refine ca0 T.dLWaits cLWaits (fun vs H Q E h => ?_) (fun f cdv A outer s H vs Q E hr h => ?_)
  · obtain ⟨ht, st, hs, rs, rfl, _⟩ := h
    rfl
  · obtain ⟨ht, st, hs, rs, rfl, hht, hst, g, q⟩ := h
    have hu := hu_of hr
    have cnd := cLWaits.nd
    refine ⟨_, pss_cons (ps_set (i := 3) cnd rfl (.inl rfl) (pe_op op_sub (pe_callB (cr_sumT rfl) (by rfl) T.m_sum PyProof.Rows.boot_sum (pa_cons (pv 0) pa_nil)) (pe_callB (cr_sum rfl) (by rfl) T.m_sum PyProof.Rows.boot_sum (pa_cons
        (pe_lc (own := [("_law_row", 2)]) (g := gName 2) (tt := tYes) (te := tCB (rLenS K) (tCons (tVar 2) tNil)) rfl cnd (pi_tup (pv 1)) (blkOk_by (N := nLWaits) (sc := defScope sLWaits) (by decide +kernel)) (fun _ _ _ _ _ => by exact pg_name (i := 2) cnd rfl (Or.inl rfl)) (fun _ _ _ _ _ => pts_nil)
          (fun _ _ _ _ _ => by exact pe_callB cr_lenS (by rfl) T.m_len PySem.boot_len (pa_cons (pv 2) pa_nil))) pa_nil))))
      (pss_cons (ps_set (i := 4) cnd rfl (.inl rfl) pe_dnewK)
      (pss_cons (ps_for PassesOwn.never rfl (pi_enumT (by rfl) T.m_enumerate (pa_cons (pv 1) pa_nil)) (pg_tup rfl (pgs_cons (pg_name (i := 5) cnd rfl (Or.inl rfl)) (pgs_cons (pg_name (i := 2) cnd rfl (Or.inl rfl)) pgs_nil)))
        (pss_one (ps_for PassesOwn.never rfl (pi_enumT (by rfl) T.m_enumerate (pa_cons (pv 2) pa_nil)) (pg_tup rfl (pgs_cons (pg_name (i := 6) cnd rfl (Or.inl rfl)) (pgs_cons (pg_name (i := 7) cnd rfl (Or.inl rfl)) pgs_nil)))
          (pss_one (ps_dput hu (pv 4) (pv 7) (pe_callB (call_max2 rfl) (by rfl) T.m_max PyProof.Rows.boot_max (pa_cons pe_int (pa_cons (pe_op op_sub (pe_op op_sub (pe_op op_sub (pe_ix ix_tup (pv 0) (pv 5) (fun _ _ => rfl)) pe_int) (pv 6)) (pv 3)) pa_nil))) rfl)))))
      (pss_one (ps_ret (pv 4))))), ?_⟩
    have hht' : H ht = some (.tup ((hs.map fun n : Nat => (n : Int)).map V.int)) := by
      rw [← nat_int]
      exact hht
    refine ⟨.ref ht, rfl, ht, _, rfl, .of hht', .ref st, rfl, st, rfl, ⟨_, .of hst.1⟩, fun D hD => ?_⟩
    refine lc_it (walk_tupM (l := rs) (f := fun r => V.ref r.1)) (fun i H' => LcS H D ((rs.take i).map fun r => V.int ((r.2.length : Nat) : Int)) H') (LcS.zero hD) (fun i H' _ h => .of (h.1 _ _ hst.1)) ?_ ?_
    · rintro i x H2 H3 hi c ⟨rfl, r, hr', rfl⟩
      refine ⟨rfl, yesT ?_⟩
      refine ⟨.ref r.1, rfl, r.1, _, rfl, .inr (.of (c.1 _ _ (hst.2 r (List.mem_of_getElem? hr')))), ?_⟩
      refine LcS.step hD c (Same.refl _) ?_ ?_
      · have h1 := g.len
        have h2 := g.many
        rw [List.length_map]
        have := List.length_take_le' i rs
        exact small1000 (by omega)
      · rw [take_succ_map hr', List.length_map]
    intro H1 c1
    rw [List.take_length] at c1
    obtain ⟨s1, D1⟩ := c1
    refine ⟨D, rs.map fun r => ((r.2.length : Nat) : Int), rfl, .of (by rw [List.map_map]; exact D1), _, _, rfl, rfl, ?_⟩
    rw [sum_lens, int_sum]
    rw [show (fun i j : Int => V.int (i - j)) ((hs.sum : Nat) : Int) ((boxes rs).length : Nat) = V.int (freeN hs rs) from rfl]
    intro d hd
    have kd := waitL_keys (freeN hs rs) hs rs
    have pre : ∀ i, ((waitL (freeN hs rs) hs (rs.take i)).map (·.1)) = boxes (rs.take i) := fun i => waitL_keys _ _ _
    have eb : ∀ i r, rs[i]? = some r → boxes (rs.take (i + 1)) = boxes (rs.take i) ++ r.2 := fun i r hi => by
      rw [List.take_add_one, hi]
      show List.flatMap _ (rs.take i ++ [r]) = _
      rw [List.flatMap_append, List.flatMap_cons, List.flatMap_nil, List.append_nil]
    have cut : ∀ i, boxes rs = boxes (rs.take i) ++ boxes (rs.drop i) := fun i => by rw [← List.flatMap_append, List.take_append_drop]
    have s0 : Same H (upd H1 d (.dK [])) := same_put (s1.free hd) s1
    refine ⟨.ref st, rfl, st, _, rfl, .of (s0 _ _ hst.1), ?_⟩
    have nd : H d = none := s1.free hd
    refine for_it (walk_enumM (l := rs) (f := fun r => V.ref r.1)) (fun i σ H' => (∃ u1 u2 u3 u4, σ = [some (.ref ht), some (.ref st), u2, some (.int (freeN hs rs)), some (.ref d), u1, u3, u4]) ∧ But d H H' ∧ PD H' d (waitL (freeN hs rs) hs (rs.take i)))
      ⟨⟨none, none, none, none, rfl⟩, But.of s0, upd_same⟩ (fun i σ H' _ h => .of (h.2.1 _ _ hst.1 (ne_of_none hst.1 nd))) ?_ ?_
    · rintro i x σ H2 H3 hi ⟨⟨u1, u2, u3, u4, rfl⟩, b2, pd⟩ ⟨T1, r, rfl, hT, rfl, hr'⟩
      refine ⟨T1, _, rfl, .of upd_same, rfl, _, _, rfl, _, _, rfl, rfl, ?_⟩
      have hrt := hst.2 r (List.mem_of_getElem? hr')
      have b3 : But d H (upd H2 T1 (.tup [.int i, .ref r.1])) := fun b o e ne => by
        rw [upd_ne (ne_of_none (b2 b o e ne) hT)]
        exact b2 b o e ne
      have pd3 : PD (upd H2 T1 (.tup [.int i, .ref r.1])) d (waitL (freeN hs rs) hs (rs.take i)) := by
        unfold PD
        rw [upd_ne (ne_of_none pd hT)]
        exact pd
      generalize upd H2 T1 (.tup [.int i, .ref r.1]) = H3 at b3 pd3 ⊢
      refine ⟨.ref r.1, rfl, r.1, _, rfl, .of (b3 _ _ hrt (ne_of_none hrt nd)), ?_⟩
      refine for_it (walk_enumM (l := r.2) (f := V.str)) (fun j σ H' => (∃ u3 u4, σ = [some (.ref ht), some (.ref st), some (.ref r.1), some (.int (freeN hs rs)), some (.ref d), some (.int (i : Nat)), u3, u4]) ∧ But d H H' ∧
          PD H' d (waitL (freeN hs rs) hs (rs.take i) ++ (rowW (hs.getD i 0) (freeN hs rs) r.2).take j))
        ⟨⟨_, _, rfl⟩, b3, by simpa using pd3⟩ (fun j σ H' _ h => .of (h.2.1 _ _ hrt (ne_of_none hrt nd))) ?_ ?_
      · rintro j x σ H4 H5 hj ⟨⟨u3, u4, rfl⟩, b4, pd4⟩ ⟨T2, z, rfl, hT2, rfl, hz⟩
        refine ⟨T2, _, rfl, .of upd_same, rfl, _, _, rfl, _, _, rfl, rfl, ?_⟩
        have b5 : But d H (upd H4 T2 (.tup [.int j, .str z])) := fun b o e ne => by
          rw [upd_ne (ne_of_none (b4 b o e ne) hT2)]
          exact b4 b o e ne
        have pd5 : PD (upd H4 T2 (.tup [.int j, .str z])) d (waitL (freeN hs rs) hs (rs.take i) ++ (rowW (hs.getD i 0) (freeN hs rs) r.2).take j) := by
          unfold PD
          rw [upd_ne (ne_of_none pd4 hT2)]
          exact pd4
        generalize upd H4 T2 (.tup [.int j, .str z]) = H5 at b5 pd5 ⊢
        have hil : i < hs.length := by rw [← g.len]; exact hi
        have hjl : j < hs.getD i 0 := Nat.lt_of_lt_of_le hj (g.fit i r hr')
        have hti : (hs.map natV)[i]? = some (natV (hs.getD i 0)) := by
          rw [List.getElem?_map, List.getElem?_eq_getElem hil, List.getD_eq_getElem?_getD, List.getElem?_eq_getElem hil]
          rfl
        refine ⟨.ref ht, rfl, .int i, rfl, ht, _, i, natV (hs.getD i 0), rfl, rfl, .of (b5 _ _ hht (ne_of_none hht nd)), atI_nat hti, ?_⟩
        refine ⟨_, 1, rfl, rfl, .int j, rfl, _, j, rfl, rfl, .int (freeN hs rs), rfl, _, _, rfl, rfl, 0, _, rfl, ?_⟩
        have keys : ∀ z' ∈ (waitL (freeN hs rs) hs (rs.take i) ++ (rowW (hs.getD i 0) (freeN hs rs) r.2).take j).map (·.1), z' ∈ boxes (rs.take i) ++ r.2.take j := fun z' h => by
          rw [List.map_append, pre, List.map_take, rowW_keys] at h
          exact h
        have nd1 : (boxes (rs.take i) ++ r.2).Nodup := by
          have := g.nd
          rw [cut (i + 1), eb i r hr'] at this
          exact (List.nodup_append.mp this).1
        have hz2 : r.2.take (j + 1) = r.2.take j ++ [z] := by
          rw [List.take_add_one, hz]
          rfl
        have nd2 : (boxes (rs.take i) ++ (r.2.take j ++ [z])).Nodup := by
          rw [← hz2]
          exact nd1.sublist (List.Sublist.append (List.Sublist.refl _) (List.take_sublist _ _))
        have hzn : z ∉ (waitL (freeN hs rs) hs (rs.take i) ++ (rowW (hs.getD i 0) (freeN hs rs) r.2).take j).map (·.1) := fun h => by
          have := keys z h
          rw [← List.append_assoc] at nd2
          exact (List.nodup_append.mp nd2).2.2 z this z (List.mem_singleton_self z) rfl
        have hlen : (pkv (waitL (freeN hs rs) hs (rs.take i) ++ (rowW (hs.getD i 0) (freeN hs rs) r.2).take j)).length < sizeLine := by
          have h1 : (waitL (freeN hs rs) hs (rs.take i) ++ (rowW (hs.getD i 0) (freeN hs rs) r.2).take j).length = (boxes (rs.take i) ++ r.2.take j).length := by
            rw [← List.length_map (f := fun p : Str × Int => p.1), List.map_append, pre, List.map_take, rowW_keys]
          have h2 : (boxes (rs.take i) ++ r.2.take j).length ≤ (boxes rs).length := by
            rw [cut (i + 1), eb i r hr', List.length_append, List.length_append, List.length_append]
            have := List.length_take_le' j r.2
            omega
          have := g.few
          refine small1000 ?_
          rw [List.length_map, h1]
          omega
        refine ⟨.ref d, rfl, .str z, rfl, d, _, rfl, DPut.k (k := Sum.inr z) pd5 hlen, ?_⟩
        refine ⟨⟨_, _, rfl⟩, fun b o e ne => ?_, ?_⟩
        · rw [upd_ne ne]
          exact b5 b o e ne
        · rw [rowW_take hz, ← List.append_assoc]
          unfold PD
          rw [upd_same]
          have e1 := putK_pkv (n := if (0 : Int) < ((hs.getD i 0 : Nat) : Int) - 1 - (j : Nat) - freeN hs rs then ((hs.getD i 0 : Nat) : Int) - 1 - (j : Nat) - freeN hs rs else 0) hzn
          rw [← e1]
      · rintro σ H4 ⟨⟨u3, u4, rfl⟩, b4, pd4⟩
        refine ⟨⟨_, _, _, _, rfl⟩, b4, ?_⟩
        rw [waitL_take _ i hs rs r hr']
        have : (rowW (hs.getD i 0) (freeN hs rs) r.2).length = r.2.length := by
          rw [← List.length_map (f := fun p : Str × Int => p.1), rowW_keys]
        rw [← this, List.take_length] at pd4
        exact pd4
    · rintro σ H2 ⟨⟨u1, u2, u3, u4, rfl⟩, b2, pd⟩
      rw [List.take_length] at pd
      exact ⟨_, rfl, q H2 d (fun b o e => b2 b o e (ne_of_none e nd)) nd pd⟩
end
end K34
end
section
set_option linter.all false
set_option maxRecDepth 100000
/-! The law's own judge of an order; its crowds. -/
namespace K34
open PySem PySem.Spec PyProof.Rows L2 LamX SX
def okAt (ws ds : Pairs2) (n : Nat) (z : Str) : Bool := decide (wv ws z ≤ (n : Int)) && (match ds.lookup z with
  | none => true
  | some d => decide ((n : Int) < d))
theorem outT_all (ds : Pairs2) : ∀ (n : Nat) (l : List Str), (outT ds n l).all id = true ↔ ∀ (i : Nat) z, l[i]? = some z → ∀ d, ds.lookup z = some d → ((n + i : Nat) : Int) < d
  | _, [] => by simp [outT]
  | n, z :: r => by
    show (due1 ds n z ++ outT ds (n + 1) r).all id = true ↔ _
    rw [List.all_append, Bool.and_eq_true, outT_all ds (n + 1) r]
    constructor
    · rintro ⟨h1, h2⟩ i y hy d hd
      cases i with
      | zero =>
        cases (show some z = some y from hy)
        unfold due1 at h1
        rw [hd] at h1
        simpa using h1
      | succ i =>
        have := h2 i y hy d hd
        rwa [show n + 1 + i = n + (i + 1) by omega] at this
    · intro h
      refine ⟨?_, fun i y hy d hd => ?_⟩
      · unfold due1
        cases hd : ds.lookup z with
        | none => rfl
        | some d =>
          have := h 0 z rfl d hd
          simpa using this
      · have := h (i + 1) y hy d hd
        rwa [show n + 1 + i = n + (i + 1) by omega]
theorem inTime_iff {ds : Pairs2} {l : List Str} : inTime ds l = true ↔ ∀ (i : Nat) z, l[i]? = some z → ∀ d, ds.lookup z = some d → (i : Int) < d := by
  unfold inTime
  rw [outT_all]
  constructor
  · intro h i z hz d hd
    have := h i z hz d hd
    rwa [Nat.zero_add] at this
  · intro h i z hz d hd
    rw [Nat.zero_add]
    exact h i z hz d hd
theorem outW_iff {ws : Pairs2} {l : List Str} : (outW ws l).all id = true ↔ ∀ (i : Nat) z, l[i]? = some z → wv ws z ≤ (i : Int) := by
  unfold outW
  rw [List.all_eq_true]
  constructor
  · intro h i z hz
    have := h (decide (wv ws z ≤ (i : Int))) (List.mem_mapIdx.mpr ⟨i, (List.getElem?_eq_some_iff.mp hz).1, by rw [(List.getElem?_eq_some_iff.mp hz).2]⟩)
    exact of_decide_eq_true this
  · intro h b hb
    obtain ⟨i, hi, rfl⟩ := List.mem_mapIdx.mp hb
    exact decide_eq_true (h i _ (List.getElem?_eq_getElem hi))
theorem keeps_iff {ws ds : Pairs2} {l : List Str} : keepsB ws ds l = true ↔ ∀ (i : Nat) z, l[i]? = some z → okAt ws ds i z = true := by
  unfold keepsB okAt
  rw [Bool.and_eq_true, inTime_iff, outW_iff]
  constructor
  · rintro ⟨h1, h2⟩ i z hz
    rw [Bool.and_eq_true]
    refine ⟨decide_eq_true (h2 i z hz), ?_⟩
    cases hd : ds.lookup z with
    | none => rfl
    | some d => exact decide_eq_true (h1 i z hz d hd)
  · intro h
    refine ⟨fun i z hz d hd => ?_, fun i z hz => ?_⟩
    · have := h i z hz
      rw [Bool.and_eq_true, hd] at this
      exact of_decide_eq_true this.2
    · have := h i z hz
      rw [Bool.and_eq_true] at this
      exact of_decide_eq_true this.1
section
variable {P : Program} {w : World} {K : PySem.W.Frag} {mg : Str → Option Value} {base : Heap} {a : Ad} {e : Ae}
def spLKeeps : Sp := fun vs H Q _ => ∃ (d1 d2 t : Addr) (ws ds : Pairs2) (zs : List Str), vs = [.ref d1, .ref d2, .ref t] ∧ PD H d1 ws ∧ PD H d2 ds ∧ H t = some (.tup (zs.map V.str)) ∧ (∀ z ∈ zs, z ∈ ws.map (·.1)) ∧ ∀ H', Same H H' → Q (.bl (keepsB ws ds zs)) H'
theorem ok_LKeeps (T : Tx K mg a) : Ca P w K mg base CX0 1 "_law_keeps" spLKeeps := by
  refine ca0 T.dLKeeps cLKeeps (fun vs H Q E h => ?_) (fun f cdv A outer s H vs Q E hr h => ?_)
  · obtain ⟨d1, d2, t, ws, ds, zs, rfl, _⟩ := h
    rfl
  · obtain ⟨d1, d2, t, ws, ds, zs, rfl, h1, h2, ht, hz, q⟩ := h
    have hu := hu_of hr
    have nd := cLKeeps.nd
    refine ⟨_, pss_cons (ps_for PassesOwn.never rfl (pi_enumT (by rfl) T.m_enumerate (pa_cons (pv 2) pa_nil)) (pg_tup rfl (pgs_cons (pg_name (i := 3) nd rfl (Or.inl rfl)) (pgs_cons (pg_name (i := 4) nd rfl (Or.inl rfl)) pgs_nil)))
        (pss_one (ps_if (pw_or (pt_cmpR op_lt (pv 3) (pe_dget hu (pv 0) (pv 4) (fun _ _ => rfl)) (nomark _)) (pw_or1 (pw_and (pt_cmp (pc_din hu (pv 4) (pv 1))) (pw_and1 (pt_cmpR op_ge (pv 3) (pe_dget hu (pv 1) (pv 4) (fun _ _ => rfl)) (nomark _)))).pt)).pt
          (pss_one (ps_ret pe_bl)) pss_nil)))
      (pss_one (ps_ret pe_bl)), ?_⟩
    refine ⟨.ref t, rfl, t, _, rfl, .of ht, ?_⟩
    refine for_it (walk_enumM (l := zs) (f := V.str)) (fun i σ H' => (∃ u3 u4, σ = [some (.ref d1), some (.ref d2), some (.ref t), u3, u4]) ∧ Same H H' ∧ ∀ (j : Nat) z, j < i → zs[j]? = some z → okAt ws ds j z = true)
      ⟨⟨none, none, rfl⟩, Same.refl _, fun j z h => absurd h (Nat.not_lt_zero _)⟩ (fun i σ H' _ h => .of (h.2.1 _ _ ht)) ?_ ?_
    · rintro i x σ H2 H3 hi ⟨⟨u3, u4, rfl⟩, s2, hok⟩ ⟨T1, z, rfl, hT, rfl, hzi⟩
      refine ⟨T1, _, rfl, .of upd_same, rfl, .int i, [.str z], rfl, .str z, [], rfl, rfl, ?_⟩
      have s3 : Same H (upd H2 T1 (.tup [.int i, .str z])) := s2.trans (same_new hT)
      generalize upd H2 T1 (.tup [.int i, .str z]) = H4 at s3 ⊢
      obtain ⟨m, hm⟩ := lookup_mem (hz z (List.mem_of_getElem? hzi))
      have hm : ws.lookup z = some m := hm
      have ewv : wv ws z = m := by
        unfold wv
        rw [hm]
        rfl
      have g1 : DGet H4 d1 (.str z) (some (.int m)) := by
        have := DGet.k (k := Sum.inr z) (s3 _ _ h1)
        rw [valV_pkv, hm] at this
        exact this
      have bad : okAt ws ds i z = false → Q (.bl false) H4 := fun hb => by
        have : keepsB ws ds zs = false := Bool.eq_false_iff.mpr fun hk => by
          have := keeps_iff.mp hk i z hzi
          rw [hb] at this
          cases this
        rw [this] at q
        exact q H4 s3
      refine ⟨.int i, rfl, .ref d1, rfl, .str z, rfl, d1, .int m, rfl, g1, i, m, rfl, rfl, _, rfl, ite2 (fun hlt => ?_) (fun hlt => ?_)⟩
      · refine bad ?_
        have hlt := of_decide_eq_true hlt
        unfold okAt
        rw [ewv, decide_eq_false (by omega), Bool.false_and]
      · have hle : m ≤ (i : Int) := Int.not_lt.mp fun z => hlt (decide_eq_true z)
        refine ⟨.str z, rfl, .ref d2, rfl, d2, _, rfl, DGet.k (k := Sum.inr z) (s3 _ _ h2), _, rfl, ?_⟩
        rw [valV_pkv]
        cases hd : ds.lookup z with
        | none =>
          refine iteF' rfl (iteF' (Bool.eq_false_iff.mpr Bool.false_ne_true) ?_)
          refine ⟨⟨_, _, rfl⟩, s3, fun j y hj hy => ?_⟩
          by_cases e1 : j = i
          · subst e1
            rw [hzi] at hy
            cases hy
            unfold okAt
            rw [ewv, hd, decide_eq_true hle]
            rfl
          · exact hok j y (by omega) hy
        | some d =>
          refine iteT' rfl ?_
          refine ⟨.int i, rfl, .ref d2, rfl, .str z, rfl, d2, .int d, rfl, ?_, i, d, rfl, rfl, _, rfl, ite2 (fun hge => ?_) (fun hge => ?_)⟩
          · have := DGet.k (k := Sum.inr z) (s3 _ _ h2)
            rw [valV_pkv, hd] at this
            exact this
          · have hge := of_decide_eq_true hge
            refine bad ?_
            unfold okAt
            rw [hd]
            dsimp only
            rw [decide_eq_false (show ¬ (i : Int) < d by omega), Bool.and_false]
          · have hlt2 : (i : Int) < d := Int.not_le.mp fun z => hge (decide_eq_true z)
            refine ⟨⟨_, _, rfl⟩, s3, fun j y hj hy => ?_⟩
            by_cases e1 : j = i
            · subst e1
              rw [hzi] at hy
              cases hy
              unfold okAt
              rw [ewv, hd, decide_eq_true hle]
              exact decide_eq_true hlt2
            · exact hok j y (by omega) hy
    · rintro σ H2 ⟨⟨u3, u4, rfl⟩, s2, hok⟩
      have : keepsB ws ds zs = true := keeps_iff.mpr fun i z hzi => hok i z (List.getElem?_eq_some_iff.mp hzi).1 hzi
      rw [this] at q
      exact q H2 s2
def spLLot : Sp := fun vs H Q _ => ∃ (d1 d2 : Addr) (ws ds : Pairs2) (f e : Int), vs = [.ref d1, .ref d2, .int f, .int e] ∧ PD H d1 ws ∧ PD H d2 ds ∧ (∀ p ∈ ds, p.1 ∈ ws.map (·.1)) ∧ (ds.map (·.1)).Nodup ∧ ds.length < 64 ∧
  ∀ H' p, Same H H' → H' p = some (.tup ((lot (crowdL ws ds f e)).map V.str)) → Q (.ref p) H'
theorem ok_LLot (T : Tx K mg a) : Ca P w K mg base CX0 1 "_law_lot" spLLot := by
  refine ca0 T.dLLot cLLot (fun vs H Q E h => ?_) (fun fa cdv A outer s H vs Q E hr h => ?_)
  · obtain ⟨d1, d2, ws, ds, f, e, rfl, _⟩ := h
    rfl
  · obtain ⟨d1, d2, ws, ds, f, e, rfl, h1, h2, hk, hn, hz, q⟩ := h
    have hu := hu_of hr
    have nd := cLLot.nd
    refine ⟨_, pss_one (ps_ret (pe_callTy call_tuple_of (by rfl) T.m_tuple PyProof.Rows.boot_tuple (pa_cons (pe_callB cr_sortedS (by rfl) T.m_sorted PyProof.Rows.boot_sorted (pa_cons
      (pe_lc (own := [("_law_box", 4)]) (g := gName 4)
        (tt := tAnd (tTest (tOp (rI0 fun i j => .bl (decide (j ≤ i))) (tDGet (tVar 0) (tVar 4)) (tVar 2))) (tTest (tOp (rI0 fun i j => .bl (decide (i ≤ j))) (tDGet (tVar 1) (tVar 4)) (tVar 3)))) (te := tVar 4) rfl nd
        (pi_list (pe_callTy (call_listD rfl) (by rfl) T.m_list PyProof.Rows.boot_list (pa_cons (pv 1) pa_nil))) (blkOk_by (N := nLLot) (sc := defScope sLLot) (by decide +kernel))
        (fun _ _ _ _ _ => by exact pg_name (i := 4) nd rfl (Or.inl rfl))
        (fun _ _ _ _ _ => by exact pts_one (pw_and (pt_cmpR op_ge (pe_dget hu (pv 0) (pv 4) (fun _ _ => rfl)) (pv 2) (nomark _)) (pw_and1 (pt_cmpR op_le (pe_dget hu (pv 1) (pv 4) (fun _ _ => rfl)) (pv 3) (nomark _)))).pt) (fun _ _ _ _ _ => by exact pv 4)) pa_nil)) pa_nil))), ?_⟩
    refine ⟨.ref d2, rfl, d2, pkv ds, rfl, .inl h2, fun l0 hl0 => ?_⟩
    have s0 := same_new (o := .lst ((pkv ds).map fun kv => kV kv.1)) hl0
    have e0 : upd H l0 (.lst ((pkv ds).map fun kv => kV kv.1)) l0 = some (.lst (ds.map fun p => V.str p.1)) := by
      rw [upd_same, List.map_map]
      rfl
    generalize upd H l0 (.lst ((pkv ds).map fun kv => kV kv.1)) = H1 at s0 e0 ⊢
    refine ⟨l0, rfl, ⟨_, .of e0⟩, fun D hD => ?_⟩
    refine lc_it (walk_listM (l := ds) (f := fun p => V.str p.1)) (fun i H' => LcS H1 D ((crowdL ws (ds.take i) f e).map V.str) H') (LcS.zero hD) (fun i H' _ h => .of (h.1 _ _ e0)) ?_ ?_
    · rintro i x H2 H3 hi c ⟨rfl, pr, hp, rfl⟩
      obtain ⟨z, n⟩ := pr
      obtain ⟨m, hm⟩ := lookup_mem (hk _ (List.mem_of_getElem? hp))
      have hm : ws.lookup z = some m := hm
      have hs1 := s0.trans c.1
      have g1 : DGet H3 d1 (.str z) (some (.int m)) := by
        have := DGet.k (k := Sum.inr z) (hs1 _ _ h1)
        rw [valV_pkv, hm] at this
        exact this
      have g2 : DGet H3 d2 (.str z) (some (.int n)) := by
        have := DGet.k (k := Sum.inr z) (hs1 _ _ h2)
        rw [valV_pkv, lookup_of_mem hn (List.mem_of_getElem? hp)] at this
        exact this
      have ewv : wv ws z = m := by
        unfold wv
        rw [hm]
        rfl
      have ecr : crowdL ws (ds.take (i + 1)) f e = crowdL ws (ds.take i) f e ++ if (decide (f ≤ m) && decide (n ≤ e)) = true then [z] else [] := by
        unfold crowdL
        rw [List.take_add_one, hp, List.filter_append, List.map_append]
        congr 1
        show (List.filter _ [(z, n)]).map _ = _
        rw [List.filter_cons]
        dsimp only
        rw [ewv]
        split <;> rfl
      have hlen : ((crowdL ws (ds.take i) f e).map V.str).length < sizeLine := by
        rw [List.length_map]
        have h3 := (crowd_sub ws (ds.take i) f e).length_le
        rw [List.length_map] at h3
        have h4 := List.length_take_le' i ds
        exact small1000 (by omega)
      refine ⟨rfl, .ref d1, rfl, .str z, rfl, d1, .int m, rfl, g1, .int f, rfl, m, f, rfl, rfl, _, rfl, ite2 (fun t1 => ?_) (fun t1 => ?_)⟩
      · refine ⟨.ref d2, rfl, .str z, rfl, d2, .int n, rfl, g2, .int e, rfl, n, e, rfl, rfl, _, rfl, ite2 (fun t2 => ?_) (fun t2 => ?_)⟩
        · refine ⟨.str z, rfl, ?_⟩
          refine LcS.step hD c (Same.refl _) hlen ?_
          rw [ecr, if_pos (by rw [t1, t2]; rfl), List.map_append]
          rfl
        · rw [ecr, if_neg (by rw [t1, Bool.true_and]; exact t2), List.append_nil]
          exact c
      · refine iteF' (Bool.eq_false_iff.mpr Bool.false_ne_true) ?_
        rw [ecr, if_neg (by rw [Bool.eq_false_iff.mpr t1, Bool.false_and]; exact Bool.false_ne_true), List.append_nil]
        exact c
    · intro H2 c
      rw [List.take_of_length_le (Nat.le_refl _)] at c
      have hle := (crowd_sub ws ds f e).length_le
      rw [List.length_map] at hle
      refine ⟨D, crowdL ws ds f e, rfl, .of c.2, by omega, fun ys r hys hup hr' => ?_⟩
      have ey := lot_eq hys hup
      subst ey
      refine ⟨r, _, rfl, .inl ⟨.of upd_same, fun t ht => ?_⟩⟩
      exact q _ t (((s0.trans c.1).trans (same_new hr')).trans (same_new ht)) upd_same
end
end K34
end
section
set_option linter.all false
set_option maxRecDepth 100000
/-! sorted of a list of (int, text). -/
namespace K34
open PySem PySem.Spec PyProof.Rows L2
abbrev Trip : Type := Addr × Int × Str
def rSortedK (K : PySem.W.Frag) : List V → Hp → VK → Prop := fun vs H Q => ∃ (a : Addr) (bs : List Trip), vs = [V.ref a] ∧ SqL K H a (bs.map fun b => V.ref b.1) ∧ (∀ b ∈ bs, H b.1 = some (.tup [.int b.2.1, .str b.2.2])) ∧
  ∀ (cs : List Trip) (p : Addr), cs.Perm bs → (cs.Pairwise fun a b => keyLt b.2 a.2 = false) → H p = none → Q (.ref p) (upd H p (.lst (cs.map fun b => V.ref b.1)))
theorem each_refs : ∀ {bs : List Trip} {us : List Value}, Vals (bs.map fun b => V.ref b.1) us → PySem.W.EachIs (fun (v : Value) (b : Trip) => v = .ref b.1) us bs
  | [], _, r => by
    cases r
    exact .nil
  | b :: bs, _, r => by
    cases r with
    | cons h t => exact .cons h (each_refs t)
theorem refs_each : ∀ {bs : List Trip} {us : List Value}, PySem.W.EachIs (fun (v : Value) (b : Trip) => v = .ref b.1) us bs → Vals (bs.map fun b => V.ref b.1) us
  | _, _, .nil => .nil
  | _, _, .cons h t => .cons h (refs_each t)
theorem cr_sortedK {X : Cx} (hu : X.A.units + 8 < cLine) : CallR X (.builtin "sorted") (rSortedK X.K) := by
  intro pins s σ H vs us Q I r h
  obtain ⟨a, bs, rfl, hs, hx, q⟩ := h
  obtain ⟨its, rv, pl, hz⟩ := I.list hs
  obtain ⟨u, rfl, ru⟩ := r.one
  obtain rfl : u = Value.ref a := ru
  have hl : bs.length ≤ sizeLine := by rwa [List.length_map] at hz
  have e := each_refs rv
  have er : ∀ {us : List Value} {cs : List Trip}, (∀ b ∈ cs, b ∈ bs) → PySem.W.EachIs (fun (v : Value) (b : Trip) => v = .ref b.1) us cs → PySem.W.EachIs (fun v (b : Trip) => ∃ as, Reads s.heap v (.tuple [.int b.2.1, .str b.2.2]) as) us cs := by
    intro us cs hm e
    induction e with
    | nil => exact .nil
    | @cons v b us cs h t ih =>
      refine .cons ?_ (ih fun c hc => hm c (List.mem_cons_of_mem _ hc))
      subst h
      obtain ⟨_, its2, r2, o, ho, hc, n, hd⟩ := I.hok _ _ (hx b (hm b List.mem_cons_self))
      obtain ⟨u1, u2, rfl, ri, rj⟩ := r2.two
      obtain ⟨t1, rfl⟩ := ri
      obtain ⟨t2, rfl⟩ := rj
      exact ⟨_, .tuple ho hc hd (.cons (.int _ _) (.cons (.str _ _) .nil))⟩
  refine PySem.W.sorted_data (enc := fun b : Trip => .tuple [.int b.2.1, .str b.2.2]) pl.isList e (er (fun _ h => h) e) (PySem.W.AllAlike.of fun b b' => by simp [PySem.W.alike, PySem.W.alikeAll]) (PySem.W.Sortable.tuples fun b => ⟨_, _, rfl⟩) hl
    (fun b _ => by simp only [PyData.depth, PyData.depthAll]; omega) fun out ho eo => ?_
  obtain ⟨c, hc⟩ := sortedAll_at s.heap its (List.toArray out)
  have hp : H (s.heap.objs.size + 1) = none := I.hok.fresh (Nat.le_succ _)
  have pm : (bs.mergeSort (PySem.W.dataLe false fun b : Trip => .tuple [.int b.2.1, .str b.2.2])).Perm bs := List.mergeSort_perm _ _
  have le_is : ∀ a b : Trip, PySem.W.dataLe false (fun b : Trip => PyData.tuple [.int b.2.1, .str b.2.2]) a b = !keyLt b.2 a.2 := fun a b => rfl
  refine ⟨.ref (s.heap.objs.size + 1), _, I.laid (t' := s.toks) (o := .lst ((bs.mergeSort (PySem.W.dataLe false fun b : Trip => .tuple [.int b.2.1, .str b.2.2])).map fun b => V.ref b.1)) (fun _ _ => sortedAll_old) (Nat.le_succ _) ⟨?_, out, c, refs_each eo, hc⟩, rfl, q _ _ pm ?_ hp⟩
  · rw [List.length_map, pm.length_eq]
    exact hl
  · refine List.Pairwise.imp (fun {a b} h => ?_) (List.pairwise_mergeSort (fun a b c h1 h2 => ?_) (fun a b => ?_) bs)
    · rw [le_is] at h
      simpa using h
    · rw [le_is] at h1 h2 ⊢
      rw [Bool.not_eq_true'] at h1 h2 ⊢
      exact keyLt_neg h2 h1
    · rw [le_is, le_is]
      cases hk : keyLt b.2 a.2 with
      | false => rfl
      | true => rw [keyLt_asym hk]; rfl
end K34
end
section
set_option linter.all false
set_option maxRecDepth 100000
/-! The law's first crowd; its urgent order; an order of its own. -/
namespace K34
open PySem PySem.Spec PyProof.Rows L2 LamX SX
section
variable {P : Program} {w : World} {K : PySem.W.Frag} {mg : Str → Option Value} {base : Heap} {a : Ad} {e : Ae}
def spLFirst : Sp := fun vs H Q _ => ∃ (d1 d2 : Addr) (ws ds : Pairs2), vs = [.ref d1, .ref d2] ∧ PD H d1 ws ∧ PD H d2 ds ∧ ws.length ≤ 900 ∧ (∀ p ∈ ds, p.1 ∈ ws.map (·.1)) ∧ (ds.map (·.1)).Nodup ∧ ds.length < 64 ∧
  (∀ (f e : Nat) (r p : Addr) H', f ≤ e → e ≤ ws.length → big ws ds f e → (∀ f' e' : Nat, f' ≤ e' → e' ≤ ws.length → f' < f ∨ (f' = f ∧ e' < e) → ¬ big ws ds f' e') → Same H H' → H r = none →
    H' r = some (.lst [.int f, .int e, .ref p]) → H' p = some (.tup ((lot (crowdL ws ds f e)).map V.str)) → Q (.ref r) H') ∧
  ((∀ f e : Nat, f ≤ e → e ≤ ws.length → ¬ big ws ds f e) → ∀ H', Same H H' → Q .non H')
theorem ok_LFirst (T : Tx K mg a) : Ca P w K mg base CX0 2 "_law_first" spLFirst := by
  have G : Ca P w K mg base CX0 1 "_law_lot" spLLot := ok_LLot T
  refine ca0 T.dLFirst cLFirst (fun vs H Q E h => ?_) (fun fa cdv A outer s H vs Q E hr h => ?_)
  · obtain ⟨d1, d2, ws, ds, rfl, _⟩ := h
    rfl
  · obtain ⟨d1, d2, ws, ds, rfl, h1, h2, hwl, hk, hn, hz, q, q0⟩ := h
    have nd := cLFirst.nd
    refine ⟨_, pss_cons (ps_for PassesOwn.never rfl (pi_range1 (by rfl) T.m_range (pa_cons (pe_op op_add (pe_callB call_lenD (by rfl) T.m_len PySem.boot_len (pa_cons (pv 0) pa_nil)) pe_int) pa_nil)) (pg_name (i := 2) nd rfl (Or.inl rfl))
        (pss_one (ps_for PassesOwn.never rfl (pi_range2 (by rfl) T.m_range (pa_cons (pv 2) (pa_cons (pe_op op_add (pe_callB call_lenD (by rfl) T.m_len PySem.boot_len (pa_cons (pv 0) pa_nil)) pe_int) pa_nil))) (pg_name (i := 3) nd rfl (Or.inl rfl))
          (pss_cons (ps_set (i := 4) nd rfl (.inl rfl) (pe_c0 G hr (by decide) (by rfl) (pa_cons (pv 0) (pa_cons (pv 1) (pa_cons (pv 2) (pa_cons (pv 3) pa_nil))))))
          (pss_one (ps_if (pt_cmpR op_gt (pe_callB call_len_seq (by rfl) T.m_len PySem.boot_len (pa_cons (pv 4) pa_nil)) (pe_op op_sub (pv 3) (pv 2)) (nomark _))
            (pss_one (ps_ret (pe_lst (pa_cons (pv 2) (pa_cons (pv 3) (pa_cons (pv 4) pa_nil)))))) pss_nil))))))
      (pss_one (ps_ret pe_non)), ?_⟩
    have plen : (pkv ws).length = ws.length := List.length_map _
    refine ⟨.ref d1, rfl, d1, pkv ws, rfl, h1, _, 1, rfl, rfl, ((pkv ws).length : Nat) + 1, rfl, by omega, by omega, ?_⟩
    refine for_it (walk_range0 (n := (((pkv ws).length : Nat) + 1 : Int).toNat)) (fun i σ H' => (∃ u2 u3 u4, σ = [some (.ref d1), some (.ref d2), u2, u3, u4]) ∧ Same H H' ∧ ∀ f' e' : Nat, f' < i → f' ≤ e' → e' ≤ ws.length → ¬ big ws ds f' e')
      ⟨⟨none, none, none, rfl⟩, Same.refl _, fun f' e' h => absurd h (Nat.not_lt_zero _)⟩ (fun _ _ _ _ _ => True.intro) ?_ ?_
    · rintro i x σ H2 H3 hi ⟨⟨u2, u3, u4, rfl⟩, s2, no⟩ ⟨rfl, rfl⟩
      have hi : i ≤ ws.length := by omega
      refine ⟨.int i, rfl, .ref d1, rfl, d1, pkv ws, rfl, h1.same s2, _, 1, rfl, rfl, i, ((pkv ws).length : Nat) + 1, rfl, ⟨by omega, by omega, by omega, by omega⟩, ?_⟩
      refine for_it (walk_rangeN (lo := i) (n := ((((pkv ws).length : Nat) : Int) + 1 - (i : Nat)).toNat)) (fun k σ H' => (∃ u3 u4, σ = [some (.ref d1), some (.ref d2), some (.int (i : Nat)), u3, u4]) ∧ Same H H' ∧ ∀ k' : Nat, k' < k → ¬ big ws ds i (i + k'))
        ⟨⟨_, _, rfl⟩, s2, fun k' h => absurd h (Nat.not_lt_zero _)⟩ (fun _ _ _ _ _ => True.intro) ?_ ?_
      · rintro k x σ H4 H5 hkk ⟨⟨u3, u4, rfl⟩, s4, no4⟩ ⟨rfl, rfl⟩
        have hlt : i + k ≤ ws.length := by omega
        refine ⟨.ref d1, rfl, .ref d2, rfl, .int i, rfl, .int ((i + k : Nat) : Int), rfl, d1, d2, ws, ds, i, ((i + k : Nat) : Int), rfl, h1.same s4, h2.same s4, hk, hn, hz, fun H6 p s6 hpt => ?_⟩
        have s46 := s4.trans s6
        refine ⟨.ref p, rfl, p, _, rfl, .inr (.of hpt), .int ((i + k : Nat) : Int), rfl, .int i, rfl, _, _, rfl, rfl, _, _, rfl, rfl, _, rfl, ?_⟩
        rw [List.length_map, lot_length]
        refine ite2 (fun hb => ?_) (fun hb => ?_)
        · have hb := of_decide_eq_true hb
          have hbig : big ws ds i (i + k) := by
            unfold big
            omega
          refine ⟨.int i, rfl, .int ((i + k : Nat) : Int), rfl, .ref p, rfl, (by show 3 ≤ sizeLine; decide), fun r hr' => ?_⟩
          refine q i (i + k) r p _ (by omega) hlt hbig (fun f' e' h1' h2' h3' => ?_) (same_put (s46.free hr') s46) (s46.free hr') upd_same ?_
          · rcases h3' with h3' | ⟨rfl, h3'⟩
            · exact no f' e' h3' h1' h2'
            · have := no4 (e' - f') (by omega)
              rwa [show f' + (e' - f') = e' by omega] at this
          · rw [upd_ne (ne_of_none hpt hr')]
            exact hpt
        · have hb : ¬ big ws ds i (i + k) := fun z => hb (decide_eq_true (by unfold big at z; omega))
          refine ⟨⟨_, _, rfl⟩, s46, fun k' hk' => ?_⟩
          by_cases e1 : k' = k
          · rw [e1]
            exact hb
          · exact no4 k' (by omega)
      · rintro σ H4 ⟨⟨u3, u4, rfl⟩, s4, no4⟩
        refine ⟨⟨_, _, _, rfl⟩, s4, fun f' e' h1' h2' h3' => ?_⟩
        by_cases e1 : f' = i
        · subst e1
          have := no4 (e' - f') (by omega)
          rwa [show f' + (e' - f') = e' by omega] at this
        · exact no f' e' (by omega) h2' h3'
    · rintro σ H2 ⟨⟨u2, u3, u4, rfl⟩, s2, no⟩
      exact q0 (fun f e hfe he => no f e (by omega) hfe he) H2 s2
end
end K34
end
section
set_option linter.all false
set_option maxRecDepth 100000
/-! The law's urgent order; an order of its own. -/
namespace K34
open PySem PySem.Spec PyProof.Rows L2 LamX SX
section
variable {P : Program} {w : World} {K : PySem.W.Frag} {mg : Str → Option Value} {base : Heap} {a : Ad} {e : Ae}
def spLUrgent : Sp := fun vs H Q _ => ∃ (d1 d2 : Addr) (ws ds : Pairs2), vs = [.ref d1, .ref d2] ∧ PD H d1 ws ∧ PD H d2 ds ∧ (∀ p ∈ ws, 0 ≤ p.2) ∧ ws.length < 64 ∧ Feas (waitF ws) (lot (ws.map (·.1))) 0 ∧
  ∀ H' p, Same H H' → H' p = some (.tup ((order ws ds).map V.str)) → Q (.ref p) H'
theorem ok_LUrgent (T : Tx K mg a) : Ca P w K mg base CX0 1 "_law_urgent" spLUrgent := by
  refine ca0 T.dLUrgent cLUrgent (fun vs H Q E h => ?_) (fun fa cdv A outer s H vs Q E hr h => ?_)
  · obtain ⟨d1, d2, ws, ds, rfl, _⟩ := h
    rfl
  · obtain ⟨d1, d2, ws, ds, rfl, h1, h2, hw, hz, hF, q⟩ := h
    have hu := hu_of hr
    have nd := cLUrgent.nd
    have hu8 : (A.deeper (envOfC "_law_urgent" (defScope sLUrgent) s.heap.objs.size fa cdv)).units + 8 < cLine := by
      have := hr.units
      omega
    refine ⟨_, pss_cons (ps_par (i := 2) (j := 3) rfl nd rfl rfl (by decide) rfl rfl (pa_cons (pe_callB cr_sortedS (by rfl) T.m_sorted PyProof.Rows.boot_sorted (pa_cons (pe_callTy (call_listD rfl) (by rfl) T.m_list PyProof.Rows.boot_list (pa_cons (pv 0) pa_nil)) pa_nil)) (pa_cons (pe_lst pa_nil) pa_nil)) (by rfl))
      (pss_cons (ps_for PassesOwn.never rfl (pi_range1 (by rfl) T.m_range (pa_cons (pe_callB call_len_seq (by rfl) T.m_len PySem.boot_len (pa_cons (pv 2) pa_nil)) pa_nil)) (pg_name (i := 4) nd rfl (Or.inr rfl))
        (pss_cons (ps_setLc (i := 6) (own := [("_law_box", 5)]) (g := gName 5) (tt := tTest (tOp (rI0 fun i j => .bl (decide (i ≤ j))) (tDGet (tVar 0) (tVar 5)) (tVar 4))) (te := tVar 5) rfl nd rfl rfl (sw_true rfl rfl rfl (by decide +kernel)) (pi_list (pv 2)) (blkOk_by (N := nLUrgent) (sc := defScope sLUrgent) (by decide +kernel))
            (fun _ _ _ _ _ => by exact pg_name (i := 5) nd rfl (Or.inl rfl)) (fun _ _ _ _ _ => by exact pts_one (pt_cmpR op_le (pe_dget hu (pv 0) (pv 5) (fun _ _ => rfl)) (pv 4) (nomark _))) (fun _ _ _ _ _ => by exact pv 5))
        (pss_cons (ps_set (i := 7) nd rfl (.inl rfl) (pe_callB (cr_sortedK hu8) (by rfl) T.m_sorted PyProof.Rows.boot_sorted (pa_cons
          (pe_lc (own := [("_law_box", 5)]) (g := gName 5) (tt := tB (tDIn (tVar 5) (tVar 1))) (te := tTup (tCons (tDGet (tVar 1) (tVar 5)) (tCons (tVar 5) tNil))) rfl nd (pi_list (pv 6)) (blkOk_by (N := nLUrgent) (sc := defScope sLUrgent) (by decide +kernel))
            (fun _ _ _ _ _ => by exact pg_name (i := 5) nd rfl (Or.inl rfl)) (fun _ _ _ _ _ => by exact pts_one (pt_cmp (pc_din hu (pv 5) (pv 1)))) (fun _ _ _ _ _ => by exact pe_tup (pa_cons (pe_dget hu (pv 1) (pv 5) (fun _ _ => rfl)) (pa_cons (pv 5) pa_nil)))) pa_nil)))
        (pss_cons (ps_set (i := 5) nd rfl (.inl rfl) (pe_ifExp (pt_cmpR (op_neE (Nat.lt_of_succ_lt hu)) (pv 7) (pe_lst pa_nil) (by rfl)) (pe_ix ix_tup (pe_ix ix_list (pv 7) pe_int (fun _ _ => rfl)) pe_int (fun _ _ => rfl)) (pe_ix ix_list (pv 6) pe_int (fun _ _ => rfl))))
        (pss_cons (ps_expr (pe_bm PySem.F.plainAttrs_list PySem.F.slot_list_remove PySem.F.type_list_remove mt_removeS (pv 2) (pa_cons (pv 5) pa_nil)))
        (pss_one (ps_expr (pe_bm PySem.F.plainAttrs_list PySem.F.slot_list_append PySem.F.type_list_append mt_append (pv 3) (pa_cons (pv 5) pa_nil)))))))))
      (pss_one (ps_ret (pe_callTy call_tuple_of (by rfl) T.m_tuple PyProof.Rows.boot_tuple (pa_cons (pv 3) pa_nil))))), ?_⟩
    refine ⟨.ref d1, rfl, d1, pkv ws, rfl, .inl h1, fun p0 hp0 => ?_⟩
    have s0 := same_new (o := .lst ((pkv ws).map fun kv => kV kv.1)) hp0
    have l0 : upd H p0 (.lst ((pkv ws).map fun kv => kV kv.1)) p0 = some (.lst ((ws.map (·.1)).map V.str)) := by
      rw [upd_same, List.map_map, List.map_map]
      rfl
    generalize upd H p0 (.lst ((pkv ws).map fun kv => kV kv.1)) = H1 at s0 l0 ⊢
    refine ⟨p0, ws.map (·.1), rfl, .of l0, by rw [List.length_map]; exact hz, fun ys l hys hup hl => ?_⟩
    have ey := lot_eq hys hup
    subst ey
    have s1 := s0.trans (same_new (o := .lst ((lot (ws.map (·.1))).map V.str)) hl)
    have l1 : upd H1 l (.lst ((lot (ws.map (·.1))).map V.str)) l = some (.lst ((lot (ws.map (·.1))).map V.str)) := upd_same
    have nl : H l = none := s0.free hl
    generalize upd H1 l (.lst ((lot (ws.map (·.1))).map V.str)) = H2 at s1 l1 ⊢
    refine ⟨Nat.zero_le _, fun fo hfo => ?_⟩
    have s2 := s1.trans (same_new (o := .lst []) hfo)
    have f2 : upd H2 fo (.lst []) fo = some (.lst []) := upd_same
    have lf : l ≠ fo := ne_of_none l1 hfo
    have l2 : upd H2 fo (.lst []) l = some (.lst ((lot (ws.map (·.1))).map V.str)) := by
      rw [upd_ne lf]
      exact l1
    have nf : H fo = none := s1.free hfo
    generalize upd H2 fo (.lst []) = H3 at s2 l2 f2 ⊢
    have lk : (lot (ws.map (·.1))).length = ws.length := by rw [lot_length, List.length_map]
    refine ⟨_, _, rfl, .ref l, rfl, l, _, rfl, .inl (.of l2), (((lot (ws.map (·.1))).map V.str).length : Nat), rfl, by omega, by rw [List.length_map]; omega, ?_⟩
    refine for_it (walk_range0 (n := ((((lot (ws.map (·.1))).map V.str).length : Nat) : Int).toNat)) (fun i σ H' => (∃ u4 u5 u6 u7, σ = [some (.ref d1), some (.ref d2), some (.ref l), some (.ref fo), u4, u5, u6, u7]) ∧ Same H H' ∧
        ∃ left found : List Str, H' l = some (.lst (left.map V.str)) ∧ H' fo = some (.lst (found.map V.str)) ∧ found.length = i ∧ left.length + i = ws.length ∧ Feas (waitF ws) left i ∧ (∀ z ∈ left, z ∈ ws.map (·.1)) ∧
          order ws ds = found ++ edf ltS (waitF ws) (fun z => ds.lookup z) left.length left i)
      ⟨⟨none, none, none, none, rfl⟩, s2, _, [], l2, f2, rfl, by rw [lk]; rfl, hF, fun z h => mem_lot.mp h, by rw [List.nil_append, lk]; rfl⟩ (fun _ _ _ _ _ => True.intro) ?_ ?_
    · rintro i x σ H0 H4 hi ⟨⟨u4, u5, u6, u7, rfl⟩, s4, left, found, hl4, hf4, hfl, hll, hF4, hlk, hord⟩ ⟨rfl, rfl⟩
      have hi' : i < ws.length := by
        rw [List.length_map, lk] at hi
        omega
      have pd1 := h1.same s4
      have pd2 := h2.same s4
      refine ⟨.ref l, rfl, l, rfl, ⟨_, .of hl4⟩, fun C hC => ?_⟩
      have keep : ∀ j, ((left.take j).filter fun z => decide (waitF ws z ≤ i)).length ≤ 1000 := fun j => by
        have h1 := List.length_filter_le (fun z => decide (waitF ws z ≤ i)) (left.take j)
        have h2 := List.length_take_le' j left
        omega
      refine lc_it (walk_listM (l := left) (f := V.str)) (fun j H' => LcS H4 C (((left.take j).filter fun z => decide (waitF ws z ≤ i)).map V.str) H') (LcS.zero hC) (fun j H' _ h => .of (h.1 _ _ hl4)) ?_ ?_
      · rintro j x H6 H7 hj c4 ⟨rfl, z, hz1, rfl⟩
        obtain ⟨n, hn1⟩ := lookup_mem (hlk z (List.mem_of_getElem? hz1))
        have ew : waitF ws z = n.toNat := by
          unfold waitF wv
          rw [hn1]
          rfl
        have hn0 : 0 ≤ n := hw _ (mem_of_lookup2 hn1)
        refine ⟨rfl, .ref d1, rfl, .str z, rfl, d1, .int n, rfl, ?_, .int i, rfl, n, i, rfl, rfl, _, rfl, ite2 (fun h => ?_) (fun h => ?_)⟩
        · have := DGet.k (k := Sum.inr z) (c4.1 _ _ pd1)
          rw [valV_pkv, hn1] at this
          exact this
        · have h' := of_decide_eq_true h
          refine ⟨.str z, rfl, ?_⟩
          refine LcS.step hC c4 (Same.refl _) (by rw [List.length_map]; exact small1000 (keep j)) ?_
          rw [take_succ_keep hz1 (decide_eq_true (by rw [ew]; omega)), List.map_append]
          rfl
        · have h' : ¬ n ≤ (i : Int) := fun z => h (decide_eq_true z)
          rw [take_succ_drop hz1 (decide_eq_false (by rw [ew]; omega))]
          exact c4
      · intro H6 c6
        rw [List.take_length] at c6
        obtain ⟨s6, C6⟩ := c6
        have s46 := s4.trans s6
        have pd16 := pd1.same s6
        have pd26 := pd2.same s6
        have hl6 := s6 _ _ hl4
        have hf6 := s6 _ _ hf4
        generalize hcan : left.filter (fun z => decide (waitF ws z ≤ i)) = can at C6
        have hcl : can.length ≤ 64 := by
          have := List.length_filter_le (fun z => decide (waitF ws z ≤ i)) left
          rw [hcan] at this
          omega
        have hcm : ∀ z, z ∈ can ↔ z ∈ left ∧ waitF ws z ≤ i := fun z => by
          rw [← hcan, List.mem_filter, decide_eq_true_iff]
        refine ⟨.ref C, rfl, C, rfl, ⟨_, .of C6⟩, fun D hD => ?_⟩
        refine lc_it (walk_listM (l := can) (f := V.str)) (fun j H' => ∃ bs : List Trip, LcS H6 D (bs.map fun b => V.ref b.1) H' ∧ (∀ b ∈ bs, H' b.1 = some (.tup [.int b.2.1, .str b.2.2])) ∧ bs.map (·.2) = ((can.take j).filter fun z => (ds.lookup z).isSome).map fun z => ((ds.lookup z).getD 0, z))
          ⟨[], LcS.zero hD, fun b h => (by cases h), rfl⟩ (fun j H' _ h => (h.elim fun _ h => .of (h.1.1 _ _ C6))) ?_ ?_
        · rintro j x H7 H8 hj ⟨bs, c7, hbs, ebs⟩ ⟨rfl, z, hz1, rfl⟩
          refine ⟨rfl, .str z, rfl, .ref d2, rfl, d2, _, rfl, DGet.k (k := Sum.inr z) (c7.1 _ _ pd26), _, rfl, ?_⟩
          rw [valV_pkv, Option.isSome_map]
          refine ite2 (fun h => ?_) (fun h => ?_)
          · obtain ⟨d, hd⟩ := Option.isSome_iff_exists.mp h
            refine ⟨.ref d2, rfl, .str z, rfl, d2, .int d, rfl, ?_, .str z, rfl, (by show 2 ≤ sizeLine; decide), fun t ht => ?_⟩
            · have := DGet.k (k := Sum.inr z) (c7.1 _ _ pd26)
              rw [valV_pkv, hd] at this
              exact this
            · have hbl : bs.length ≤ can.length := by
                have h1 := congrArg List.length ebs
                rw [List.length_map, List.length_map] at h1
                have h2 := List.length_filter_le (fun z => (ds.lookup z).isSome) (can.take j)
                have h3 := List.length_take_le' j can
                omega
              obtain ⟨acc, a1, a2, a3⟩ := LcS.step (y := V.ref t) hD c7 (same_new (o := .tup [.int d, .str z]) ht) (by rw [List.length_map]; exact small1000 (by omega)) rfl
              refine ⟨acc, a1, a2, bs ++ [(t, d, z)], by rw [List.map_append]; exact a3, fun b hb => ?_, ?_⟩
              · have hb8 : ∀ b ∈ bs ++ [(t, d, z)], upd H8 t (.tup [.int d, .str z]) b.1 = some (.tup [.int b.2.1, .str b.2.2]) := fun b hb => by
                  rcases List.mem_append.mp hb with h | h
                  · rw [upd_ne (ne_of_none (hbs b h) ht)]
                    exact hbs b h
                  · rw [List.mem_singleton.mp h]
                    exact upd_same
                have := hb8 b hb
                rw [upd_ne]
                · exact this
                · intro e1
                  rw [e1, a1] at this
                  cases this
              · rw [List.map_append, ebs, take_succ_keep hz1 h, List.map_append]
                show _ ++ [(d, z)] = _ ++ [((ds.lookup z).getD 0, z)]
                rw [hd]
                rfl
          · rw [take_succ_drop hz1 (Bool.eq_false_iff.mpr h)]
            exact ⟨bs, c7, hbs, ebs⟩
        · rintro H7 ⟨bs, c7, hbs, ebs⟩
          rw [List.take_length] at ebs
          obtain ⟨s7, D7⟩ := c7
          have s47 := s46.trans s7
          have pd17 := pd16.same s7
          have pd27 := pd26.same s7
          have hl7 := s7 _ _ hl6
          have hf7 := s7 _ _ hf6
          have C7 := s7 _ _ C6
          generalize hdue : can.filter (fun z => (ds.lookup z).isSome) = due at ebs
          have hdm : ∀ z, z ∈ due ↔ z ∈ can ∧ (ds.lookup z).isSome = true := fun z => by
            rw [← hdue, List.mem_filter]
          refine ⟨D, bs, rfl, .of D7, hbs, fun cs r hcs hpw hr' => ?_⟩
          have s8 := same_new (o := .lst (cs.map fun b => V.ref b.1)) hr'
          have r8 : upd H7 r (.lst (cs.map fun b => V.ref b.1)) r = some (.lst (cs.map fun b => V.ref b.1)) := upd_same
          generalize upd H7 r (.lst (cs.map fun b => V.ref b.1)) = H8 at s8 r8 ⊢
          have s48 := s47.trans s8
          have hl8 := s8 _ _ hl7
          have hf8 := s8 _ _ hf7
          have C8 := s8 _ _ C7
          have hcb : ∀ c ∈ cs, H8 c.1 = some (.tup [.int c.2.1, .str c.2.2]) := fun c hc => s8 _ _ (hbs c (hcs.mem_iff.mp hc))
          have hcd : ∀ c ∈ cs, c.2.2 ∈ due ∧ ds.lookup c.2.2 = some c.2.1 := fun c hc => by
            have h1 := List.mem_map_of_mem (f := fun b : Trip => b.2) (hcs.mem_iff.mp hc)
            rw [ebs] at h1
            obtain ⟨z, hz1, ez⟩ := List.mem_map.mp h1
            obtain ⟨d, hd⟩ := Option.isSome_iff_exists.mp ((hdm z).mp hz1).2
            rw [← ez]
            refine ⟨hz1, ?_⟩
            show ds.lookup z = some ((ds.lookup z).getD 0)
            rw [hd]
            rfl
          have hdc : ∀ z ∈ due, ∃ c ∈ cs, c.2.2 = z := fun z hz1 => by
            have h1 : ((ds.lookup z).getD 0, z) ∈ bs.map (·.2) := by
              rw [ebs]
              exact List.mem_map_of_mem hz1
            obtain ⟨c, hc, ec⟩ := List.mem_map.mp h1
            exact ⟨c, hcs.mem_iff.mpr hc, by rw [ec]⟩
          dsimp only
          refine asg_if_gen (fun v H' => Same H8 H' ∧ ∃ b, v = .str b ∧ IsPick ltS (waitF ws) (fun z => ds.lookup z) left i b) (fun Q' hQ => ?_) ?_
          · refine ⟨.ref r, rfl, Nat.zero_le _, fun E0 hE0 => ?_⟩
            have s9 := same_new (o := .lst []) hE0
            have e9 : upd H8 E0 (.lst []) E0 = some (.lst []) := upd_same
            generalize upd H8 E0 (.lst []) = H9 at s9 e9 ⊢
            refine ⟨r, E0, cs.map fun b => V.ref b.1, rfl, rfl, .inl ⟨.of (s9 _ _ r8), .of e9⟩, _, rfl, ?_⟩
            cases hcc : cs with
            | nil =>
              refine iteF' rfl ?_
              obtain ⟨c0, hc1, hc2⟩ := hF4.some (by omega)
              have hc0 : c0 ∈ can := (hcm c0).mpr ⟨hc1, hc2⟩
              cases hcn : can with
              | nil =>
                rw [hcn] at hc0
                cases hc0
              | cons b rr =>
                have hb : b ∈ can := by
                  rw [hcn]
                  exact List.mem_cons_self
                refine ⟨.ref C, rfl, C, can.map V.str, 0, .str b, rfl, rfl, .of (s9 _ _ C8), by rw [hcn, List.map_cons]; exact atI_zero, ?_⟩
                refine hQ _ _ ⟨s9, b, rfl, ((hcm b).mp hb).1, ((hcm b).mp hb).2, .inr ⟨fun c h1 h2 => ?_, by rw [hcan, hcn]; rfl⟩⟩
                cases hx : ds.lookup c with
                | none => exact hx
                | some d =>
                  obtain ⟨c', hc', _⟩ := hdc c ((hdm c).mpr ⟨(hcm c).mpr ⟨h1, h2⟩, by rw [hx]; rfl⟩)
                  rw [hcc] at hc'
                  cases hc'
            | cons c0 r0 =>
              refine iteT' rfl ?_
              have hc0 : c0 ∈ cs := by
                rw [hcc]
                exact List.mem_cons_self
              obtain ⟨hd0, hl0⟩ := hcd c0 hc0
              obtain ⟨hb2, hb3⟩ := (hdm c0.2.2).mp hd0
              refine ⟨.ref r, rfl, r, cs.map fun b => V.ref b.1, 0, .ref c0.1, rfl, rfl, .of (s9 _ _ r8), by rw [hcc, List.map_cons]; exact atI_zero, c0.1, _, 1, .str c0.2.2, rfl, rfl, .of (s9 _ _ (hcb c0 hc0)), rfl, ?_⟩
              refine hQ _ _ ⟨s9, c0.2.2, rfl, ((hcm _).mp hb2).1, ((hcm _).mp hb2).2, .inl ⟨c0.2.1, hl0, fun c h1 h2 e he => ?_⟩⟩
              obtain ⟨c', hc', ec'⟩ := hdc c ((hdm c).mpr ⟨(hcm c).mpr ⟨h1, h2⟩, by (have he : ds.lookup c = some e := he); rw [he]; rfl⟩)
              have hl1 := (hcd c' hc').2
              rw [ec'] at hl1
              have he : ds.lookup c = some e := he
              rw [he] at hl1
              have e1 : e = c'.2.1 := Option.some.inj hl1
              have kk : keyLt c'.2 c0.2 = false := by
                rw [hcc] at hpw hc'
                rcases List.mem_cons.mp hc' with z | z
                · rw [z]
                  exact keyLt_irr _
                · exact (List.pairwise_cons.mp hpw).1 c' z
              have := keyLt_no.mp kk
              rw [← ec', e1]
              exact this
          · rintro v H9 ⟨s9, b, rfl, pick⟩
            have hl9 := s9 _ _ hl8
            have hf9 := s9 _ _ hf8
            have s49 := s48.trans s9
            refine ⟨.ref l, rfl, .inl ⟨rfl, _, .of hl9⟩, .str b, rfl, l, left, b, rfl, rfl, hl9, pick.1, ?_⟩
            have hf10 : upd H9 l (.lst ((left.erase b).map V.str)) fo = some (.lst (found.map V.str)) := by
              rw [upd_ne lf.symm]
              exact hf9
            refine ⟨.ref fo, rfl, .inl ⟨rfl, _, .of hf10⟩, .str b, rfl, fo, _, .str b, rfl, rfl, hf10, by rw [List.length_map]; exact small1000 (by omega), ?_⟩
            have hel := List.length_erase_of_mem pick.1
            have hpos := List.length_pos_of_mem pick.1
            refine ⟨⟨_, _, _, _, rfl⟩, same_put nf (same_put nl s49), left.erase b, found ++ [b], ?_, ?_, ?_, by omega, hF4.erase pick.1 pick.2.1, fun z h => hlk z (List.mem_of_mem_erase h), ?_⟩
            · rw [upd_ne lf, upd_same]
            · rw [upd_same, List.map_append]
              rfl
            · rw [List.length_append, hfl]
              rfl
            · rw [hord, hel]
              have es := edf_step ordS (k := left.length - 1) pick
              rw [show left.length - 1 + 1 = left.length by omega] at es
              rw [es, List.append_assoc]
              rfl
    · rintro σ H4 ⟨⟨u4, u5, u6, u7, rfl⟩, s4, left, found, hl4, hf4, hfl, hll, hF4, hlk, hord⟩
      have el : left = [] := by
        rw [List.length_map, lk] at hll
        exact List.eq_nil_of_length_eq_zero (by omega)
      subst el
      refine ⟨.ref fo, rfl, fo, _, rfl, .inl ⟨.of hf4, fun p hp => ?_⟩⟩
      rw [show order ws ds = found by rw [hord]; exact List.append_nil _] at q
      exact q _ p (same_put (s4.free hp) s4) upd_same
end
end K34
end
section
set_option linter.all false
set_option maxRecDepth 100000
/-! An order of the law's own. -/
namespace K34
open PySem PySem.Spec PyProof.Rows L2 LamX SX
section
variable {P : Program} {w : World} {K : PySem.W.Frag} {mg : Str → Option Value} {base : Heap} {a : Ad} {e : Ae}
def spLOrder : Sp := fun vs H Q _ => ∃ (p l d1 : Addr) (ws : Pairs2), vs = [.ref p, .ref d1] ∧ SrcAt H p l ∧ PD H d1 ws ∧ ws.length < 64 ∧
  ∀ H' t (zs : List Str), Lw p l H H' → H' t = some (.tup (zs.map V.str)) → zs.Perm (ws.map (·.1)) → Q (.ref t) H'
theorem PD.lw {p l : Addr} {H H1 : Hp} {d : Addr} {ps : Pairs2} (hs : SrcAt H p l) (h : PD H d ps) (w : Lw p l H H1) : PD H1 d ps := w.get hs h fun xs z => by cases z
theorem ok_LOrder (T : Tx K mg a) : Ca P w K mg base CX0 3 "_law_order" spLOrder := by
  have G2 : Ca P w K mg base CX0 2 "_law_of" spLOf := ok_LOf T
  refine ca0 T.dLOrder cLOrder (fun vs H Q E h => ?_) (fun fa cdv A outer s H vs Q E hr h => ?_)
  · obtain ⟨p, l, d1, ws, rfl, _⟩ := h
    rfl
  · obtain ⟨p, l, d1, ws, rfl, hs, h1, hz, q⟩ := h
    have hu := hu_of hr
    have nd := cLOrder.nd
    refine ⟨_, pss_cons (ps_par (i := 2) (j := 3) rfl nd rfl rfl (by decide) rfl rfl (pa_cons (pe_callB cr_sortedS (by rfl) T.m_sorted PyProof.Rows.boot_sorted (pa_cons (pe_callTy (call_listD rfl) (by rfl) T.m_list PyProof.Rows.boot_list (pa_cons (pv 1) pa_nil)) pa_nil)) (pa_cons (pe_lst pa_nil) pa_nil)) (by rfl))
      (pss_cons (ps_for PassesOwn.never rfl (pi_range1 (by rfl) T.m_range (pa_cons (pe_callB call_len_seq (by rfl) T.m_len PySem.boot_len (pa_cons (pv 2) pa_nil)) pa_nil)) (pg_name (i := 4) nd rfl (Or.inr rfl))
        (pss_cons (ps_setLc (i := 6) (own := [("_law_box", 5)]) (g := gName 5) (tt := tTest (tOp (rI0 fun i j => .bl (decide (i ≤ j))) (tDGet (tVar 1) (tVar 5)) (tVar 4))) (te := tVar 5) rfl nd rfl rfl (sw_true rfl rfl rfl (by decide +kernel)) (pi_list (pv 2)) (blkOk_by (N := nLOrder) (sc := defScope sLOrder) (by decide +kernel))
            (fun _ _ _ _ _ => by exact pg_name (i := 5) nd rfl (Or.inl rfl)) (fun _ _ _ _ _ => by exact pts_one (pt_cmpR op_le (pe_dget hu (pv 1) (pv 5) (fun _ _ => rfl)) (pv 4) (nomark _))) (fun _ _ _ _ _ => by exact pv 5))
        (pss_cons (ps_set (i := 5) nd rfl (.inl rfl) (pe_c0 G2 hr (by decide) (by rfl) (pa_cons (pv 0) (pa_cons (pe_ifExp (pt_cmpR (op_eqE (Nat.lt_of_succ_lt hu)) (pv 6) (pe_lst pa_nil) (by rfl)) (pv 2) (pv 6)) pa_nil))))
        (pss_cons (ps_expr (pe_bm PySem.F.plainAttrs_list PySem.F.slot_list_remove PySem.F.type_list_remove mt_removeS (pv 2) (pa_cons (pv 5) pa_nil)))
        (pss_one (ps_expr (pe_bm PySem.F.plainAttrs_list PySem.F.slot_list_append PySem.F.type_list_append mt_append (pv 3) (pa_cons (pv 5) pa_nil))))))))
      (pss_one (ps_ret (pe_callTy call_tuple_of (by rfl) T.m_tuple PyProof.Rows.boot_tuple (pa_cons (pv 3) pa_nil))))), ?_⟩
    refine ⟨.ref d1, rfl, d1, pkv ws, rfl, .inl h1, fun p0 hp0 => ?_⟩
    have s0 := same_new (o := .lst ((pkv ws).map fun kv => kV kv.1)) hp0
    have l0 : upd H p0 (.lst ((pkv ws).map fun kv => kV kv.1)) p0 = some (.lst ((ws.map (·.1)).map V.str)) := by
      rw [upd_same, List.map_map, List.map_map]
      rfl
    generalize upd H p0 (.lst ((pkv ws).map fun kv => kV kv.1)) = H1 at s0 l0 ⊢
    refine ⟨p0, ws.map (·.1), rfl, .of l0, by rw [List.length_map]; exact hz, fun ys lf hys hup hl => ?_⟩
    have s1 := s0.trans (same_new (o := .lst (ys.map V.str)) hl)
    have l1 : upd H1 lf (.lst (ys.map V.str)) lf = some (.lst (ys.map V.str)) := upd_same
    have nl : H lf = none := s0.free hl
    generalize upd H1 lf (.lst (ys.map V.str)) = H2 at s1 l1 ⊢
    refine ⟨Nat.zero_le _, fun fo hfo => ?_⟩
    have s2 := s1.trans (same_new (o := .lst []) hfo)
    have f2 : upd H2 fo (.lst []) fo = some (.lst []) := upd_same
    have lfo : lf ≠ fo := ne_of_none l1 hfo
    have l2 : upd H2 fo (.lst []) lf = some (.lst (ys.map V.str)) := by
      rw [upd_ne lfo]
      exact l1
    have nf : H fo = none := s1.free hfo
    generalize upd H2 fo (.lst []) = H3 at s2 l2 f2 ⊢
    have lk : ys.length = ws.length := by rw [hys.length_eq, List.length_map]
    obtain ⟨lp, ll⟩ := hs.new nl
    obtain ⟨fp, fl⟩ := hs.new nf
    refine ⟨_, _, rfl, .ref lf, rfl, lf, _, rfl, .inl (.of l2), ((ys.map V.str).length : Nat), rfl, by omega, by rw [List.length_map]; omega, ?_⟩
    refine for_it (walk_range0 (n := (((ys.map V.str).length : Nat) : Int).toNat)) (fun i σ H' => (∃ u4 u5 u6, σ = [some (.ref p), some (.ref d1), some (.ref lf), some (.ref fo), u4, u5, u6]) ∧ Lw p l H H' ∧
        ∃ left found : List Str, H' lf = some (.lst (left.map V.str)) ∧ H' fo = some (.lst (found.map V.str)) ∧ found.length = i ∧ left.length + i = ws.length ∧ (found ++ left).Perm (ws.map fun q : Str × Int => q.1))
      ⟨⟨none, none, none, rfl⟩, Lw.of hs s2, ys, [], l2, f2, rfl, lk, hys⟩ (fun _ _ _ _ _ => True.intro) ?_ ?_
    · rintro i x σ H0 H4 hi ⟨⟨u4, u5, u6, rfl⟩, w4, left, found, hl4, hf4, hfl, hll, hpm⟩ ⟨rfl, rfl⟩
      have hi' : i < ws.length := by
        rw [List.length_map, lk] at hi
        omega
      have pd1 := h1.lw hs w4
      refine ⟨.ref lf, rfl, lf, rfl, ⟨_, .of hl4⟩, fun C hC => ?_⟩
      have keep : ∀ j, ((left.take j).filter fun z => decide (wv ws z ≤ (i : Int))).length ≤ 1000 := fun j => by
        have h1 := List.length_filter_le (fun z => decide (wv ws z ≤ (i : Int))) (left.take j)
        have h2 := List.length_take_le' j left
        omega
      refine lc_it (walk_listM (l := left) (f := V.str)) (fun j H' => LcS H4 C (((left.take j).filter fun z => decide (wv ws z ≤ (i : Int))).map V.str) H') (LcS.zero hC) (fun j H' _ h => .of (h.1 _ _ hl4)) ?_ ?_
      · rintro j x H6 H7 hj c4 ⟨rfl, z, hz1, rfl⟩
        obtain ⟨n, hn1⟩ := lookup_mem (hpm.mem_iff.mp (List.mem_append_right _ (List.mem_of_getElem? hz1)))
        have ew : wv ws z = n := by
          unfold wv
          rw [hn1]
          rfl
        refine ⟨rfl, .ref d1, rfl, .str z, rfl, d1, .int n, rfl, ?_, .int i, rfl, n, i, rfl, rfl, _, rfl, ite2 (fun h => ?_) (fun h => ?_)⟩
        · have := DGet.k (k := Sum.inr z) (c4.1 _ _ pd1)
          rw [valV_pkv, hn1] at this
          exact this
        · refine ⟨.str z, rfl, ?_⟩
          refine LcS.step hC c4 (Same.refl _) (by rw [List.length_map]; exact small1000 (keep j)) ?_
          rw [take_succ_keep hz1 (by rw [ew]; exact h), List.map_append]
          rfl
        · rw [take_succ_drop hz1 (by rw [ew]; exact Bool.eq_false_iff.mpr h)]
          exact c4
      · intro H6 c6
        rw [List.take_length] at c6
        obtain ⟨s6, C6⟩ := c6
        have w6 := w4.same s6
        have hl6 := s6 _ _ hl4
        have hf6 := s6 _ _ hf4
        obtain ⟨cp, cl⟩ := w4.src.new hC
        generalize hcan : left.filter (fun z => decide (wv ws z ≤ (i : Int))) = can at C6
        have hcl : can.length ≤ 64 := by
          have := List.length_filter_le (fun z => decide (wv ws z ≤ (i : Int))) left
          rw [hcan] at this
          omega
        have hcm : ∀ z, z ∈ can → z ∈ left := fun z hz1 => by
          rw [← hcan] at hz1
          exact (List.mem_filter.mp hz1).1
        refine ⟨.ref p, rfl, .ref C, rfl, Nat.zero_le _, fun E0 hE0 => ?_⟩
        have s9 := same_new (o := .lst []) hE0
        have e9 : upd H6 E0 (.lst []) E0 = some (.lst []) := upd_same
        generalize upd H6 E0 (.lst []) = H9 at s9 e9 ⊢
        have w9 := w6.same s9
        have hl9 := s9 _ _ hl6
        have hf9 := s9 _ _ hf6
        -- the one that goes
        have tail : ∀ D : Ends, (∀ σ H', ((∃ u4 u5 u6, σ = [some (.ref p), some (.ref d1), some (.ref lf), some (.ref fo), u4, u5, u6]) ∧ Lw p l H H' ∧
                ∃ left found : List Str, H' lf = some (.lst (left.map V.str)) ∧ H' fo = some (.lst (found.map V.str)) ∧ found.length = i + 1 ∧ left.length + (i + 1) = ws.length ∧ (found ++ left).Perm (ws.map fun q : Str × Int => q.1)) → D.nx σ H') → ∀ H10 b, Lw p l H9 H10 → b ∈ left → tSeq (tDrop (tBM K "list" rRemS (tVar 2) (tCons (tVar 5) tNil))) (tDrop (tBM K "list" rAppend (tVar 3) (tCons (tVar 5) tNil)))
            D
            [some (.ref p), some (.ref d1), some (.ref lf), some (.ref fo), some (.int (i : Nat)), some (.str b), some (.ref C)] H10 := by
          intro D hD H10 b w10 hb
          have hl10 := w10.keep _ _ hl9 lp ll
          have hf10 := w10.keep _ _ hf9 fp fl
          have w10 := w9.trans w10
          refine ⟨.ref lf, rfl, .inl ⟨rfl, _, .of hl10⟩, .str b, rfl, lf, left, b, rfl, rfl, hl10, hb, ?_⟩
          have hf11 : upd H10 lf (.lst ((left.erase b).map V.str)) fo = some (.lst (found.map V.str)) := by
            rw [upd_ne lfo.symm]
            exact hf10
          refine ⟨.ref fo, rfl, .inl ⟨rfl, _, .of hf11⟩, .str b, rfl, fo, _, .str b, rfl, rfl, hf11, by rw [List.length_map]; exact small1000 (by omega), ?_⟩
          have hel := List.length_erase_of_mem hb
          have hpos := List.length_pos_of_mem hb
          refine hD _ _ ⟨⟨_, _, _, rfl⟩, Lw.putn hs nf (Lw.putn hs nl w10), left.erase b, found ++ [b], ?_, ?_, ?_, by omega, ?_⟩
          · rw [upd_ne lfo, upd_same]
          · rw [upd_same, List.map_append]
            rfl
          · rw [List.length_append, hfl]
            rfl
          · rw [List.append_assoc]
            exact (List.Perm.append_left found (List.perm_cons_erase hb).symm).trans hpm
        refine ⟨C, E0, can.map V.str, rfl, rfl, .inl ⟨.of (s9 _ _ C6), .of e9⟩, _, rfl, ?_⟩
        cases hcc : can with
        | nil =>
          refine iteT' rfl ?_
          refine ⟨.ref lf, rfl, p, l, .ref lf, rfl, w9.src, .inl ⟨lf, _, rfl, hl9, lp, ll, fun z => ?_, by rw [List.length_map]; omega, fun H10 j v w10 hv => ?_⟩⟩
          · have := List.map_eq_nil_iff.mp z
            rw [this] at hll
            have : 0 + i = ws.length := hll
            omega
          · obtain ⟨b, hb, rfl⟩ := List.mem_map.mp (List.mem_of_getElem? hv)
            exact tail _ (fun _ _ h => h) H10 b w10 hb
        | cons c0 r0 =>
          refine iteF' rfl ?_
          refine ⟨.ref C, rfl, p, l, .ref C, rfl, w9.src, .inl ⟨C, _, rfl, s9 _ _ C6, cp, cl, fun z => ?_, by rw [List.length_map]; omega, fun H10 j v w10 hv => ?_⟩⟩
          · have := List.map_eq_nil_iff.mp z
            rw [hcc] at this
            cases this
          · obtain ⟨b, hb, rfl⟩ := List.mem_map.mp (List.mem_of_getElem? hv)
            exact tail _ (fun _ _ h => h) H10 b w10 (hcm b hb)
    · rintro σ H4 ⟨⟨u4, u5, u6, rfl⟩, w4, left, found, hl4, hf4, hfl, hll, hpm⟩
      have el : left = [] := by
        rw [List.length_map, lk] at hll
        exact List.eq_nil_of_length_eq_zero (by omega)
      subst el
      rw [List.append_nil] at hpm
      refine ⟨.ref fo, rfl, fo, _, rfl, .inl ⟨.of hf4, fun t ht => ?_⟩⟩
      exact q _ t found (Lw.putn hs (w4.free ht) w4) upd_same hpm
end
end K34
end
section
set_option linter.all false
set_option maxRecDepth 100000
/-! Dues of the law's own. -/
namespace K34
open PySem PySem.Spec PyProof.Rows L2 LamX SX
theorem perm_inv {A B : Type} {f : A → B} : ∀ {ys : List B} {l : List A}, ys.Perm (l.map f) → ∃ l' : List A, l'.Perm l ∧ ys = l'.map f
  | [], l, h => by
    have := List.map_eq_nil_iff.mp (List.nil_perm.mp h)
    exact ⟨[], by rw [this], rfl⟩
  | y :: r, l, h => by
    obtain ⟨a, ha, rfl⟩ := List.mem_map.mp (h.mem_iff.mp List.mem_cons_self)
    obtain ⟨s, t, rfl⟩ := List.append_of_mem ha
    have h2 : (f a :: r).Perm (f a :: (s ++ t).map f) := by
      refine h.trans ?_
      rw [List.map_append, List.map_cons, List.map_append]
      exact List.perm_middle
    obtain ⟨l', h3, h4⟩ := perm_inv ((List.perm_cons _).mp h2)
    exact ⟨a :: l', (h3.cons a).trans List.perm_middle.symm, by rw [h4]; rfl⟩
theorem cons_if_gen {c : TT} {t e : TE} {u : TA} {σ : L2.St} {H : Hp} {Q : List V → Hp → Prop} (R : VK) (h : ∀ Q' : VK, (∀ v H', R v H' → Q' v H') → tIf c t e σ H Q') (hx : ∀ v H', R v H' → u σ H' fun xs H2 => Q (v :: xs) H2) : tCons (tIf c t e) u σ H Q := h _ hx
theorem walk_enumLM {K : PySem.W.Frag} {t : Addr} {A : Type} {f : A → V} {l : List A} : Walk (Ite K t) l.length (fun H => SqL K H t (l.map f)) (YEnum f l) := by
  have w := walk_enum (K := K) (a := t) (xs := l.map f)
  rw [List.length_map] at w
  exact w.mono (fun _ h => h) fun i H v H' _ _ ⟨T, x, y, e1, e2, e3, e4, e5⟩ => by
    obtain ⟨z, e6, e7⟩ := map_at (f := f) (l := l) e5
    have e4 : some (V.int ((i : Nat) : Int)) = some x := e4
    cases e4
    exact ⟨T, z, e1, e2, by rw [e3, e7], e6⟩
abbrev pfs (ps : Dues) : List V := ps.map fun q => V.ref q.1
def duesIn (H : Hp) (ps : Dues) : Prop := ∀ q ∈ ps, H q.1 = some (.tup [.str q.2.1, .int q.2.2])
theorem duesIn.lw {p l : Addr} {H H1 : Hp} {ps : Dues} (hs : SrcAt H p l) (h : duesIn H ps) (w : Lw p l H H1) : duesIn H1 ps := fun r hr => w.get hs (h r hr) fun xs z => by cases z
theorem duesIn.same {H H1 : Hp} {ps : Dues} (h : duesIn H ps) (s : Same H H1) : duesIn H1 ps := fun r hr => s _ _ (h r hr)
section
variable {P : Program} {w : World} {K : PySem.W.Frag} {mg : Str → Option Value} {base : Heap} {a : Ad} {e : Ae}
def spLDues : Sp := fun vs H Q _ => ∃ (p l d1 t : Addr) (ws : Pairs2) (zs : List Str) (slack : Nat), vs = [.ref p, .ref d1, .ref t, .int slack] ∧ SrcAt H p l ∧ PD H d1 ws ∧ H t = some (.tup (zs.map V.str)) ∧ zs.Nodup ∧ (∀ z ∈ zs, z ∈ ws.map fun q : Str × Int => q.1) ∧ zs.length ≤ 63 ∧ 0 < slack ∧ slack < 1073741824 ∧
  ∀ H' r (ps : Dues), Lw p l H H' → DuesAt H' r ps → (ps.map fun q => q.2.1).Nodup → (∀ q ∈ ps, q.2.1 ∈ zs ∧ 1 ≤ q.2.2) → ps.length ≤ zs.length → Q (.ref r) H'
theorem ok_LDues (T : Tx K mg a) : Ca P w K mg base CX0 3 "_law_dues" spLDues := by
  have G1 : Ca P w K mg base CX0 1 "_law_number" spLNumber := ok_LNumber T
  have G2 : Ca P w K mg base CX0 2 "_law_of" spLOf := ok_LOf T
  have G3 : Ca P w K mg base CX0 2 "_law_mixed" spLMixed := ok_LMixed T
  refine ca0 T.dLDues cLDues (fun vs H Q E h => ?_) (fun fa cdv A outer s H vs Q E hr h => ?_)
  · obtain ⟨p, l, d1, t, ws, zs, slack, rfl, _⟩ := h
    rfl
  · obtain ⟨p, l, d1, t, ws, zs, slack, rfl, hs, h1, ht, hznd, hzk, hzl, hsl, hsl2, q⟩ := h
    have hu := hu_of hr
    have nd := cLDues.nd
    refine ⟨_, pss_cons (ps_par (i := 4) (j := 5) rfl nd rfl rfl (by decide) rfl rfl (pa_cons (pe_op op_add pe_int (pe_c0 G1 hr (by decide) (by rfl) (pa_cons (pv 0) (pa_cons pe_int pa_nil)))) (pa_cons (pe_lst pa_nil) pa_nil)) (by rfl))
      (pss_cons (ps_for PassesOwn.never rfl (pi_enumT (by rfl) T.m_enumerate (pa_cons (pv 2) pa_nil)) (pg_tup rfl (pgs_cons (pg_name (i := 6) nd rfl (Or.inl rfl)) (pgs_cons (pg_name (i := 7) nd rfl (Or.inl rfl)) pgs_nil)))
        (pss_one (ps_if (pt_cmpR op_lt (pe_c0 G1 hr (by decide) (by rfl) (pa_cons (pv 0) (pa_cons pe_int pa_nil))) (pv 4) (nomark _))
          (pss_one (ps_expr (pe_bm PySem.F.plainAttrs_list PySem.F.slot_list_append PySem.F.type_list_append mt_append (pv 5) (pa_cons (pe_tup (pa_cons (pv 7) (pa_cons (pe_op op_add (pe_op op_add (pv 6) pe_int) (pe_c0 G1 hr (by decide) (by rfl) (pa_cons (pv 0) (pa_cons (pv 3) pa_nil)))) pa_nil))) pa_nil)))) pss_nil)))
      (pss_cons (ps_setLc (i := 9) (own := [("_law_at", 8), ("_law_pair", 11)]) (g := gTup K 2 (gCons (gName 8) (gCons (gName 11) gNil))) (tt := tTest (tOp (rI0 fun i j => .bl (decide (j < i))) (tDGet (tVar 1) (tOp (rIxT K) (tVar 11) (tC (.int 0)))) (tC (.int 0)))) (te := tVar 8) rfl nd rfl rfl (sw_true rfl rfl rfl (by decide +kernel))
          (pi_enum (by rfl) T.m_enumerate (pa_cons (pv 5) pa_nil)) (blkOk_by (N := nLDues) (sc := defScope sLDues) (by decide +kernel))
          (fun _ _ _ _ _ => by exact pg_tup rfl (pgs_cons (pg_name (i := 8) nd rfl (Or.inl rfl)) (pgs_cons (pg_name (i := 11) nd rfl (Or.inl rfl)) pgs_nil)))
          (fun _ _ _ _ _ => by exact pts_one (pt_cmpR op_gt (pe_dget hu (pv 1) (pe_ix ix_tup (pv 11) pe_int (fun _ _ => rfl)) (fun _ _ => rfl)) pe_int (nomark _))) (fun _ _ _ _ _ => by exact pv 8))
      (pss_cons (ps_for PassesOwn.never rfl (pi_range1 (by rfl) T.m_range (pa_cons (pe_c0 G2 hr (by decide) (by rfl) (pa_cons (pv 0) (pa_cons (pe_lst (pa_cons pe_int (pa_cons pe_int (pa_cons pe_int (pa_cons pe_int (pa_cons pe_int pa_nil)))))) pa_nil))) pa_nil)) (pg_name (i := 10) nd rfl (Or.inl rfl))
        (pss_one (ps_if (pt_cmpR (op_neE (Nat.lt_of_succ_lt hu)) (pv 5) (pe_lst pa_nil) (by rfl))
          (pss_cons (ps_set (i := 8) nd rfl (.inl rfl) (pe_c0 G2 hr (by decide) (by rfl) (pa_cons (pv 0) (pa_cons (pe_ifExp (pw_and (pt_cmpR (op_neE (Nat.lt_of_succ_lt hu)) (pv 9) (pe_lst pa_nil) (by rfl)) (pw_and1 (pt_cmpR op_eq (pe_op op_mod (pv 10) pe_int) pe_int (nomark _)))).pt (pv 9)
              (pe_lst (pa_cons pe_int (pa_cons (pe_op op_sub (pe_callB call_len_seq (by rfl) T.m_len PySem.boot_len (pa_cons (pv 5) pa_nil)) pe_int) pa_nil)))) pa_nil))))
          (pss_cons (ps_set (i := 7) nd rfl (.inl rfl) (pe_ix ix_tup (pe_ix ix_list (pv 5) (pv 8) (fun _ _ => rfl)) pe_int (fun _ _ => rfl)))
          (pss_one (ps_asg (pe_tup (pa_cons (pv 7) (pa_cons (pe_callB (call_max2 rfl) (by rfl) T.m_max PyProof.Rows.boot_max (pa_cons pe_int (pa_cons (pe_op op_add (pe_dget hu (pv 1) (pv 7) (fun _ _ => rfl)) (pe_c0 G2 hr (by decide) (by rfl) (pa_cons (pv 0) (pa_cons (pe_lst (pa_cons pe_int (pa_cons pe_int (pa_cons pe_int (pa_cons pe_int pa_nil))))) pa_nil)))) pa_nil))) pa_nil))) (pg_sub (pv 5) (pv 8) set_list (fun _ => rfl)))))) pss_nil)))
      (pss_one (ps_ret (pe_callTy call_tuple_of (by rfl) T.m_tuple PyProof.Rows.boot_tuple (pa_cons (pe_c0 G3 hr (by decide) (by rfl) (pa_cons (pv 0) (pa_cons (pv 5) pa_nil))) pa_nil))))))), ?_⟩
    refine ⟨.ref p, rfl, p, l, 4, rfl, hs, by decide, by decide, fun H1 sh lw1 hsh => ⟨1, sh, rfl, rfl, Nat.zero_le _, fun fo hfo => ?_⟩⟩
    have nfo := lw1.free hfo
    obtain ⟨fp, fl⟩ := hs.new nfo
    have w2 := lw1.same (same_new (o := .lst []) hfo)
    have f2 : upd H1 fo (.lst []) fo = some (.lst []) := upd_same
    generalize upd H1 fo (.lst []) = H2 at w2 f2 ⊢
    refine ⟨_, _, rfl, .ref t, rfl, t, _, rfl, .of (w2.get hs ht fun xs z => by cases z), ?_⟩
    refine for_it (walk_enumM (l := zs) (f := V.str)) (fun i σ H' => (∃ u6 u7, σ = [some (.ref p), some (.ref d1), some (.ref t), some (.int slack), some (.int (1 + (sh : Nat))), some (.ref fo), u6, u7, none, none, none, none]) ∧ Lw p l H H' ∧
        ∃ ps : Dues, H' fo = some (.lst (pfs ps)) ∧ duesIn H' ps ∧ (ps.map fun q => q.2.1).Sublist (zs.take i) ∧ ∀ q ∈ ps, 1 ≤ q.2.2)
      ⟨⟨none, none, rfl⟩, w2, [], f2, fun q hq => (by cases hq), List.nil_sublist _, fun q hq => (by cases hq)⟩ (fun i σ H' _ h => .of (h.2.1.get hs ht fun xs z => by cases z)) ?_ ?_
    · rintro i x σ H3 hi0 hi ⟨⟨u6, u7, rfl⟩, w3, ps, hf3, hd3, hsub, hpos⟩ ⟨T1, z, rfl, hT, rfl, hz1⟩
      refine ⟨T1, _, rfl, .of upd_same, rfl, .int i, [.str z], rfl, .str z, [], rfl, rfl, ?_⟩
      have w4 := w3.same (same_new (o := .tup [.int ((i : Nat) : Int), .str z]) hT)
      have hf4 : upd H3 T1 (.tup [.int ((i : Nat) : Int), .str z]) fo = some (.lst (pfs ps)) := by
        rw [upd_ne (ne_of_none hf3 hT)]
        exact hf3
      have hd4 := hd3.same (same_new (o := .tup [.int ((i : Nat) : Int), .str z]) hT)
      generalize upd H3 T1 (.tup [.int ((i : Nat) : Int), .str z]) = H4 at w4 hf4 hd4 ⊢
      refine ⟨.ref p, rfl, p, l, 4, rfl, w4.src, by decide, by decide, fun H5 k lw5 hk => ?_⟩
      have hf5 := lw5.keep _ _ hf4 fp fl
      have hd5 := hd4.lw w4.src lw5
      have w5 := w4.trans lw5
      have hts : (zs.take i).Sublist (zs.take (i + 1)) := by
        rw [List.take_add_one, hz1]
        exact List.sublist_append_left _ _
      refine ⟨.int (1 + (sh : Nat)), rfl, k, 1 + sh, rfl, rfl, _, rfl, ite2 (fun _ => ?_) (fun _ => ⟨⟨_, _, rfl⟩, w5, ps, hf5, hd5, hsub.trans hts, hpos⟩)⟩
      have hpl : ps.length ≤ 63 := by
        have h1 := hsub.length_le
        rw [List.length_map, List.length_take] at h1
        omega
      refine ⟨.ref fo, rfl, .inl ⟨rfl, _, .of hf5⟩, .str z, rfl, .int i, rfl, i, 1, rfl, rfl, .ref p, rfl, .int slack, rfl, p, l, slack, rfl, w5.src, hsl, hsl2, fun H6 k2 lw6 hk2 => ⟨_, k2, rfl, rfl, (by show 2 ≤ sizeLine; decide), fun tn htn => ?_⟩⟩
      have hf6 := lw6.keep _ _ hf5 fp fl
      have hd6 := hd5.lw w5.src lw6
      have w6 := w5.trans lw6
      have nf : tn ≠ fo := (ne_of_none hf6 htn).symm
      refine ⟨fo, pfs ps, .ref tn, rfl, rfl, by rw [upd_ne nf.symm]; exact hf6, by rw [List.length_map]; exact small1000 (by omega), ?_⟩
      refine ⟨⟨_, _, rfl⟩, Lw.putn hs nfo (w6.same (same_new htn)), ps ++ [(tn, z, (i : Int) + 1 + (k2 : Nat))], ?_, fun q hq => ?_, ?_, fun q hq => ?_⟩
      · rw [upd_same]
        show _ = some (HO.lst ((ps ++ [(tn, z, _)]).map _))
        rw [List.map_append]
        rfl
      · rcases List.mem_append.mp hq with h | h
        · rw [upd_ne, upd_ne (ne_of_none (hd6 q h) htn)]
          · exact hd6 q h
          · intro e1
            have := hd6 q h
            rw [e1, hf6] at this
            cases this
        · rw [List.mem_singleton.mp h]
          rw [upd_ne nf, upd_same]
      · rw [List.map_append, List.take_add_one, hz1]
        exact List.Sublist.append hsub (List.Sublist.refl _)
      · rcases List.mem_append.mp hq with h | h
        · exact hpos q h
        · rw [List.mem_singleton.mp h]
          show 1 ≤ (i : Int) + 1 + (k2 : Nat)
          omega
    · rintro σ H3 ⟨⟨u6, u7, rfl⟩, w3, ps, hf3, hd3, hsub, hpos⟩
      rw [List.take_length] at hsub
      have hpl : ps.length ≤ 63 := by
        have h1 := hsub.length_le
        rw [List.length_map] at h1
        omega
      have hpk : ∀ q ∈ ps, q.2.1 ∈ zs := fun q hq => hsub.subset (List.mem_map_of_mem (f := fun q : Addr × Str × Int => q.2.1) hq)
      have pd3 := h1.lw hs w3
      refine ⟨.ref fo, rfl, fo, _, rfl, .of hf3, fun D hD => ?_⟩
      refine lc_it (walk_enumLM (l := ps) (f := fun q => V.ref q.1)) (fun j H' => ∃ as : List Nat, LcS H3 D (as.map natV) H' ∧ as.length ≤ j ∧ ∀ a ∈ as, a < j) ⟨[], LcS.zero hD, Nat.le_refl _, fun a ha => (by cases ha)⟩ (fun j H' _ h => h.elim fun _ h => .of (h.1.1 _ _ hf3)) ?_ ?_
      · rintro j x H4 H5 hj ⟨as, c, hal, ham⟩ ⟨T1, pr, rfl, hT, rfl, hpr⟩
        refine ⟨T1, _, rfl, .of upd_same, rfl, .int j, [.ref pr.1], rfl, .ref pr.1, [], rfl, rfl, ?_⟩
        have c5 : LcS H3 D (as.map natV) (upd H4 T1 (.tup [.int ((j : Nat) : Int), .ref pr.1])) := c.to (same_new hT)
        generalize upd H4 T1 (.tup [.int ((j : Nat) : Int), .ref pr.1]) = H6 at c5 ⊢
        have hm := List.mem_of_getElem? hpr
        obtain ⟨n, hn⟩ := lookup_mem (hzk _ (hpk pr hm))
        refine ⟨rfl, .ref d1, rfl, .ref pr.1, rfl, pr.1, _, 0, .str pr.2.1, rfl, rfl, .of (c5.1 _ _ (hd3 pr hm)), atI_zero, d1, .int n, rfl, ?_, n, 0, rfl, rfl, _, rfl, ite2 (fun _ => ?_) (fun _ => ⟨as, c5, by omega, fun a ha => Nat.lt_succ_of_lt (ham a ha)⟩)⟩
        · have := DGet.k (k := Sum.inr pr.2.1) (c5.1 _ _ pd3)
          rw [valV_pkv, hn] at this
          exact this
        · obtain ⟨acc, a1, a2, a3⟩ := LcS.step (y := natV j) hD c5 (Same.refl _) (by rw [List.length_map]; exact small1000 (by omega)) rfl
          refine ⟨natV j, rfl, acc, a1, a2, as ++ [j], by rw [List.map_append]; exact a3, by rw [List.length_append]; show as.length + 1 ≤ _; omega, fun a ha => ?_⟩
          rcases List.mem_append.mp ha with h | h
          · exact Nat.lt_succ_of_lt (ham a h)
          · rw [List.mem_singleton.mp h]
            exact Nat.lt_succ_self _
      · rintro H4 ⟨as, c, hal, ham⟩
        obtain ⟨s4, D4⟩ := c
        have w4 := w3.same s4
        have hf4 := s4 _ _ hf3
        have hd4 := hd3.same s4
        have nD := w3.free hD
        obtain ⟨Dp', Dl⟩ := hs.new nD
        have nDf : D ≠ fo := (ne_of_none hf3 hD).symm
        refine ⟨.ref p, rfl, (by show 5 ≤ sizeLine; decide), fun b hb => ?_⟩
        have w5 := w4.same (same_new (o := .lst [.int 0, .int 0, .int 1, .int 2, .int 5]) hb)
        obtain ⟨b1, b2⟩ := w4.src.new hb
        have hf5 : upd H4 b (.lst [.int 0, .int 0, .int 1, .int 2, .int 5]) fo = some (.lst (pfs ps)) := by
          rw [upd_ne (ne_of_none hf4 hb)]
          exact hf4
        have hD5 : upd H4 b (.lst [.int 0, .int 0, .int 1, .int 2, .int 5]) D = some (.lst (as.map natV)) := by
          rw [upd_ne (ne_of_none D4 hb)]
          exact D4
        have hd5 := hd4.same (same_new (o := .lst [.int 0, .int 0, .int 1, .int 2, .int 5]) hb)
        refine ⟨p, l, .ref b, rfl, w5.src, .inl ⟨b, _, rfl, upd_same, b1, b2, List.cons_ne_nil _ _, (by decide), fun H6 j v w6 hv => ?_⟩⟩
        obtain ⟨n, rfl, hn⟩ : ∃ n : Nat, v = natV n ∧ n ≤ 5 := by
          have := List.mem_of_getElem? hv
          simp only [List.mem_cons, List.not_mem_nil, or_false] at this
          rcases this with rfl | rfl | rfl | rfl | rfl
          · exact ⟨0, rfl, by decide⟩
          · exact ⟨0, rfl, by decide⟩
          · exact ⟨1, rfl, by decide⟩
          · exact ⟨2, rfl, by decide⟩
          · exact ⟨5, rfl, by decide⟩
        have hf6 := w6.keep _ _ hf5 fp fl
        have hD6 := w6.keep _ _ hD5 Dp' Dl
        have hd6 := hd5.lw w5.src w6
        have w6 := w5.trans w6
        refine ⟨n, rfl, by omega, by omega, ?_⟩
        refine for_it (walk_range0 (n := ((n : Nat) : Int).toNat)) (fun i σ H' => (∃ u6 u7 u8 u10, σ = [some (.ref p), some (.ref d1), some (.ref t), some (.int slack), some (.int (1 + (sh : Nat))), some (.ref fo), u6, u7, u8, some (.ref D), u10, none]) ∧ Lw p l H H' ∧ H' D = some (.lst (as.map natV)) ∧
            ∃ ps' : Dues, H' fo = some (.lst (pfs ps')) ∧ duesIn H' ps' ∧ (ps'.map fun q => q.2.1) = (ps.map fun q => q.2.1) ∧ ∀ q ∈ ps', 1 ≤ q.2.2)
          ⟨⟨_, _, _, _, rfl⟩, w6, hD6, ps, hf6, hd6, rfl, hpos⟩ (fun _ _ _ _ _ => True.intro) ?_ ?_
        · rintro i x σ H0 H7 hi ⟨⟨u6, u7, u8, u10, rfl⟩, w7, hD7, ps', hf7, hd7, heq, hpos7⟩ ⟨rfl, rfl⟩
          have hlen : ps'.length = ps.length := by
            have := congrArg List.length heq
            rwa [List.length_map, List.length_map] at this
          refine ⟨.ref fo, rfl, Nat.zero_le _, fun E0 hE0 => ?_⟩
          have s8 := same_new (o := .lst []) hE0
          have e8 : upd H7 E0 (.lst []) E0 = some (.lst []) := upd_same
          generalize upd H7 E0 (.lst []) = H8 at s8 e8 ⊢
          have w8 := w7.same s8
          have hf8 := s8 _ _ hf7
          have hD8 := s8 _ _ hD7
          have hd8 := hd7.same s8
          refine ⟨fo, E0, pfs ps', rfl, rfl, .inl ⟨.of hf8, .of e8⟩, _, rfl, ?_⟩
          cases hps : ps' with
          | nil =>
            refine iteF' rfl ?_
            refine ⟨⟨_, _, _, _, rfl⟩, w8, hD8, ps', hf8, hd8, heq, hpos7⟩
          | cons q0 qr =>
            refine iteT' rfl ?_
            have hpos8 : 0 < ps'.length := by
              rw [hps]
              exact Nat.succ_pos _
            refine ⟨.ref p, rfl, ?_⟩
            refine cons_if_gen (fun v H' => ∃ (b : Addr) (xs : List Nat), v = .ref b ∧ H' b = some (.lst (xs.map natV)) ∧ b ≠ p ∧ b ≠ l ∧ xs ≠ [] ∧ xs.length ≤ 63 ∧ (∀ x ∈ xs, x < ps'.length) ∧ Same H8 H') (fun Q' hQ => ?_) ?_
            · have other : ∀ H9, Same H8 H9 → tLst (tCons (tC (.int 0)) (tCons (tOp (rI0 fun i j => V.int (i - j)) (tCB (fun xs H Q => ∃ p ys, xs = [V.ref p] ∧ (SqL K H p ys ∨ SqT K H p ys) ∧ Q (V.int ys.length) H) (tCons (tVar 5) tNil)) (tC (.int 1))) tNil))
                  [some (.ref p), some (.ref d1), some (.ref t), some (.int slack), some (.int (1 + (sh : Nat))), some (.ref fo), u6, u7, u8, some (.ref D), some (.int (i : Nat)), none] H9 Q' := by
                intro H9 s9
                refine ⟨.ref fo, rfl, fo, _, rfl, .inl (.of (s9 _ _ hf8)), _, 1, rfl, rfl, (by show 2 ≤ sizeLine; decide), fun b2' hb2 => ?_⟩
                obtain ⟨c1, c2⟩ := (w8.same s9).src.new hb2
                refine hQ _ _ ⟨b2', [0, ps'.length - 1], rfl, ?_, c1, c2, List.cons_ne_nil _ _, (by show 2 ≤ 63; decide), fun x hx => ?_, s9.trans (same_new hb2)⟩
                · rw [upd_same, List.length_map]
                  show some (HO.lst [V.int 0, V.int (((ps'.length : Nat) : Int) - 1)]) = some (HO.lst [V.int 0, V.int ((ps'.length - 1 : Nat) : Int)])
                  rw [show ((ps'.length : Nat) : Int) - 1 = ((ps'.length - 1 : Nat) : Int) by omega]
                · simp only [List.mem_cons, List.not_mem_nil, or_false] at hx
                  omega
              refine ⟨.ref D, rfl, Nat.zero_le _, fun E1 hE1 => ?_⟩
              have s9 := same_new (o := .lst []) hE1
              have e9 : upd H8 E1 (.lst []) E1 = some (.lst []) := upd_same
              generalize upd H8 E1 (.lst []) = H9 at s9 e9 ⊢
              refine ⟨D, E1, as.map natV, rfl, rfl, .inl ⟨.of (s9 _ _ hD8), .of e9⟩, _, rfl, ?_⟩
              cases has : as with
              | nil => exact iteF' rfl (iteF' (Bool.eq_false_iff.mpr Bool.false_ne_true) (other H9 s9))
              | cons a0 ar =>
                refine iteT' rfl ?_
                refine ⟨.int i, rfl, i, 2, rfl, rfl, (by show (0 : Int) < 2; decide), rfl, _, rfl, ite2 (fun _ => ?_) (fun _ => other H9 s9)⟩
                refine ⟨.ref D, rfl, hQ _ _ ⟨D, as, rfl, s9 _ _ hD8, Dp', Dl, by rw [has]; exact List.cons_ne_nil _ _, by omega, fun x hx => by rw [hlen]; exact ham x hx, s9⟩⟩
            · rintro v H9 ⟨b, xs, rfl, hb9, c1, c2, hxs, hxl, hxm, s9⟩
              have w9 := w8.same s9
              have hf9 := s9 _ _ hf8
              have hD9 := s9 _ _ hD8
              have hd9 := hd8.same s9
              refine ⟨p, l, .ref b, rfl, w9.src, .inl ⟨b, _, rfl, hb9, c1, c2, fun z => hxs (List.map_eq_nil_iff.mp z), by rw [List.length_map]; omega, fun H10 j v w10 hv => ?_⟩⟩
              obtain ⟨k, hk, rfl⟩ := List.mem_map.mp (List.mem_of_getElem? hv)
              have hk := hxm k hk
              have hf10 := w10.keep _ _ hf9 fp fl
              have hD10 := w10.keep _ _ hD9 Dp' Dl
              have hd10 := hd9.lw w9.src w10
              have w10 := w9.trans w10
              obtain ⟨qq, hqq⟩ : ∃ q, ps'[k]? = some q := ⟨_, List.getElem?_eq_getElem hk⟩
              have hqm := List.mem_of_getElem? hqq
              refine ⟨.ref fo, rfl, natV k, rfl, fo, pfs ps', k, .ref qq.1, rfl, rfl, .of hf10, atI_nat (by rw [List.getElem?_map, hqq]; rfl), qq.1, _, 0, .str qq.2.1, rfl, rfl, .of (hd10 qq hqm), atI_zero, ?_⟩
              have hbz : qq.2.1 ∈ zs := by
                have : qq.2.1 ∈ ps'.map fun q => q.2.1 := List.mem_map_of_mem (f := fun q : Addr × Str × Int => q.2.1) hqm
                rw [heq] at this
                exact hsub.subset this
              obtain ⟨wt, hwt⟩ := lookup_mem (hzk _ hbz)
              have pd10 := h1.lw hs w10
              refine ⟨.str qq.2.1, rfl, .ref d1, rfl, .str qq.2.1, rfl, d1, .int wt, rfl, ?_, .ref p, rfl, (by show 4 ≤ sizeLine; decide), fun b3 hb3 => ?_⟩
              · have := DGet.k (k := Sum.inr qq.2.1) pd10
                rw [valV_pkv, hwt] at this
                exact this
              · have s11 := same_new (o := .lst [.int 0, .int 1, .int 1, .int 2]) hb3
                obtain ⟨e1, e2⟩ := w10.src.new hb3
                have w11 := w10.same s11
                refine ⟨p, l, .ref b3, rfl, w11.src, .inl ⟨b3, _, rfl, upd_same, e1, e2, List.cons_ne_nil _ _, (by decide), fun H12 j v w12 hv => ?_⟩⟩
                obtain ⟨ad, rfl⟩ : ∃ ad : Int, v = .int ad := by
                  have := List.mem_of_getElem? hv
                  simp only [List.mem_cons, List.not_mem_nil, or_false] at this
                  rcases this with rfl | rfl | rfl | rfl
                  · exact ⟨0, rfl⟩
                  · exact ⟨1, rfl⟩
                  · exact ⟨1, rfl⟩
                  · exact ⟨2, rfl⟩
                have hf12 := w12.keep _ _ (s11 _ _ hf10) fp fl
                have hD12 := w12.keep _ _ (s11 _ _ hD10) Dp' Dl
                have hd12 := (hd10.same s11).lw w11.src w12
                have w12 := w11.trans w12
                refine ⟨wt, ad, rfl, rfl, 1, _, rfl, (by show 2 ≤ sizeLine; decide), fun tn htn => ?_⟩
                have nf : tn ≠ fo := (ne_of_none hf12 htn).symm
                refine ⟨.ref fo, rfl, natV k, rfl, fo, pfs ps', k, k, rfl, rfl, by rw [upd_ne nf.symm]; exact hf12, ixN_nat (by rw [List.length_map]; exact hk), ?_⟩
                refine ⟨⟨_, _, _, _, rfl⟩, Lw.putn hs nfo (w12.same (same_new htn)), ?_, ps'.set k (tn, qq.2.1, if wt + ad > 1 then wt + ad else 1), ?_, fun q hq => ?_, ?_, fun q hq => ?_⟩
                · rw [upd_ne nDf, upd_ne (ne_of_none hD12 htn)]
                  exact hD12
                · rw [upd_same]
                  show _ = some (HO.lst ((ps'.set k _).map _))
                  rw [List.map_set]
                · rcases List.mem_or_eq_of_mem_set hq with h | h
                  · rw [upd_ne, upd_ne (ne_of_none (hd12 q h) htn)]
                    · exact hd12 q h
                    · intro e1
                      have := hd12 q h
                      rw [e1, hf12] at this
                      cases this
                  · rw [h, upd_ne nf, upd_same]
                · rw [List.map_set, heq]
                  have hk2 : (ps.map fun q => q.2.1)[k]? = some qq.2.1 := by
                    rw [← heq, List.getElem?_map, hqq]
                    rfl
                  obtain ⟨hkk, ek⟩ := List.getElem?_eq_some_iff.mp hk2
                  have := List.set_getElem_self hkk
                  rw [ek] at this
                  exact this
                · rcases List.mem_or_eq_of_mem_set hq with h | h
                  · exact hpos7 q h
                  · rw [h]
                    show 1 ≤ if wt + ad > 1 then wt + ad else 1
                    split <;> omega
        · rintro σ H7 ⟨⟨u6, u7, u8, u10, rfl⟩, w7, hD7, ps', hf7, hd7, heq, hpos7⟩
          have hlen : ps'.length = ps.length := by
            have := congrArg List.length heq
            rwa [List.length_map, List.length_map] at this
          refine ⟨.ref p, rfl, .ref fo, rfl, p, l, fo, _, rfl, w7.src, hf7, fp, fl, by rw [List.length_map]; omega, fun H8 f ys w8 nf hf hp => ?_⟩
          obtain ⟨pz, hpz, rfl⟩ := perm_inv hp
          have hd8 := hd7.lw w7.src w8
          have w8 := w7.trans w8
          refine ⟨f, _, rfl, .inl ⟨.of hf, fun r hr' => ?_⟩⟩
          have hkeys : (pz.map fun q => q.2.1).Perm (ps.map fun q => q.2.1) := by
            rw [← heq]
            exact hpz.map _
          refine q _ r pz (w8.same (same_new hr')) ⟨upd_same, fun q hq => ?_⟩ (hkeys.nodup_iff.mpr (hznd.sublist hsub)) (fun q hq => ⟨?_, hpos7 q (hpz.mem_iff.mp hq)⟩) ?_
          · have := hd8 q (hpz.mem_iff.mp hq)
            rw [upd_ne (ne_of_none this hr')]
            exact this
          · exact hsub.subset (hkeys.mem_iff.mp (List.mem_map_of_mem (f := fun q : Addr × Str × Int => q.2.1) hq))
          · have h1 := hsub.length_le
            rw [List.length_map] at h1
            rw [hpz.length_eq, hlen]
            exact h1
end
end K34
end
section
set_option linter.all false
set_option maxRecDepth 100000
/-! Tuples cut and joined; bent standings. -/
namespace K34
open PySem PySem.Spec PyProof.Rows L2 LamX SX
def rSlU : V → Option Int → Option Int → Hp → VK → Prop := fun x lo hi H Q => ∃ a xs, x = .ref a ∧ H a = some (.tup xs) ∧ ∀ p H', Same H H' → H' p = some (.tup (cutV xs lo hi)) → Q (.ref p) H'
theorem sl_tupU {X : Cx} : SlR X rSlU := fun pins s σ H x v b1 b2 b3 b4 b5 b6 r1 r2 r3 r4 r5 h => sl_tupA pins s σ H x v b1 b2 b3 b4 b5 b6 r1 r2 r3 r4 r5 (by
  obtain ⟨a, xs, e1, e2, q⟩ := h
  refine ⟨a, xs, e1, .of e2, fun hw => q a H (Same.refl _) (by
    rw [e2]
    unfold cutV
    rw [hw.1, hw.2, List.drop_zero, Nat.sub_zero, List.take_length]), fun _ p hp => q p _ (same_new hp) upd_same⟩)
def rCatU : R2 := fun x y H Q => ∃ a b xs ys, x = .ref a ∧ y = .ref b ∧ H a = some (.tup xs) ∧ H b = some (.tup ys) ∧ xs.length + ys.length ≤ 1000 ∧ ∀ p H', Same H H' → H' p = some (.tup (xs ++ ys)) → Q (.ref p) H'
theorem op_catU {X : Cx} : OpR X (binaryOp .Add) rCatU := fun pins s σ H x y v u Q I rx ry h => op_catA pins s σ H x y v u Q I rx ry (by
  obtain ⟨a, b, xs, ys, e1, e2, h1, h2, hz, q⟩ := h
  refine ⟨a, b, xs, ys, e1, e2, .of h1, .of h2, by rw [sizeLine_eq]; omega, fun hx => q b H (Same.refl _) ?_, fun _ hy => q a H (Same.refl _) ?_, fun _ _ p hp => q p _ (same_new hp) upd_same⟩
  · rw [hx, List.nil_append]
    exact h2
  · rw [hy, List.append_nil]
    exact h1)
theorem cut_drop {xs : List V} (k : Nat) : cutV xs (some (k : Int)) none = xs.drop k := by
  unfold cutV
  rw [HT.sIx_nat, HT.sIx_none]
  by_cases h : k ≤ xs.length
  · rw [Nat.min_eq_left h, List.take_of_length_le (by rw [List.length_drop]; exact Nat.le_refl _)]
  · rw [Nat.min_eq_right (by omega), List.drop_length, List.drop_of_length_le (by omega)]
    exact List.take_nil
theorem cut_last {xs : List V} : cutV xs none (some (-1)) = xs.take (xs.length - 1) := by
  unfold cutV
  show (xs.drop 0).take ((-1 + (xs.length : Int)).toNat - 0) = _
  rw [List.drop_zero, Nat.sub_zero, show (-1 + (xs.length : Int)).toNat = xs.length - 1 by omega]
theorem rowBad_end : ∀ {xs : List V} {x : V} {seen : List Str}, (isNameV x = false ∨ txtV x ∈ seen ++ xs.map txtV) → rowBad (xs ++ [x]) seen = true
  | [], x, seen, h => by
    show (!isNameV x || decide (txtV x ∈ seen) || rowBad [] _) = true
    rcases h with h | h
    · rw [h]
      rfl
    · rw [decide_eq_true (by simpa using h), Bool.or_true]
      rfl
  | y :: r, x, seen, h => by
    show (!isNameV y || decide (txtV y ∈ seen) || rowBad (r ++ [x]) (seen ++ [txtV y])) = true
    rw [rowBad_end (h.imp id fun h => by rw [List.append_assoc]; exact h), Bool.or_true]
theorem badAt_app : ∀ (pre : Rows) (tl : List Rw) (hs : List Nat) (seen : List Str) (i : Nat), (∀ (j : Nat) r, pre[j]? = some r → r.2.length ≤ hs.getD j 0) → (∀ z ∈ boxes pre, nameB z = true) → (boxes pre).Nodup → (∀ z ∈ boxes pre, z ∉ seen) →
    badAt hs (pre.map rw_ ++ tl) seen i = badAt (hs.drop pre.length) tl (seen ++ boxes pre) (i + pre.length)
  | [], tl, hs, seen, i, _, _, _, _ => by
    show badAt hs tl seen i = badAt (hs.drop 0) tl (seen ++ []) (i + 0)
    rw [List.drop_zero, List.append_nil, Nat.add_zero]
  | r :: rs, tl, hs, seen, i, hf, h1, h2, h3 => by
    have eb : boxes (r :: rs) = r.2 ++ boxes rs := List.flatMap_cons
    rw [eb] at h1 h2 h3 ⊢
    obtain ⟨n1, n2, n3⟩ := List.nodup_append.mp h2
    show (if (decide (hs.headD 0 < (r.2.map V.str).length) || rowBad (r.2.map V.str) seen) = true then some i else badAt hs.tail (rs.map rw_ ++ tl) (seen ++ (r.2.map V.str).map txtV) (i + 1)) = _
    have hh : hs.headD 0 = hs.getD 0 0 := by cases hs <;> rfl
    have h0 := hf 0 r rfl
    rw [decide_eq_false (by rw [hh, List.length_map]; omega), rowBad_no r.2 seen (fun z hz => h1 z (List.mem_append_left _ hz)) n1 fun z hz => h3 z (List.mem_append_left _ hz), if_neg (by simp), txt_map]
    rw [badAt_app rs tl hs.tail _ (i + 1) (fun j r' hj => ?_) (fun z hz => h1 z (List.mem_append_right _ hz)) n2 fun z hz hm => ?_]
    · rw [List.append_assoc, List.length_cons, show i + 1 + rs.length = i + (rs.length + 1) by omega]
      congr 1
      cases hs <;> simp
    · have := hf (j + 1) r' hj
      cases hs with
      | nil => exact this
      | cons a t => exact this
    · rcases List.mem_append.mp hm with hm | hm
      · exact h3 z (List.mem_append_right _ hz) hm
      · exact n3 z hm z hz rfl
theorem total_app (a b : List Rw) : total (a ++ b) = total a + total b := by
  unfold total
  rw [List.map_append, List.sum_append]
/-- a standing with its row k replaced -/
abbrev bentRows (rs : Rows) (k : Nat) (m : Rw) : List Rw := (rs.take k).map rw_ ++ m :: (rs.drop (k + 1)).map rw_
theorem bent_bad {hs : List Nat} {rs : Rows} (g : Good hs rs) {k : Nat} (hk : k < rs.length) {m : Rw} (hm : (∃ v, m = .bad v) ∨ ∃ t xs x, m = .row t (xs ++ [x]) ∧ (isNameV x = false ∨ txtV x ∈ boxes (rs.take k) ++ xs.map txtV)) : badAt hs (bentRows rs k m) [] 0 = some k := by
  have cut : boxes rs = boxes (rs.take k) ++ boxes (rs.drop k) := by rw [← List.flatMap_append, List.take_append_drop]
  have sub : (boxes (rs.take k)).Sublist (boxes rs) := by
    rw [cut]
    exact List.sublist_append_left _ _
  have hl : (rs.take k).length = k := by
    rw [List.length_take]
    omega
  unfold bentRows
  rw [badAt_app (rs.take k) _ hs [] 0 (fun j r hj => ?_) (fun z hz => g.names z (sub.subset hz)) (g.nd.sublist sub) (fun _ _ h => by cases h), hl, Nat.zero_add, List.nil_append]
  · rcases hm with ⟨v, rfl⟩ | ⟨t, xs, x, rfl, hx⟩
    · rfl
    · show (if (decide _ || rowBad (xs ++ [x]) (boxes (rs.take k))) = true then some k else _) = some k
      rw [rowBad_end hx, Bool.or_true, if_pos rfl]
  · have hj2 : j < k := by
      have := (List.getElem?_eq_some_iff.mp hj).1
      omega
    rw [List.getElem?_take_of_lt hj2] at hj
    exact g.fit j r hj
/-- a bent standing, and what is told of it -/
def BentOk (H : Hp) (hs : List Nat) (v : V) (told : Int) : Prop :=
  ((NotTup H v ∨ ∃ t xs, v = .ref t ∧ H t = some (.tup xs) ∧ xs.length ≠ hs.length) ∧ told = -1) ∨
  ∃ (t : Addr) (rs : List Rw) (k : Nat), v = .ref t ∧ H t = some (.tup (rs.map Rw.v)) ∧ rs.length = hs.length ∧ (∀ r ∈ rs, r.ok H) ∧ total rs ≤ 1000 ∧ badAt hs rs [] 0 = some k ∧ told = k
theorem bent_ok {H : Hp} {hs : List Nat} {rs : Rows} (g : Good hs rs) (hr : ∀ r ∈ rs, H r.1 = some (.tup (r.2.map V.str))) {k : Nat} (hk : k < rs.length) {m : Rw} (hm : (∃ v, m = .bad v) ∨ ∃ t xs x, m = .row t (xs ++ [x]) ∧ (isNameV x = false ∨ txtV x ∈ boxes (rs.take k) ++ xs.map txtV))
    (hmk : m.ok H) (hml : m.len ≤ 100) {t : Addr} (ht : H t = some (.tup ((bentRows rs k m).map Rw.v))) : BentOk H hs (.ref t) k := by
  have row_ok : ∀ r ∈ rs, (rw_ r).ok H := fun r hr' => by
    refine ⟨hr r hr', fun x hx => ?_⟩
    obtain ⟨z, hz, rfl⟩ := List.mem_map.mp hx
    refine ⟨rfl, fun z' e => ?_⟩
    cases e
    have := nameB_len (g.names z (List.mem_flatMap.mpr ⟨r, hr', hz⟩))
    omega
  refine .inr ⟨t, _, k, rfl, ht, ?_, fun r hr' => ?_, ?_, bent_bad g hk hm, rfl⟩
  · rw [List.length_append, List.length_cons, List.length_map, List.length_map, List.length_take, List.length_drop, ← g.len]
    omega
  · rcases List.mem_append.mp hr' with h | h
    · obtain ⟨r0, h0, rfl⟩ := List.mem_map.mp h
      exact row_ok r0 (List.mem_of_mem_take h0)
    · rcases List.mem_cons.mp h with h | h
      · rw [h]
        exact hmk
      · obtain ⟨r0, h0, rfl⟩ := List.mem_map.mp h
        exact row_ok r0 (List.mem_of_mem_drop h0)
  · have h1 : total ((rs.take k).map rw_) ≤ 24 := by
      rw [total_rows]
      have cut : boxes rs = boxes (rs.take k) ++ boxes (rs.drop k) := by rw [← List.flatMap_append, List.take_append_drop]
      have := g.few
      rw [cut, List.length_append] at this
      omega
    have h2 : total ((rs.drop (k + 1)).map rw_) ≤ 24 := by
      rw [total_rows]
      have cut : boxes rs = boxes (rs.take (k + 1)) ++ boxes (rs.drop (k + 1)) := by rw [← List.flatMap_append, List.take_append_drop]
      have := g.few
      rw [cut, List.length_append] at this
      omega
    rw [total_app]
    show _ + (m.len + total ((rs.drop (k + 1)).map rw_)) ≤ 1000
    omega
end K34
end
section
set_option linter.all false
set_option maxRecDepth 100000
/-! A standing is bent. -/
namespace K34
open PySem PySem.Spec PyProof.Rows L2 LamX SX
theorem StAt.lw {p l : Addr} {H H1 : Hp} {st : Addr} {rs : Rows} (hs : SrcAt H p l) (h : StAt H st rs) (w : Lw p l H H1) : StAt H1 st rs :=
  ⟨w.get hs h.1 fun xs z => (by cases z), fun r hr => w.get hs (h.2 r hr) fun xs z => (by cases z)⟩
theorem ift_gen {c : TT} {t e u : TS} {D : Ends} {σ : L2.St} {H : Hp} (R : Bool → Hp → Prop) (h : ∀ Q' : Bool → Hp → Prop, (∀ b H', R b H' → Q' b H') → c σ H Q') (hx : ∀ b H', R b H' → if b = true then t { D with nx := u D } σ H' else e { D with nx := u D } σ H') : tSeq (tIfS c t e) u D σ H := h _ hx
theorem bent_v (rs : Rows) (k : Nat) (m : Rw) : (bentRows rs k m).map Rw.v = ((rfs rs).take k ++ [m.v]) ++ (rfs rs).drop (k + 1) := by
  unfold bentRows
  rw [List.map_append, List.map_cons, List.map_map, List.map_map, List.append_assoc, ← List.map_take, ← List.map_drop]
  rfl
theorem Rw.ok_lw {p l : Addr} {H H' : Hp} {m : Rw} (hs : SrcAt H p l) (h : m.ok H) (hl : ∀ b, m = .bad (.ref b) → b ≠ p ∧ b ≠ l) (w : Lw p l H H') : m.ok H' := by
  cases m with
  | bad v =>
    rcases h with h | ⟨b, xs, rfl, h⟩
    · exact .inl h
    · exact .inr ⟨b, xs, rfl, w.keep _ _ h (hl b rfl).1 (hl b rfl).2⟩
  | row t xs => exact ⟨w.get hs h.1 fun xs z => (by cases z), h.2⟩
section
variable {P : Program} {w : World} {K : PySem.W.Frag} {mg : Str → Option Value} {base : Heap} {a : Ad} {e : Ae}
def spLBent : Sp := fun vs H Q _ => ∃ (p l st : Addr) (hs : List Nat) (rs : Rows), vs = [.ref p, .ref st] ∧ SrcAt H p l ∧ StAt H st rs ∧ Good hs rs ∧ 3 ≤ hs.length ∧
  ∀ H' r v (told : Int), Lw p l H H' → H' r = some (.lst [v, .int told]) → r ≠ p → r ≠ l → (∀ H'', Lw p l H' H'' → BentOk H'' hs v told) → (told = -1 ∨ ∃ k : Nat, told = k ∧ k < 100) → Q (.ref r) H'
theorem ok_LBent (T : Tx K mg a) : Ca P w K mg base CX0 3 "_law_bent" spLBent := by
  have G1 : Ca P w K mg base CX0 1 "_law_number" spLNumber := ok_LNumber T
  have G2 : Ca P w K mg base CX0 2 "_law_of" spLOf := ok_LOf T
  refine ca0 T.dLBent cLBent (fun vs H Q E h => ?_) (fun fa cdv A outer s H vs Q E hr h => ?_)
  · obtain ⟨p, l, st, hs, rs, rfl, _⟩ := h
    rfl
  · obtain ⟨p, l, st, hs, rs, rfl, hsrc, hst, g, h3, q⟩ := h
    have hu := hu_of hr
    have hu0 : (A.deeper (envOfC "_law_bent" (defScope sLBent) s.heap.objs.size fa cdv)).units < cLine := Nat.lt_of_succ_lt hu
    have nd := cLBent.nd
    refine ⟨_, pss_cons (ps_par (i := 2) (j := 3) rfl nd rfl rfl (by decide) rfl rfl (pa_cons (pe_c0 G1 hr (by decide) (by rfl) (pa_cons (pv 0) (pa_cons (pe_callB call_len_seq (by rfl) T.m_len PySem.boot_len (pa_cons (pv 1) pa_nil)) pa_nil))) (pa_cons (pe_c0 G1 hr (by decide) (by rfl) (pa_cons (pv 0) (pa_cons pe_int pa_nil))) pa_nil)) (by rfl))
      (pss_cons (ps_setLc (i := 4) (own := [("_law_stack", 6), ("_law_row", 7)]) (g := gTup K 2 (gCons (gName 6) (gCons (gName 7) gNil))) (tt := tTest (tOp (rEmp K not) (tVar 7) (tTup tNil))) (te := tVar 6) rfl nd rfl rfl (sw_true rfl rfl rfl (by decide +kernel))
          (pi_enumT (by rfl) T.m_enumerate (pa_cons (pv 1) pa_nil)) (blkOk_by (N := nLBent) (sc := defScope sLBent) (by decide +kernel))
          (fun _ _ _ _ _ => by exact pg_tup rfl (pgs_cons (pg_name (i := 6) nd rfl (Or.inl rfl)) (pgs_cons (pg_name (i := 7) nd rfl (Or.inl rfl)) pgs_nil)))
          (fun _ _ _ _ _ => by exact pts_one (pt_cmpR (op_neE hu0) (pv 7) (pe_tup pa_nil) (by rfl))) (fun _ _ _ _ _ => by exact pv 6))
      (pss_cons (ps_if (pt_cmpR op_eq (pv 3) pe_int (nomark _)) (pss_one (ps_ret (pe_lst (pa_cons (pe_callTy call_list_of (by rfl) T.m_list PyProof.Rows.boot_list (pa_cons (pv 1) pa_nil)) (pa_cons (pe_un un_neg pe_int) pa_nil))))) pss_nil)
      (pss_cons (ps_if (pt_cmpR op_eq (pv 3) pe_int (nomark _)) (pss_one (ps_ret (pe_lst (pa_cons (pe_ifExp (pt_cmpR op_eq (pv 2) pe_int (nomark _)) (pe_slice sl_tupU (pv 1) po_none (po_some (pe_un un_neg pe_int))) (pe_op op_catU (pv 1) (pe_tup (pa_cons (pe_tup pa_nil) pa_nil)))) (pa_cons (pe_un un_neg pe_int) pa_nil))))) pss_nil)
      (pss_cons (ps_if (pw_or (pt_cmpR op_eq (pv 3) pe_int (nomark _)) (pw_or1 (pt_cmpR (op_eqE hu0) (pv 4) (pe_lst pa_nil) (by rfl)))).pt
        (pss_one (ps_ret (pe_lst (pa_cons (pe_op op_catU (pe_op op_catU (pe_slice sl_tupU (pv 1) po_none (po_some (pv 2))) (pe_tup (pa_cons (pe_c0 G2 hr (by decide) (by rfl) (pa_cons (pv 0) (pa_cons
            (pe_lst (pa_cons pe_non (pa_cons (pe_callTy call_list_of (by rfl) T.m_list PyProof.Rows.boot_list (pa_cons (pe_ix ix_tup (pv 1) (pv 2) (fun _ _ => rfl)) pa_nil)) (pa_cons pe_str (pa_cons (pe_op op_catU (pe_ix ix_tup (pv 1) (pv 2) (fun _ _ => rfl)) (pe_tup (pa_cons pe_int pa_nil))) (pa_cons (pe_op op_catU (pe_ix ix_tup (pv 1) (pv 2) (fun _ _ => rfl)) (pe_tup (pa_cons pe_str pa_nil))) pa_nil)))))) pa_nil))) pa_nil))) (pe_slice sl_tupU (pv 1) (po_some (pe_op op_add (pv 2) pe_int)) po_none)) (pa_cons (pv 2) pa_nil))))) pss_nil)
      (pss_cons (ps_set (i := 5) nd rfl (.inl rfl) (pe_c0 G2 hr (by decide) (by rfl) (pa_cons (pv 0) (pa_cons (pv 4) pa_nil))))
      (pss_cons (ps_set (i := 2) nd rfl (.inl rfl) (pe_op op_add (pv 5) (pe_c0 G1 hr (by decide) (by rfl) (pa_cons (pv 0) (pa_cons (pe_op op_sub (pe_callB call_len_seq (by rfl) T.m_len PySem.boot_len (pa_cons (pv 1) pa_nil)) (pv 5)) pa_nil)))))
      (pss_one (ps_ret (pe_lst (pa_cons (pe_op op_catU (pe_op op_catU (pe_slice sl_tupU (pv 1) po_none (po_some (pv 2))) (pe_tup (pa_cons (pe_op op_catU (pe_ix ix_tup (pv 1) (pv 2) (fun _ _ => rfl)) (pe_slice sl_tupU (pe_ix ix_tup (pv 1) (pv 5) (fun _ _ => rfl)) po_none (po_some pe_int))) pa_nil))) (pe_slice sl_tupU (pv 1) (po_some (pe_op op_add (pv 2) pe_int)) po_none)) (pa_cons (pv 2) pa_nil))))))))))), ?_⟩
    have hrl : rs.length = hs.length := g.len
    have few := g.few
    have rlen24 : ∀ r ∈ rs, r.2.length ≤ 24 := fun r hr' => by
      obtain ⟨k, hk⟩ := List.getElem?_of_mem hr'
      have h1 := g.fit k r hk
      have hkl := (List.getElem?_eq_some_iff.mp hk).1
      have : hs.getD k 0 ≤ hs.sum := by
        rw [List.getD_eq_getElem?_getD, List.getElem?_eq_getElem (by omega)]
        exact mem_sum (List.getElem_mem _)
      have := g.sum
      omega
    have many := g.many
    refine ⟨.ref p, rfl, .ref st, rfl, st, _, rfl, .inr (.of hst.1), p, l, rs.length, args2 (by rw [List.length_map]), hsrc, by omega, by omega, fun H1 at0 w1 hat => ?_⟩
    refine ⟨.ref p, rfl, p, l, 5, rfl, w1.src, by decide, by decide, fun H2 form w2 hform => ?_⟩
    have w2 := w1.trans w2
    have hst2 := hst.lw hsrc w2
    refine ⟨_, _, rfl, .ref st, rfl, st, _, rfl, .of hst2.1, fun D hD => ?_⟩
    refine lc_it (walk_enumM (l := rs) (f := fun r => V.ref r.1)) (fun j H' => ∃ as : List Nat, LcS H2 D (as.map natV) H' ∧ as.length ≤ j ∧ ∀ a ∈ as, a < j ∧ ∃ r, rs[a]? = some r ∧ r.2 ≠ []) ⟨[], LcS.zero hD, Nat.le_refl _, fun a ha => (by cases ha)⟩ (fun j H' _ h => h.elim fun _ h => .of (h.1.1 _ _ hst2.1)) ?_ ?_
    · rintro j x H3 H4 hj ⟨as, c, hal, ham⟩ ⟨T1, r, rfl, hT, rfl, hrj⟩
      refine ⟨T1, _, rfl, .of upd_same, rfl, .int j, [.ref r.1], rfl, .ref r.1, [], rfl, rfl, ?_⟩
      have c5 : LcS H2 D (as.map natV) (upd H3 T1 (.tup [.int ((j : Nat) : Int), .ref r.1])) := c.to (same_new hT)
      generalize upd H3 T1 (.tup [.int ((j : Nat) : Int), .ref r.1]) = H5 at c5 ⊢
      refine ⟨rfl, .ref r.1, rfl, Nat.zero_le _, fun t0 ht0 => ?_⟩
      have hrr := c5.1 _ _ (hst2.2 r (List.mem_of_getElem? hrj))
      refine ⟨r.1, t0, r.2.map V.str, rfl, rfl, .inr ⟨.of (same_new ht0 _ _ hrr), .of upd_same⟩, _, rfl, ite2 (fun hne => ?_) (fun _ => ?_)⟩
      · obtain ⟨acc, a1, a2, a3⟩ := LcS.step (y := natV j) hD c5 (same_new (o := .tup []) ht0) (by rw [List.length_map]; exact small1000 (by omega)) rfl
        refine ⟨natV j, rfl, acc, a1, a2, as ++ [j], by rw [List.map_append]; exact a3, by rw [List.length_append]; show as.length + 1 ≤ _; omega, fun a ha => ?_⟩
        rcases List.mem_append.mp ha with h | h
        · exact ⟨Nat.lt_succ_of_lt (ham a h).1, (ham a h).2⟩
        · rw [List.mem_singleton.mp h]
          refine ⟨Nat.lt_succ_self _, r, hrj, fun e => ?_⟩
          rw [e] at hne
          cases hne
      · exact ⟨as, c5.to (same_new ht0), by omega, fun a ha => ⟨Nat.lt_succ_of_lt (ham a ha).1, (ham a ha).2⟩⟩
    · rintro H3 ⟨as, c, hal, ham⟩
      obtain ⟨s3, D3⟩ := c
      have w3 := w2.same s3
      have hst3 := hst.lw hsrc w3
      obtain ⟨Dp', Dl⟩ := hsrc.new (w2.free hD)
      have q2 : ∀ (H' : Hp) (r : Addr) (v : V) (told : Int), Lw p l H H' → H' r = none → (∀ H'', Lw p l H' H'' → BentOk H'' hs v told) → (told = -1 ∨ ∃ k : Nat, told = k ∧ k < 100) → Q (.ref r) (upd H' r (.lst [v, .int told])) := fun H' r v told w' hr' hb ht => by
        obtain ⟨r1, r2⟩ := w'.src.new hr'
        have s' := same_new (o := .lst [v, .int told]) hr'
        exact q _ r v told (w'.same s') upd_same r1 r2 (fun H'' w'' => hb H'' ((Lw.of w'.src s').trans w'')) ht
      refine ⟨.int form, rfl, rfl, _, rfl, ite2 (fun _ => ?_) (fun _ => ?_)⟩
      · refine ⟨.ref st, rfl, st, _, rfl, .inr (.of hst3.1), fun la hla => ?_⟩
        refine ⟨1, rfl, (by show 2 ≤ sizeLine; decide), fun r hr' => ?_⟩
        exact q2 _ r _ (-1) (w3.same (same_new hla)) hr' (fun H'' w'' => .inl ⟨.inl (.inr ⟨la, _, rfl, w''.keep _ _ upd_same (w3.src.new hla).1 (w3.src.new hla).2⟩), rfl⟩) (.inl rfl)
      refine ⟨.int form, rfl, rfl, _, rfl, ite2 (fun _ => ?_) (fun _ => ?_)⟩
      · have fin1 : ∀ (H' : Hp) (t : Addr) (xs : List V), Lw p l H H' → H' t = some (.tup xs) → xs.length ≠ hs.length → ∀ r, H' r = none → Q (.ref r) (upd H' r (.lst [.ref t, .int (-1)])) := fun H' t xs w' ht hx r hr' =>
          q2 H' r _ (-1) w' hr' (fun H'' w'' => .inl ⟨.inr ⟨t, xs, rfl, w''.get w'.src ht (fun xs z => by cases z), hx⟩, rfl⟩) (.inl rfl)
        refine ⟨.int at0, rfl, rfl, _, rfl, ite2 (fun _ => ?_) (fun _ => ?_)⟩
        · refine ⟨.ref st, rfl, 1, rfl, -1, rfl, st, _, rfl, hst3.1, fun pa H4 s4 hpa => ?_⟩
          refine ⟨1, rfl, (by show 2 ≤ sizeLine; decide), fin1 H4 pa _ (w3.same s4) hpa ?_⟩
          rw [cut_last, List.length_take, List.length_map]
          omega
        · refine ⟨.ref st, rfl, Nat.zero_le _, fun t0 ht0 => ⟨(by show 1 ≤ sizeLine; decide), fun t1 ht1 => ?_⟩⟩
          have s5 := (same_new (o := .tup []) ht0).trans (same_new (o := .tup [.ref t0]) ht1)
          refine ⟨st, t1, _, _, rfl, rfl, s5 _ _ hst3.1, upd_same, by rw [List.length_map]; show rs.length + 1 ≤ 1000; omega, fun pc H4 s4 hpc => ?_⟩
          refine ⟨1, rfl, (by show 2 ≤ sizeLine; decide), fin1 H4 pc _ (w3.same (s5.trans s4)) hpc ?_⟩
          rw [List.length_append, List.length_map]
          show rs.length + 1 ≠ _
          omega
      -- the row is laid into the standing
      have fin : ∀ (H6 : Hp) (k : Nat) (m : Rw) (pa : Addr) (σ : L2.St), σ[1]? = some (some (.ref st)) → σ[2]? = some (some (.int (k : Nat))) → Lw p l H H6 → H6 pa = some (.tup ((rfs rs).take k)) → k < rs.length → m.ok H6 → (∀ b, m = .bad (.ref b) → b ≠ p ∧ b ≠ l) → m.len ≤ 100 →
          ((∃ v, m = .bad v) ∨ ∃ t xs x, m = .row t (xs ++ [x]) ∧ (isNameV x = false ∨ txtV x ∈ boxes (rs.take k) ++ xs.map txtV)) →
          ∀ tm, H6 tm = none → rCatU (.ref pa) (.ref tm) (upd H6 tm (.tup [m.v])) fun x H7 => tSl rSlU (tVar 1) (tPart (tOp (rI0 fun i j => V.int (i + j)) (tVar 2) (tC (.int 1)))) tNoPart σ H7 fun y H8 => rCatU x y H8 fun z H9 => tCons (tVar 2) tNil σ H9 fun xs H10 =>
            (z :: xs).length ≤ sizeLine ∧ ∀ r, H10 r = none → Q (.ref r) (upd H10 r (.lst (z :: xs))) := by
        intro H6 k m pa σ e1 e2 w6 hpa hk hmok hmb hml hm tm htm
        have s7 := same_new (o := .tup [m.v]) htm
        have hmt : upd H6 tm (.tup [m.v]) tm = some (.tup [m.v]) := upd_same
        generalize upd H6 tm (.tup [m.v]) = H7 at s7 hmt ⊢
        have htl := List.length_take_le' k (rfs rs)
        have hrf : (rfs rs).length = rs.length := List.length_map _
        refine ⟨pa, tm, _, _, rfl, rfl, s7 _ _ hpa, hmt, by show _ + 1 ≤ 1000; omega, fun pe H8 s8 hpe => ?_⟩
        have w8 := (w6.same s7).same s8
        have hst8 := hst.lw hsrc w8
        refine ⟨_, e1, _, e2, k, 1, rfl, rfl, _, rfl, st, _, rfl, hst8.1, fun pf H9 s9 hpf => ?_⟩
        rw [show ((k : Nat) : Int) + 1 = ((k + 1 : Nat) : Int) by omega, cut_drop] at hpf
        refine ⟨pe, pf, _, _, rfl, rfl, s9 _ _ hpe, hpf, ?_, fun t H10 s10 ht => ?_⟩
        · have hdl : ((rfs rs).drop (k + 1)).length ≤ rs.length := by
            rw [List.length_drop, hrf]
            omega
          rw [List.length_append]
          show (List.take k (rfs rs)).length + 1 + (List.drop (k + 1) (rfs rs)).length ≤ 1000
          omega
        · refine ⟨_, e2, (by show 2 ≤ sizeLine; decide), fun r hr' => ?_⟩
          have w10 := (w8.same s9).same s10
          refine q2 H10 r (.ref t) k w10 hr' (fun H'' w'' => bent_ok g (hst.lw hsrc (w10.trans w'')).2 hk hm (Rw.ok_lw w10.src (Rw.ok_same (Rw.ok_same (Rw.ok_same (Rw.ok_same hmok s7) s8) s9) s10) hmb w'') hml ?_) (.inr ⟨k, rfl, by omega⟩)
          rw [bent_v]
          exact w''.get w10.src ht (fun xs z => by cases z)
      have hkr : ∀ k, k < rs.length → ∃ r, rs[k]? = some r ∧ r ∈ rs := fun k hk => ⟨rs[k], List.getElem?_eq_getElem hk, List.getElem_mem hk⟩
      unfold tNext
      dsimp only
      refine ift_gen (fun b H' => Same H3 H' ∧ (b = false → as ≠ [])) (fun Q' hQ => ?_) ?_
      · refine ⟨.int form, rfl, rfl, _, rfl, ite2 (fun _ => hQ _ _ ⟨Same.refl _, fun z => by cases z⟩) (fun _ => ?_)⟩
        refine ⟨.ref D, rfl, Nat.zero_le _, fun E0 hE0 => ?_⟩
        have s4 := same_new (o := .lst []) hE0
        refine ⟨D, E0, as.map natV, rfl, rfl, .inl ⟨.of (s4 _ _ D3), .of upd_same⟩, _, rfl, hQ _ _ ⟨s4, fun z e => ?_⟩⟩
        rw [e] at z
        cases z
      rintro b H4 ⟨s4, hb⟩
      have w4 := w3.same s4
      have hst4 := hst.lw hsrc w4
      have D4 := s4 _ _ D3
      cases b with
      | true =>
        refine iteT ?_
        obtain ⟨row, hrow, hrm⟩ := hkr at0 hat
        have hrow24 := rlen24 row hrm
        have hati : ∀ {H' : Hp}, atI (rs.map fun r => V.ref r.1) ((at0 : Nat) : Int) = some (.ref row.1) := fun {H'} => atI_nat (by rw [List.getElem?_map, hrow]; rfl)
        refine ⟨.ref st, rfl, .int at0, rfl, at0, rfl, st, _, rfl, hst4.1, fun pa H5 s5 hpa => ?_⟩
        rw [cut_take] at hpa
        have w5 := w4.same s5
        have hst5 := hst.lw hsrc w5
        refine ⟨.ref p, rfl, .ref st, rfl, .int at0, rfl, st, _, at0, .ref row.1, rfl, rfl, .of hst5.1, hati (H' := H5), row.1, _, rfl, .inr (.of (hst5.2 row hrm)), fun la hla => ?_⟩
        have s6 := same_new (o := .lst (row.2.map V.str)) hla
        have la6 : upd H5 la (.lst (row.2.map V.str)) la = some (.lst (row.2.map V.str)) := upd_same
        generalize upd H5 la (.lst (row.2.map V.str)) = H6 at s6 la6 ⊢
        have w6 := w5.same s6
        have hst6 := hst.lw hsrc w6
        refine ⟨.ref st, rfl, .int at0, rfl, st, _, at0, .ref row.1, rfl, rfl, .of hst6.1, hati (H' := H6), (by show 1 ≤ sizeLine; decide), fun t7 ht7 => ?_⟩
        have s7 := same_new (o := .tup [.int 7]) ht7
        refine ⟨row.1, t7, _, _, rfl, rfl, s7 _ _ (hst6.2 row hrm), upd_same, by rw [List.length_map]; show _ + 1 ≤ 1000; omega, fun pc H8 s8 hpc => ?_⟩
        have w8 := (w6.same s7).same s8
        have hst8 := hst.lw hsrc w8
        have la8 := s8 _ _ (s7 _ _ la6)
        refine ⟨.ref st, rfl, .int at0, rfl, st, _, at0, .ref row.1, rfl, rfl, .of hst8.1, hati (H' := H8), (by show 1 ≤ sizeLine; decide), fun t9 ht9 => ?_⟩
        have s9 := same_new (o := .tup [.str "A"]) ht9
        refine ⟨row.1, t9, _, _, rfl, rfl, s9 _ _ (hst8.2 row hrm), upd_same, by rw [List.length_map]; show _ + 1 ≤ 1000; omega, fun pd H10 s10 hpd => ?_⟩
        have w10 := (w8.same s9).same s10
        have la10 := s10 _ _ (s9 _ _ la8)
        have hpc10 := s10 _ _ (s9 _ _ hpc)
        refine ⟨(by show 5 ≤ sizeLine; decide), fun b hb => ?_⟩
        have s11 := same_new (o := .lst [.non, .ref la, .str "a", .ref pc, .ref pd]) hb
        have w11 := w10.same s11
        obtain ⟨b1, b2⟩ := w10.src.new hb
        refine ⟨p, l, .ref b, rfl, w11.src, .inl ⟨b, _, rfl, upd_same, b1, b2, List.cons_ne_nil _ _, (by show 5 < 1000; decide), fun H12 j v w12 hv => ?_⟩⟩
        have la12 := w12.keep _ _ (s11 _ _ la10) (w5.src.new hla).1 (w5.src.new hla).2
        have hpc12 := w12.get w11.src (s11 _ _ hpc10) (fun xs z => by cases z)
        have hpd12 := w12.get w11.src (s11 _ _ hpd) (fun xs z => by cases z)
        have hpa12 := w12.get w11.src (s11 _ _ (s10 _ _ (s9 _ _ (s8 _ _ (s7 _ _ (s6 _ _ hpa)))))) (fun xs z => by cases z)
        have w12 := w11.trans w12
        have rowflat : ∀ x ∈ row.2.map V.str, flatV x = true ∧ ∀ z, x = .str z → z.length ≤ 1000 := fun x hx => by
          obtain ⟨z, hz, rfl⟩ := List.mem_map.mp hx
          refine ⟨rfl, fun z' e => ?_⟩
          cases e
          have := nameB_len (g.names z (List.mem_flatMap.mpr ⟨row, hrm, hz⟩))
          omega
        have rowok : ∀ (t : Addr) (x : V), H12 t = some (.tup (row.2.map V.str ++ [x])) → flatV x = true → (∀ z, x = .str z → z.length ≤ 1000) → (Rw.row t (row.2.map V.str ++ [x])).ok H12 := fun t x h1 h2 h3 => by
          refine ⟨h1, fun y hy => ?_⟩
          rcases List.mem_append.mp hy with h | h
          · exact rowflat y h
          · rw [List.mem_singleton.mp h]
            exact ⟨h2, h3⟩
        have rowlen : ∀ (t : Addr) (x : V), (Rw.row t (row.2.map V.str ++ [x])).len ≤ 100 := fun t x => by
          show (row.2.map V.str ++ [x]).length ≤ 100
          rw [List.length_append, List.length_map]
          show _ + 1 ≤ 100
          omega
        have := List.mem_of_getElem? hv
        simp only [List.mem_cons, List.not_mem_nil, or_false] at this
        rcases this with rfl | rfl | rfl | rfl | rfl
        · exact ⟨(by show 1 ≤ sizeLine; decide), fin H12 at0 (.bad .non) pa _ rfl rfl w12 hpa12 hat (.inl rfl) (fun b z => by cases z) (Nat.zero_le _) (.inl ⟨_, rfl⟩)⟩
        · exact ⟨(by show 1 ≤ sizeLine; decide), fin H12 at0 (.bad (.ref la)) pa _ rfl rfl w12 hpa12 hat (.inr ⟨la, _, rfl, la12⟩) (fun b z => by cases z; exact w5.src.new hla) (Nat.zero_le _) (.inl ⟨_, rfl⟩)⟩
        · exact ⟨(by show 1 ≤ sizeLine; decide), fin H12 at0 (.bad (.str "a")) pa _ rfl rfl w12 hpa12 hat (.inl rfl) (fun b z => by cases z) (Nat.zero_le _) (.inl ⟨_, rfl⟩)⟩
        · exact ⟨(by show 1 ≤ sizeLine; decide), fin H12 at0 (.row pc (row.2.map V.str ++ [.int 7])) pa _ rfl rfl w12 hpa12 hat (rowok pc _ hpc12 rfl fun z e => by cases e) (fun b z => by cases z) (rowlen _ _) (.inr ⟨_, _, _, rfl, .inl rfl⟩)⟩
        · exact ⟨(by show 1 ≤ sizeLine; decide), fin H12 at0 (.row pd (row.2.map V.str ++ [.str "A"])) pa _ rfl rfl w12 hpa12 hat (rowok pd _ hpd12 rfl fun z e => by cases e; decide) (fun b z => by cases z) (rowlen _ _) (.inr ⟨_, _, _, rfl, .inl (by decide)⟩)⟩
      | false =>
        refine iteF ?_
        have has := hb rfl
        refine ⟨.ref p, rfl, .ref D, rfl, p, l, .ref D, rfl, w4.src, .inl ⟨D, _, rfl, D4, Dp', Dl, fun z => has (List.map_eq_nil_iff.mp z), by rw [List.length_map]; omega, fun H5 j v w5 hv => ?_⟩⟩
        obtain ⟨low, hlow, rfl⟩ := List.mem_map.mp (List.mem_of_getElem? hv)
        obtain ⟨hlow1, lrow, hlrow, hlne⟩ := ham low hlow
        have w5 := w4.trans w5
        have hst5 := hst.lw hsrc w5
        refine ⟨.int low, rfl, .ref p, rfl, .ref st, rfl, st, _, rfl, .inr (.of hst5.1), .int low, rfl, _, low, rfl, rfl, p, l, rs.length - low, args2 (by rw [List.length_map]; omega), w5.src, by omega, by omega, fun H6 k2 w6 hk2 => ⟨low, k2, rfl, rfl, ?_⟩⟩
        have w6 := w5.trans w6
        have hst6 := hst.lw hsrc w6
        obtain ⟨k, hk⟩ : ∃ k : Nat, k = low + k2 := ⟨_, rfl⟩
        have ek : ((low : Nat) : Int) + ((k2 : Nat) : Int) = ((k : Nat) : Int) := by omega
        have hkl : k < rs.length := by omega
        obtain ⟨row, hrow, hrm⟩ := hkr k hkl
        have hlm := List.mem_of_getElem? hlrow
        have hrow24 := rlen24 row hrm
        rw [show (fun i j : Int => V.int (i + j)) ((low : Nat) : Int) ((k2 : Nat) : Int) = V.int ((k : Nat) : Int) from congrArg V.int ek]
        refine ⟨.ref st, rfl, .int k, rfl, k, rfl, st, _, rfl, hst6.1, fun pa H7 s7 hpa => ?_⟩
        rw [cut_take] at hpa
        have w7 := w6.same s7
        have hst7 := hst.lw hsrc w7
        refine ⟨.ref st, rfl, .int k, rfl, st, _, k, .ref row.1, rfl, rfl, .of hst7.1, atI_nat (by rw [List.getElem?_map, hrow]; rfl), .ref st, rfl, .int low, rfl, st, _, low, .ref lrow.1, rfl, rfl, .of hst7.1, atI_nat (by rw [List.getElem?_map, hlrow]; rfl), 1, rfl, lrow.1, _, rfl, hst7.2 lrow hlm, fun pb H8 s8 hpb => ?_⟩
        rw [show (1 : Int) = ((1 : Nat) : Int) from rfl, cut_take] at hpb
        obtain ⟨z0, zr, ez⟩ : ∃ z0 zr, lrow.2 = z0 :: zr := by
          cases h : lrow.2 with
          | nil => exact absurd h hlne
          | cons z0 zr => exact ⟨z0, zr, rfl⟩
        rw [ez] at hpb
        have hpb : H8 pb = some (.tup [.str z0]) := hpb
        have w8 := w7.same s8
        have hst8 := hst.lw hsrc w8
        refine ⟨row.1, pb, _, _, rfl, rfl, hst8.2 row hrm, hpb, by rw [List.length_map]; show _ + 1 ≤ 1000; omega, fun pc H9 s9 hpc => ?_⟩
        have w9 := w8.same s9
        have hz0 : z0 ∈ lrow.2 := by
          rw [ez]
          exact List.mem_cons_self
        refine ⟨(by show 1 ≤ sizeLine; decide), fin H9 k (.row pc (row.2.map V.str ++ [.str z0])) pa _ rfl rfl w9 (s9 _ _ (s8 _ _ hpa)) hkl ⟨hpc, fun y hy => ?_⟩ (fun b z => by cases z) ?_ (.inr ⟨_, _, _, rfl, .inr ?_⟩)⟩
        · have : ∃ z, y = .str z ∧ z ∈ boxes rs := by
            rcases List.mem_append.mp hy with h | h
            · obtain ⟨z, hz, rfl⟩ := List.mem_map.mp h
              exact ⟨z, rfl, List.mem_flatMap.mpr ⟨row, hrm, hz⟩⟩
            · rw [List.mem_singleton.mp h]
              exact ⟨z0, rfl, List.mem_flatMap.mpr ⟨lrow, hlm, hz0⟩⟩
          obtain ⟨z, rfl, hz⟩ := this
          refine ⟨rfl, fun z' e => ?_⟩
          cases e
          have := nameB_len (g.names z hz)
          omega
        · show (row.2.map V.str ++ [V.str z0]).length ≤ 100
          rw [List.length_append, List.length_map]
          show _ + 1 ≤ 100
          omega
        · show z0 ∈ boxes (rs.take k) ++ (row.2.map V.str).map txtV
          rw [txt_map]
          by_cases h : low < k
          · refine List.mem_append_left _ (List.mem_flatMap.mpr ⟨lrow, ?_, hz0⟩)
            refine List.mem_of_getElem? (i := low) ?_
            rw [List.getElem?_take_of_lt h]
            exact hlrow
          · have : k = low := by omega
            rw [this, hlrow] at hrow
            cases hrow
            exact List.mem_append_right _ hz0
end
end K34
end
section
set_option linter.all false
set_option maxRecDepth 100000
/-! try with several clauses that name what they catch. -/
namespace K34
open PySem PySem.Spec PyProof.Rows L2
abbrev Cl1 : Type := Value × Nat × (Addr → Value → Option Addr → TS)
/-- an end of a clause: its name's slot goes -/
def dropI (D : Ends) (i : Nat) : Ends := { nx := fun σ' H' => D.nx (σ'.set i none) H', rt := D.rt, bk := fun σ' H' => D.bk (σ'.set i none) H', ct := fun σ' H' => D.ct (σ'.set i none) H' }
/-- what the clauses wish, each in its turn -/
def wNamed (K : PySem.W.Frag) (D : Ends) : List Cl1 → WX
  | [] => fun _ _ _ _ => False
  | (c, i, ts) :: r => fun cls d σ H => ∃ b, PySem.W.exmOne K cls c = some b ∧ (b = true → ∀ a, H a = none → ts a cls d (dropI D i) (σ.set i (some (.ref a))) H) ∧ (b = false → wNamed K D r cls d σ H)
inductive HdsAs (X : Cx) : List ExceptHandler → List Cl1 → Prop
  | nil : HdsAs X [] []
  | cons {x n : Str} {c : Value} {i : Nat} {ts : Addr → Value → Option Addr → TS} {b0 : Stmt} {suite : List Stmt} {np pos' : Pos} {hds : List ExceptHandler} {l : List Cl1} (hc : Names X x c) (hi : X.N[i]? = some n) (hln : X.env.kindOf n = some .local)
      (hsu : ∀ (a : Addr) (oe : Obj) (cls : Value) (d : Option Addr) (pn : List (Addr × Obj)), Zc cls d oe → (∃ vs, oe.data = .fields vs) → PSs (X.suite a ((a, oe) :: pn)) (b0 :: suite) (ts a cls d)) (r : HdsAs X hds l) :
      HdsAs X (.ExceptHandler (some (.Name x np)) (some n) (b0 :: suite) pos' :: hds) ((c, i, ts) :: l)
theorem ps_try_named {X : Cx} {body : List Stmt} {hd0 : ExceptHandler} {hds : List ExceptHandler} {l : List Cl1} {pos : Pos} {tb : WX → TS} (hs : X.stack = X.env :: X.outer) (hf : X.env.frame = some X.env.locals) (hN : X.N.Nodup)
    (hb : ∀ (W : WX) (pn : List (Addr × Obj)) (xe : Value → Shared → Prop), Takes (X.tr pn xe) W → PSs (X.tr pn xe) body (tb W)) (hh : HdsAs X (hd0 :: hds) l) :
    PS X (.Try body (hd0 :: hds) [] [] pos) (fun D σ H => tb (wNamed X.K D l) D σ H) := by
  refine ⟨fun pins s σ H D I h => ?_⟩
  have ok := I.ok
  have hfr : X.A.frames = some (X.env :: X.outer) := by rw [ok.frames, hs]
  refine wpAny_Try_except (wpAny_mono ((hb (wNamed X.K D l) (X.pn ++ pins) (fun e s1 => wpAny (model X.prog X.w) X.A (noteFrame e X.env) (fun _ s2 => wpAny (model X.prog X.w) X.A (setFlight e none) (fun _ s3 =>
    wpAny (model X.prog X.w) X.A (handleBy e X.env (hd0 :: hds)) (SP X pins D) X.xe s3) X.xe s2) X.xe s1) (fun u s' xx => ?_)).run [] s σ H D (I.toTry _) h) (fun f s1 hsp => ?_) (fun e s1 he => he))
  · obtain ⟨a, B, sI, pins', σ', H', cls, d, rfl, J0, nb, up, sky, na, os, ag, w⟩ := xx
    have J : Inv X pins σ' H' sI := J0.ofTry ok
    have sky' : Sky B (X.env :: X.outer) a (Zc cls d) X.env.locals s'.heap := by rw [← hs]; exact sky
    show wpAny (model X.prog X.w) X.A (noteFrame (.ref a) X.env) _ _ _
    refine Sky.land Zc.steady hfr hf sky' fun h3 fl3 up3 => ?_
    have J3 : Inv X pins σ' H' { s' with heap := h3 } := J.landed nb fl3.1 (up.trans up3) os ag
    obtain ⟨oe3, vs3, he3, hz3, hd3⟩ := fl3.there
    have nfr : a ∉ frs (X.env :: X.outer) := fun hm => by
      obtain ⟨_, o', e', hnf⟩ := fl3.2.2.1.mem hm
      rw [he3] at e'
      cases e'
      exact hnf _ hd3
    have nL : a ≠ X.env.locals := fun z => nfr (List.mem_filterMap.mpr ⟨X.env, List.mem_cons_self, by rw [hf, z]⟩)
    have nF : a ∉ X.fs := fun hm => by
      obtain ⟨e, he, q⟩ := List.mem_filterMap.mp hm
      exact nfr (List.mem_filterMap.mpr ⟨e, List.mem_cons_of_mem _ he, q⟩)
    have S3 := J3.suite he3 hd3 na nL nF
    have go : ∀ {hds' : List ExceptHandler} {l' : List Cl1}, HdsAs X hds' l' → wNamed X.K D l' cls d σ' H' → wpAny (model X.prog X.w) X.A (handleBy (.ref a) X.env hds') (SP X pins D) X.xe { s' with heap := h3 } := by
      intro hds' l' hk
      induction hk with
      | nil => exact fun w => w.elim
      | @cons x n c i ts b0 suite np pos' hds2 l2 hc hi hln hsu r ih =>
        intro w
        obtain ⟨b, hb1, hyes, hno⟩ := w
        refine wpAny_handleBy_cons (codeAny_handlers_test ?_) (by intro q; cases q)
        have LT : PySem.W.Looks (model X.prog X.w) h3 (typeOf (.ref a)) cls := fun A Q E s k q => wpAny_typeOf_ref (k _ _ he3) (by rw [hz3.1]; exact q)
        have LM := PySem.W.exm_one (M := model X.prog X.w) (J3.kIn) LT hb1
        have test : ∀ {Q : Value → Shared → Prop} {E : Value → Shared → Prop}, Q c { s' with heap := h3 } → wpAny (model X.prog X.w) (X.A.mark (some (.ref a))) (eval (.Name x np) X.env) Q E { s' with heap := h3 } := fun {Q E} q => by
          obtain ⟨hg, hdbg, hm | ⟨hm, hv, hnn⟩⟩ := hc
          · exact ld_glob (X := X.suite a ((a, oe3) :: (X.pn ++ pins))) S3 hg hm q hdbg
          · exact ld_blt (X := X.suite a ((a, oe3) :: (X.pn ++ pins))) S3 hg hm hv q hnn hdbg
        refine test (LM.here ?_)
        cases b with
        | false =>
          show wpAny _ X.A (handleBy (.ref a) X.env hds2) _ _ _
          exact ih (hno rfl)
        | true =>
          refine codeAny_handlers_suite_as (HandSPX.lands_againZ fl3 fun h4 fl4 up4 => ?_)
          have J4 : Inv X pins σ' H' { s' with heap := h4 } := J.landed nb fl4.1 ((up.trans up3).trans up4) os ag
          obtain ⟨oe4, vs4, he4, hz4, hd4⟩ := fl4.there
          refine store_ok (X := X.suite a ((a, oe4) :: (X.pn ++ pins))) (v := .ref a) (J4.suite he4 hd4 na nL nF) hN hi (.inl hln) rfl (fun s5 S5 => ?_) (.inr hln)
          refine wpAny_mono ((hsu a oe4 cls d (X.pn ++ pins) hz4 ⟨_, hd4⟩).run [] s5 _ H' _ S5 (hyes rfl a na)) (fun f s6 hsp => ?_) (fun _ _ z => False.elim z)
          have gone : ∀ {σ6 : L2.St} {H6 : Hp} {Q : Shared → Prop}, Inv (X.suite a ((a, oe4) :: (X.pn ++ pins))) [] σ6 H6 s6 → (∀ s7, Inv X pins (σ6.set i none) H6 s7 → Q s7) →
              wpAny (model X.prog X.w) X.A (do bindName X.env n .none; unbindBehindTheSuite X.env n pos') (fun _ s7 => Q s7) X.xe s6 := fun {σ6 H6 Q} S6 hq => gone_ok (S6.unsuite ok) hN hi hln hq
          cases f with
          | ret u =>
            obtain ⟨v6, σ6, H6, S6, r6, q6⟩ := hsp
            exact gone S6 fun s7 J7 => ⟨_, _, _, J7, r6, q6⟩
          | next =>
            obtain ⟨σ6, H6, S6, q6⟩ := hsp
            exact gone S6 fun s7 J7 => ⟨_, _, J7, q6⟩
          | brk =>
            obtain ⟨σ6, H6, S6, q6⟩ := hsp
            exact gone S6 fun s7 J7 => ⟨_, _, J7, q6⟩
          | cont =>
            obtain ⟨σ6, H6, S6, q6⟩ := hsp
            exact gone S6 fun s7 J7 => ⟨_, _, J7, q6⟩
    exact go hh w
  · cases f with
    | ret u =>
      obtain ⟨v, σ', H', J', r, q⟩ := hsp
      exact ⟨v, σ', H', J'.ofTry ok, r, q⟩
    | next =>
      obtain ⟨σ', H', J', q⟩ := hsp
      exact wpAny_execs_nil ⟨σ', H', J'.ofTry ok, q⟩
    | brk =>
      obtain ⟨σ', H', J', q⟩ := hsp
      exact ⟨σ', H', J'.ofTry ok, q⟩
    | cont =>
      obtain ⟨σ', H', J', q⟩ := hsp
      exact ⟨σ', H', J'.ofTry ok, q⟩
end K34
end
section
set_option linter.all false
set_option maxRecDepth 100000
/-! What goes wrong, told. -/
namespace K34
open PySem PySem.Spec PyProof.Rows L2 LamX SX
/-- what is told of what went wrong -/
def DutTold : Dut → Option (V × V)
  | .ok _ => none
  | .name z => some (.str "name", .str z)
  | .refused => some (.str "refused", .str "dues")
  | .size => some (.str "size", .str "due")
def tsX (C : Addr) (f word : Str) : Addr → Value → Option Addr → TS := fun a cls d => tRet (tLst (tCons (tC (.str word)) (tCons (tXf a cls d C f (tVar 4)) tNil)))
def wl (e : Ae) : List Cl1 := [(.ref e.S, 4, tsX e.S "at" "standing"), (.ref e.N, 4, tsX e.N "name" "name"), (.ref e.Z, 4, tsX e.Z "word" "size"), (.ref e.R, 4, tsX e.R "word" "refused")]
theorem ts_out {C : Addr} {f word : Str} {x0 x1 x2 x3 x4 : Option V} {u : V} {D : Ends} {H : Hp} {a d : Addr} (hd : H d = some (.xd [(f, u)])) (q : ∀ r, H r = none → D.rt (.ref r) (upd H r (.lst [.str word, u]))) :
    tsX C f word a (.ref C) (some d) (dropI D 4) ([x0, x1, x2, x3, x4].set 4 (some (.ref a))) H :=
  ⟨.ref a, rfl, rfl, rfl, d, _, u, rfl, hd, by simp [List.lookup], (by show 2 ≤ sizeLine; decide), q⟩
section
variable {P : Program} {w : World} {K : PySem.W.Frag} {mg : Str → Option Value} {base : Heap} {a : Ad} {e : Ae}
theorem bent_ns {H : Hp} {y : Addr} {hs : List Nat} {v : V} {told : Int} {Q : VK} {E : XK} (hy : YardAt a H y hs) (hb : BentOk H hs v told) (q : ∀ d H', Same H H' → H d = none → H' d = some (.xd [("at", .int told)]) → E (.ref e.S) (some d) H') : spNeedStanding a e [.ref y, v] H Q E := by
  refine ⟨y, v, hs, rfl, hy, ?_⟩
  rcases hb with ⟨h, rfl⟩ | ⟨t, rs, k, e1, e2, e3, e4, e5, e6, rfl⟩
  · exact .inl ⟨h, q⟩
  · exact .inr ⟨t, rs, e1, e2, e3, e4, e5, fun z => (by rw [e6] at z; cases z), fun i hi => by
      rw [e6] at hi
      cases hi
      exact q⟩
def spLWrong (a : Ad) : Sp := fun vs H Q _ => ∃ (k : Nat) (y dt : Addr) (v : V) (hs : List Nat) (kd wh : V), vs = [.int k, .ref y, v, .ref dt] ∧ YardAt a H y hs ∧
  ((∃ told, BentOk H hs v told ∧ kd = .str "standing" ∧ wh = .int told) ∨ ∃ (st : Addr) (rs : Rows) (ps : Dues), v = .ref st ∧ StAt H st rs ∧ Good hs rs ∧ DuesAt H dt ps ∧ ps.length ≤ 1000 ∧ DutTold (runDues (boxes rs) (ps.map (·.2)) []) = some (kd, wh)) ∧
  ∀ H' r, Same H H' → H' r = some (.lst [kd, wh]) → Q (.ref r) H'
theorem ok_LWrong (T : Tx K mg a) (T2 : Tx2 P K mg e) {c TP : Addr} (D : DfC K mg "urgent_order" sUrgentOrder ["waits", "table"] c) (TB : TabB base mg c TP) : Ca P w K mg base CX0 7 "_law_wrong" (spLWrong a) := by
  have G1 : Ca P w K mg base (L2.CX P w) 6 "due_order" (spDueOrder a e TP) := (ok_DueOrder T T2 D TB).ca
  have G2 : Ca P w K mg base (L2.CX P w) 6 "check_dues" (spCheckDues K a e) := (ok_CheckDues T T2).ca
  refine ca0 T.dLWrong cLWrong (fun vs H Q E h => ?_) (fun f cdv A outer s H vs Q E hr h => ?_)
  · obtain ⟨k, y, dt, v, hs, kd, wh, rfl, _⟩ := h
    rfl
  · obtain ⟨k, y, dt, v, hs, kd, wh, rfl, hy, hc, q⟩ := h
    have nd := cLWrong.nd
    obtain ⟨_, _, XS⟩ := T2.xS
    obtain ⟨_, XN⟩ := T2.xN
    obtain ⟨_, _, XZ⟩ := T2.xZ
    obtain ⟨_, _, XR⟩ := T2.xR
    refine ⟨_, pss_cons (ps_try_named (l := wl e) rfl rfl nd
        (fun W pn xe tk => pss_one (ps_if (pt_cmpR op_eq (pv 0) pe_int (nomark _))
          (pss_one (ps_expr (by exact pe_cS G1 hr (by decide) tk (by rfl) (pa_cons (pv 1) (pa_cons (pv 2) (pa_cons (pv 3) pa_nil))))))
          (pss_one (ps_expr (by exact pe_cS G2 hr (by decide) tk (by rfl) (pa_cons (pv 1) (pa_cons (pv 2) (pa_cons (pv 3) (pa_cons pe_non pa_nil)))))))))
        (.cons ⟨by rfl, by decide, .inl XS.gC⟩ rfl rfl (fun a oe cls d pn hz hf => by exact pss_one (ps_ret (pe_lst (pa_cons pe_str (pa_cons (pe_xf T2.fS XS.noN hz hf (pv 4)) pa_nil)))))
        (.cons ⟨by rfl, by decide, .inl XN.gC⟩ rfl rfl (fun a oe cls d pn hz hf => by exact pss_one (ps_ret (pe_lst (pa_cons pe_str (pa_cons (pe_xf T2.fN XN.noN hz hf (pv 4)) pa_nil)))))
        (.cons ⟨by rfl, by decide, .inl XZ.gC⟩ rfl rfl (fun a oe cls d pn hz hf => by exact pss_one (ps_ret (pe_lst (pa_cons pe_str (pa_cons (pe_xf T2.fZ XZ.noN hz hf (pv 4)) pa_nil)))))
        (.cons ⟨by rfl, by decide, .inl XR.gC⟩ rfl rfl (fun a oe cls d pn hz hf => by exact pss_one (ps_ret (pe_lst (pa_cons pe_str (pa_cons (pe_xf T2.fR XR.noN hz hf (pv 4)) pa_nil)))))
        .nil)))))
      (pss_one (ps_ret pe_non)), ?_⟩
    have fin : ∀ (D : Ends) (σ : L2.St) (H' : Hp) (cls : Value) (d : Addr), (∃ x0 x1 x2 x3 x4, σ = [x0, x1, x2, x3, x4]) → (∀ r, H' r = none → D.rt (.ref r) (upd H' r (.lst [kd, wh]))) →
        ((cls = .ref e.S ∧ kd = .str "standing" ∧ H' d = some (.xd [("at", wh)])) ∨ (cls = .ref e.N ∧ kd = .str "name" ∧ H' d = some (.xd [("name", wh)])) ∨ (cls = .ref e.Z ∧ kd = .str "size" ∧ H' d = some (.xd [("word", wh)])) ∨ (cls = .ref e.R ∧ kd = .str "refused" ∧ H' d = some (.xd [("word", wh)]))) →
        wNamed K D (wl e) cls (some d) σ H' := by
      rintro D σ H' cls d ⟨x0, x1, x2, x3, x4, rfl⟩ hq (⟨rfl, rfl, hd⟩ | ⟨rfl, rfl, hd⟩ | ⟨rfl, rfl, hd⟩ | ⟨rfl, rfl, hd⟩)
      · exact ⟨true, T2.mSS, fun _ a _ => ts_out hd hq, fun z => (nomatch z)⟩
      · exact ⟨false, T2.mNS, fun z => (nomatch z), fun _ => ⟨true, T2.mNN, fun _ a _ => ts_out hd hq, fun z => (nomatch z)⟩⟩
      · exact ⟨false, T2.mZS, fun z => (nomatch z), fun _ => ⟨false, T2.mZN, fun z => (nomatch z), fun _ => ⟨true, T2.mZZ, fun _ a _ => ts_out hd hq, fun z => (nomatch z)⟩⟩⟩
      · exact ⟨false, T2.mRS, fun z => (nomatch z), fun _ => ⟨false, T2.mRN, fun z => (nomatch z), fun _ => ⟨false, T2.mRZ, fun z => (nomatch z), fun _ => ⟨true, T2.mRR, fun _ a _ => ts_out hd hq, fun z => (nomatch z)⟩⟩⟩⟩
    have qq : ∀ H', Same H H' → ∀ r, H' r = none → Q (.ref r) (upd H' r (.lst [kd, wh])) := fun H' s' r hr' => q _ r (s'.trans (same_new hr')) upd_same
    refine ⟨.int k, rfl, rfl, _, rfl, ite2 (fun _ => ?_) (fun _ => ?_)⟩
    · refine ⟨.ref y, rfl, v, rfl, .ref dt, rfl, ?_⟩
      refine ⟨y, v, .ref dt, rfl, ?_⟩
      rcases hc with ⟨told, hb, rfl, rfl⟩ | ⟨st, rs, ps, rfl, hst, g, hd, hz, hdt⟩
      · exact .inl (bent_ns hy hb fun d H' s' _ hx => fin _ _ H' _ d ⟨_, _, _, _, _, rfl⟩ (qq H' s') (.inl ⟨rfl, rfl, hx⟩))
      · refine .inr ⟨st, dt, hs, rs, ps, rfl, rfl, hy, hst, g, hd, hz, ?_⟩
        generalize runDues (boxes rs) (ps.map (·.2)) [] = dd at hdt ⊢
        cases dd with
        | ok t => cases hdt
        | name z =>
          cases hdt
          exact fun d H' s' _ hx => fin _ _ H' _ d ⟨_, _, _, _, _, rfl⟩ (qq H' s') (.inr (.inl ⟨rfl, rfl, hx⟩))
        | refused =>
          cases hdt
          exact fun d H' s' _ hx => fin _ _ H' _ d ⟨_, _, _, _, _, rfl⟩ (qq H' s') (.inr (.inr (.inr ⟨rfl, rfl, hx⟩)))
        | size =>
          cases hdt
          exact fun d H' s' _ hx => fin _ _ H' _ d ⟨_, _, _, _, _, rfl⟩ (qq H' s') (.inr (.inr (.inl ⟨rfl, rfl, hx⟩)))
    · refine ⟨.ref y, rfl, v, rfl, .ref dt, rfl, ?_⟩
      refine ⟨y, v, .ref dt, .non, rfl, ?_⟩
      rcases hc with ⟨told, hb, rfl, rfl⟩ | ⟨st, rs, ps, rfl, hst, g, hd, hz, hdt⟩
      · exact .inl (bent_ns hy hb fun d H' s' _ hx => fin _ _ H' _ d ⟨_, _, _, _, _, rfl⟩ (qq H' s') (.inl ⟨rfl, rfl, hx⟩))
      · refine .inr ⟨st, dt, hs, rs, ps, rfl, rfl, hy, hst, g, hd, hz, ?_⟩
        generalize runDues (boxes rs) (ps.map (·.2)) [] = dd at hdt ⊢
        cases dd with
        | ok t => cases hdt
        | name z =>
          cases hdt
          exact fun d H' s' _ hx => fin _ _ H' _ d ⟨_, _, _, _, _, rfl⟩ (qq H' s') (.inr (.inl ⟨rfl, rfl, hx⟩))
        | refused =>
          cases hdt
          exact fun d H' s' _ hx => fin _ _ H' _ d ⟨_, _, _, _, _, rfl⟩ (qq H' s') (.inr (.inr (.inr ⟨rfl, rfl, hx⟩)))
        | size =>
          cases hdt
          exact fun d H' s' _ hx => fin _ _ H' _ d ⟨_, _, _, _, _, rfl⟩ (qq H' s') (.inr (.inr (.inl ⟨rfl, rfl, hx⟩)))
end
end K34
end
section
set_option linter.all false
set_option maxRecDepth 100000
/-! repr; defs that are entered where no repr runs. -/
namespace K34
open PySem PySem.Spec PyProof.Rows L2
def tfS (b : Bool) : Str := if b then "True" else "False"
theorem tfS_inj {a b : Bool} : tfS a = tfS b → a = b := by
  cases a <;> cases b <;> intro h <;> first | rfl | exact absurd h (by decide)
section
variable {X : Cx}
def rReprB : List V → Hp → VK → Prop := fun vs H Q => ∃ b, vs = [.bl b] ∧ Q (.str (tfS b)) H
theorem cr_reprB : CallR X (.builtin "repr") rReprB := by
  intro pins s σ H xs us Q I r h
  obtain ⟨b, rfl, q⟩ := h
  obtain ⟨u, rfl, ru⟩ := r.one
  obtain rfl : u = Value.bool b := ru
  exact PySem.P.repr_of_bool ⟨.str (tfS b), H, I.tok _, ⟨s.toks, rfl⟩, q⟩
/-- v reads as d, which is small -/
structure RpD (K : PySem.W.Frag) (H : Hp) (v : V) (d : PyData) : Prop where
  dp : Dp K H v d
  short : d.leavesShort 13 = true
  few : d.weight ≤ 2 ^ 20
  show_ : d.showable = true
  nod : d.hasDict = false
  low : d.depth ≤ 8
def rReprD (K : PySem.W.Frag) : List V → Hp → VK → Prop := fun vs H Q => ∃ v d, vs = [v] ∧ (v = .non ∨ ∃ a, v = .ref a) ∧ RpD K H v d ∧ Q (.str d.shown) H
theorem cr_reprD (hg : X.A.guards = some []) (hu : X.A.units + 16 < cLine) : CallR X (.builtin "repr") (rReprD X.K) := by
  intro pins s σ H xs us Q I r h
  obtain ⟨v, d, rfl, hv, hd, q⟩ := h
  obtain ⟨u, rfl, ru⟩ := r.one
  rcases hv with rfl | ⟨a, rfl⟩
  · obtain rfl : u = Value.none := ru
    obtain rfl : d = .none := by
      cases hd.dp
      rfl
    exact PySem.P.repr_of_none ⟨.str _, H, I.tok _, ⟨_, rfl⟩, by simpa [PyData.shown] using q⟩
  · obtain rfl : u = Value.ref a := ru
    obtain ⟨as, rd⟩ := hd.dp.reads I d _ _ rfl
    have := hd.low
    refine repr_of_reads' rd hd.show_ (fun h => by rw [hd.nod] at h; cases h) hg (by omega) (fun b o e => e) (fun h' u tk k => ⟨.str d.shown, H, I.kept (t' := tk) k, ⟨u, rfl⟩, q⟩) (PyData.shown_fits (by decide) (by decide) hd.short hd.few)
end
/-! ### a def that is entered only where no repr runs -/
structure CaG (P : Program) (w : World) (K : PySem.W.Frag) (mg : Str → Option Value) (base : Heap) (k : Nat) (x : Str) (sp : Sp) : Prop where
  ex : ∃ (f : Addr) (fd : FuncData) (ps : List Str), (∀ vs H Q E, sp vs H Q E → vs.length = ps.length) ∧
    (∀ (A : Around) (outer : List Env) (s : Shared) (H : Hp) (args : Args) (us : List Value) (vs : List V) (Q : VK) (E : XK), A.guards = some [] → Room k A → Env0 P w K mg base A outer s H → BindsTo s fd args (ps.zip us) → Vals vs us → sp vs H Q E →
      codeAny (model P w) A (.call (.ref f) args) (CR CX0 outer P w H s Q E) s) ∧ mg x = some (.ref f) ∧ PySem.W.keepIn K (.ref f) = true ∧ Binds K fd ps []
section
variable {P : Program} {w : World} {K : PySem.W.Frag} {mg : Str → Option Value} {base : Heap}
theorem caG {x : Str} {st : Stmt} {N ps : List Str} {k : Nat} {sp : Sp} (D : Df K mg x st ps) (S : FnScope N ps (defScope st)) (len : ∀ vs H Q E, sp vs H Q E → vs.length = ps.length)
    (hbody : ∀ (f : Addr) (cdv : Value) (A : Around) (outer : List Env) (s : Shared) (H : Hp) (vs : List V) (Q : VK) (E : XK), A.guards = some [] → Room k (A.deeper (envOfC x (defScope st) s.heap.objs.size f cdv)) → sp vs H Q E →
      ∃ t, PSs (cxOf CX0 P w K mg base N x (defScope st) f cdv A outer s H E).nox (defBody st) t ∧ t { nx := fun _ H' => Q .non H', rt := Q } (start N vs) H) : CaG P w K mg base (k + 1) x sp := by
  obtain ⟨f, fd, F, g, b⟩ := D.ex
  refine ⟨f, fd, ps, len, fun A outer s H args us vs Q E hg hr e0 hb r h => ?_, g, F.kp, b⟩
  obtain ⟨oc, od, kV, doc, pm, an, cdv, ct, osl, rfl, lk, hcd⟩ := F.ex
  refine LamX.run_ofS lk hcd S hr e0 hb r (len _ _ _ _ h) fun hr' => ?_
  obtain ⟨t, ht, q⟩ := hbody f cdv A outer s H vs Q E hg hr' h
  exact ⟨t, ht.nox, q⟩
end
section
variable {X : Cx} {k j : Nat} {x : Str} {sp : Sp} {p pos : Pos} {e : Expr} {es : List Expr} {t : TA}
theorem pe_cG (c : CaG X.prog X.w X.K X.mg X.base k x sp) (hgd : X.A.guards = some []) (hr : Room j X.A) (hk : k ≤ j) (hg : Gl X x) (ha : PA X (e :: es) t)
    (hdb : (x == ("__debug__" : Str)) = false := by decide) (he : starEach (e :: es) X.env = (false, eval e X.env) :: starEach es X.env := by rfl) (hpl : (backTo pos (starEach es X.env)).any (·.1) = false := by rfl) :
    PE X (.Call (.Name x p) (e :: es) [] pos) (tCall sp [] E0 t) := by
  obtain ⟨f, fd, ps, len, run, hm, kp, b⟩ := c.ex
  refine ⟨fun pins s σ H Q I h => ?_⟩
  refine wpAny_Call_Name_kw (ld_glob I hg hm ?_ hdb)
  refine PySem.W.callWith_K (h₀ := X.base) I.ok.mod.kin kp (thn (ha.run pos pins s σ H _ I h) fun us s1 ⟨vs, H1, I1, r, q⟩ => ⟨I1.kIn, ?_⟩) he hpl
  have q : sp (vs ++ []) H1 Q E0 := q
  rw [List.append_nil] at q
  have hl := len _ _ _ _ q
  refine wpAny_call (codeAny_mono (run X.A X.stack s1 H1 ⟨us, []⟩ us vs Q E0 hgd (hr.mono hk) I1.env0 (by
    have := b s1 us I1.kIn (by rw [List.append_nil]; exact (Vals.length r).symm.trans hl)
    simpa using this) r q) fun r s' hq => ?_)
  cases r with
  | error e => exact (show False from hq).elim
  | ok fl =>
    cases fl with
    | ret u => exact I1.after hq
    | next => exact False.elim hq
    | brk => exact False.elim hq
    | cont => exact False.elim hq
end
end K34
end
section
set_option linter.all false
set_option maxRecDepth 100000
/-! Orders are tried. -/
namespace K34
open PySem PySem.Spec PyProof.Rows L2 LamX SX
theorem goes_perm : ∀ {zs left : List Str}, zs.Perm left → (∀ z ∈ zs, nameB z = true) → goes (zs.map V.str) left = true
  | [], _, _, _ => rfl
  | z :: r, left, h, hn => by
    show (nameB z && decide (z ∈ left) && goes (r.map V.str) (left.erase z)) = true
    have hz : z ∈ left := h.mem_iff.mp List.mem_cons_self
    have hr : r.Perm (left.erase z) := by
      have := h.trans (List.perm_cons_erase hz)
      exact (List.perm_cons z).mp this
    rw [hn z List.mem_cons_self, decide_eq_true hz, goes_perm hr fun y hy => hn y (List.mem_cons_of_mem _ hy)]
    rfl
theorem isOrd_perm {bs zs : List Str} {t : Addr} (h : zs.Perm bs) (hn : ∀ z ∈ bs, nameB z = true) : isOrd bs (.row t (zs.map V.str)) = true := by
  show (goes (zs.map V.str) (lot bs) && decide ((zs.map V.str).length = bs.length)) = true
  rw [goes_perm (h.trans (lot_perm bs).symm) fun z hz => hn z (h.mem_iff.mp hz), List.length_map, h.length_eq, decide_eq_true rfl]
  rfl
theorem ckOrd_perm {bs zs : List Str} {ws ds : Pairs2} {t : Addr} (h : zs.Perm bs) (hn : ∀ z ∈ bs, nameB z = true) : ckOrd bs ws ds (.row t (zs.map V.str)) = keepsB ws ds zs := by
  unfold ckOrd
  rw [isOrd_perm h hn, Bool.true_and]
  show keepsB ws ds ((zs.map V.str).map txtV) = _
  rw [txt_map]
theorem ckOrd_len {bs : List Str} {ws ds : Pairs2} {t : Addr} {xs : List V} (h : xs.length ≠ bs.length) : ckOrd bs ws ds (.row t xs) = false := by
  show ((goes xs (lot bs) && decide (xs.length = bs.length)) && _) = false
  rw [decide_eq_false h, Bool.and_false, Bool.false_and]
theorem ckOrd_bad {bs : List Str} {ws ds : Pairs2} {t : Addr} {xs : List V} {x : V} (hx : x ∈ xs) (h : ∀ z, x = .str z → z ∉ bs) : ckOrd bs ws ds (.row t xs) = false := by
  show ((goes xs (lot bs) && decide (xs.length = bs.length)) && _) = false
  have : goes xs (lot bs) = false := Bool.eq_false_iff.mpr fun hg => by
    obtain ⟨h1, h2, _⟩ := goes_names hg
    rw [h1] at hx
    obtain ⟨z, hz, rfl⟩ := List.mem_map.mp hx
    exact h z rfl (mem_lot.mp (h2 z hz))
  rw [this, Bool.false_and, Bool.false_and]
section
variable {P : Program} {w : World} {K : PySem.W.Frag} {mg : Str → Option Value} {base : Heap} {a : Ad} {e : Ae}
/-- what stands for the law's trials -/
structure Std (a : Ad) (H : Hp) (p l wd dd y st tt : Addr) (hs : List Nat) (rs : Rows) (ps : Dues) (ds : Pairs2) : Prop where
  src : SrcAt H p l
  pw : PD H wd (wts hs rs)
  pd : PD H dd ds
  yd : YardAt a H y hs
  st : StAt H st rs
  g : Good hs rs
  du : DuesAt H tt ps
  len : ps.length ≤ 1000
  run : runDues (boxes rs) (ps.map (·.2)) [] = .ok ds
theorem YardAt.lw {p l : Addr} {H H1 : Hp} {y : Addr} {hs : List Nat} (hsrc : SrcAt H p l) (h : YardAt a H y hs) (w : Lw p l H H1) : YardAt a H1 y hs := by
  obtain ⟨dx, t, h1, h2⟩ := h
  exact ⟨dx, t, w.get hsrc h1 fun xs z => (by cases z), w.get hsrc h2 fun xs z => (by cases z)⟩
theorem Std.lw {H H1 : Hp} {p l wd dd y st tt : Addr} {hs : List Nat} {rs : Rows} {ps : Dues} {ds : Pairs2} (h : Std a H p l wd dd y st tt hs rs ps ds) (w : Lw p l H H1) : Std a H1 p l wd dd y st tt hs rs ps ds :=
  ⟨w.src, h.pw.lw h.src w, h.pd.lw h.src w, h.yd.lw h.src w, h.st.lw h.src w, h.g, ⟨w.get h.src h.du.1 fun xs z => (by cases z), fun q hq => w.get h.src (h.du.2 q hq) fun xs z => (by cases z)⟩, h.len, h.run⟩
theorem Std.same {H H1 : Hp} {p l wd dd y st tt : Addr} {hs : List Nat} {rs : Rows} {ps : Dues} {ds : Pairs2} (h : Std a H p l wd dd y st tt hs rs ps ds) (s : Same H H1) : Std a H1 p l wd dd y st tt hs rs ps ds := h.lw (Lw.of h.src s)
/-- a value is tried -/
theorem Std.ck {H : Hp} {p l wd dd y st tt : Addr} {hs : List Nat} {rs : Rows} {ps : Dues} {ds : Pairs2} {x : V} {Q : VK} {E : XK} (h : Std a H p l wd dd y st tt hs rs ps ds) (q : CkOk K a H Q (boxes rs) (wts hs rs) ds x) :
    spCheckDues K a e [.ref y, .ref st, .ref tt, x] H Q E := ⟨y, _, _, x, rfl, .inr ⟨st, tt, hs, rs, ps, rfl, rfl, h.yd, h.st, h.g, h.du, h.len, by rw [h.run]; exact q⟩⟩
def spLOrders (a : Ad) : Sp := fun vs H Q _ => ∃ (p l wd dd ot y st tt : Addr) (hs : List Nat) (rs : Rows) (ps : Dues) (ds : Pairs2) (zo : List Str), vs = [.ref p, .ref wd, .ref dd, .ref ot, .ref y, .ref st, .ref tt] ∧ Std a H p l wd dd y st tt hs rs ps ds ∧
  H ot = some (.tup (zo.map V.str)) ∧ zo.Perm (boxes rs) ∧ ∀ H', Lw p l H H' → Q (.bl true) H'
theorem ok_LOrders (T : Tx K mg a) (T2 : Tx2 P K mg e) : Ca P w K mg base CX0 7 "_law_orders" (spLOrders a) := by
  have G1 : Ca P w K mg base CX0 1 "_law_number" spLNumber := ok_LNumber T
  have G2 : Ca P w K mg base CX0 2 "_law_of" spLOf := ok_LOf T
  have G3 : Ca P w K mg base CX0 1 "_law_urgent" spLUrgent := ok_LUrgent T
  have G4 : Ca P w K mg base CX0 1 "_law_keeps" spLKeeps := ok_LKeeps T
  have F5 : CaF P w K mg base (L2.CX P w) 6 "check_dues" sCheckDues ["yard", "standing", "dues", "value"] (spCheckDues K a e) := ok_CheckDues T T2
  have G5 : Ca P w K mg base (L2.CX P w) 6 "check_dues" (spCheckDues K a e) := F5.ca
  refine ca0 T.dLOrders cLOrders (fun vs H Q E h => ?_) (fun fa cdv A outer s H vs Q E hr h => ?_)
  · obtain ⟨p, l, wd, dd, ot, y, st, tt, hs, rs, ps, ds, zo, rfl, _⟩ := h
    rfl
  · obtain ⟨p, l, wd, dd, ot, y, st, tt, hs, rs, ps, ds, zo, rfl, S, hot, hzo, q⟩ := h
    have hu := hu_of hr
    have hu0 : (A.deeper (envOfC "_law_orders" (defScope sLOrders) s.heap.objs.size fa cdv)).units < cLine := Nat.lt_of_succ_lt hu
    have nd := cLOrders.nd
    refine ⟨_, pss_cons (ps_set (i := 7) nd rfl (.inl rfl) (pe_lst (pa_cons (pv 3) (pa_cons (pe_c0 G3 hr (by decide) (by rfl) (pa_cons (pv 1) (pa_cons (pv 2) pa_nil))) (pa_cons (pe_callTy call_tuple_of (by rfl) T.m_tuple PyProof.Rows.boot_tuple (pa_cons (pe_callB cr_sortedS (by rfl) T.m_sorted PyProof.Rows.boot_sorted (pa_cons (pe_callTy (call_listD rfl) (by rfl) T.m_list PyProof.Rows.boot_list (pa_cons (pv 1) pa_nil)) pa_nil)) pa_nil)) pa_nil)))))
      (pss_cons (ps_for PassesOwn.never rfl (pi_range1 (by rfl) T.m_range (pa_cons pe_int pa_nil)) (pg_name (i := 8) nd rfl (Or.inl rfl))
        (pss_cons (ps_set (i := 9) nd rfl (.inl rfl) (pe_callTy call_list_of (by rfl) T.m_list PyProof.Rows.boot_list (pa_cons (pe_c0 G2 hr (by decide) (by rfl) (pa_cons (pv 0) (pa_cons (pv 7) pa_nil))) pa_nil)))
        (pss_cons (ps_if (pt_cmpR op_gt (pe_callB call_len_seq (by rfl) T.m_len PySem.boot_len (pa_cons (pv 9) pa_nil)) pe_int (nomark _))
          (pss_cons (ps_par (i := 10) (j := 11) rfl nd rfl rfl (by decide) rfl rfl (pa_cons (pe_c0 G1 hr (by decide) (by rfl) (pa_cons (pv 0) (pa_cons (pe_callB call_len_seq (by rfl) T.m_len PySem.boot_len (pa_cons (pv 9) pa_nil)) pa_nil))) (pa_cons (pe_c0 G1 hr (by decide) (by rfl) (pa_cons (pv 0) (pa_cons (pe_callB call_len_seq (by rfl) T.m_len PySem.boot_len (pa_cons (pv 9) pa_nil)) pa_nil))) pa_nil)) (by rfl))
          (pss_one (ps_expr (pe_bm PySem.F.plainAttrs_list PySem.F.slot_list_insert PySem.F.type_list_insert mt_insert (pv 9) (pa_cons (pv 11) (pa_cons (pe_bm PySem.F.plainAttrs_list PySem.F.slot_list_pop PySem.F.type_list_pop mt_popAt (pv 9) (pa_cons (pv 10) pa_nil)) pa_nil)))))) pss_nil)
        (pss_one (ps_expr (pe_bm PySem.F.plainAttrs_list PySem.F.slot_list_append PySem.F.type_list_append mt_append (pv 7) (pa_cons (pe_callTy call_tuple_of (by rfl) T.m_tuple PyProof.Rows.boot_tuple (pa_cons (pv 9) pa_nil)) pa_nil)))))))
      (pss_cons (ps_for PassesOwn.never rfl (pi_list (pv 7)) (pg_name (i := 12) nd rfl (Or.inl rfl))
        (pss_cons (ps_set (i := 13) nd rfl (.inl rfl) (pe_c0 G4 hr (by decide) (by rfl) (pa_cons (pv 1) (pa_cons (pv 2) (pa_cons (pv 12) pa_nil)))))
        (pss_cons (ps_if (pw_or (pt_cmpR op_ne (pe_callB cr_reprB (by rfl) T.m_repr PyProof.Rows.boot_repr (pa_cons (pe_cX G5 hr (by decide) (by rfl) (pa_cons (pv 4) (pa_cons (pv 5) (pa_cons (pv 6) (pa_cons (pv 12) pa_nil))))) pa_nil)) (pe_callB cr_reprB (by rfl) T.m_repr PyProof.Rows.boot_repr (pa_cons (pv 13) pa_nil)) (nomark _))
            (pw_or1 (pt_cmpR op_ne (pe_callB cr_reprB (by rfl) T.m_repr PyProof.Rows.boot_repr (pa_cons (pe_cK0 F5 hr (by decide) passL (fun f fd F => kb_CheckDues F) (by rfl) (pk_cons (pv 6) (pk_cons (pv 12) (pk_cons (pv 4) (pk_cons (pv 5) pk_nil))))) pa_nil)) (pe_callB cr_reprB (by rfl) T.m_repr PyProof.Rows.boot_repr (pa_cons (pv 13) pa_nil)) (nomark _)))).pt
          (pss_one (ps_ret pe_bl)) pss_nil)
        (pss_cons (ps_set (i := 10) nd rfl (.inl rfl) (pe_c0 G1 hr (by decide) (by rfl) (pa_cons (pv 0) (pa_cons (pe_op op_add (pe_callB call_len_seq (by rfl) T.m_len PySem.boot_len (pa_cons (pv 12) pa_nil)) pe_int) pa_nil))))
        (pss_cons (ps_set (i := 14) nd rfl (.inl rfl) (pe_c0 G2 hr (by decide) (by rfl) (pa_cons (pv 0) (pa_cons (pe_lst (pa_cons (pe_callTy call_list_of (by rfl) T.m_list PyProof.Rows.boot_list (pa_cons (pv 12) pa_nil))
            (pa_cons (pe_op op_catU (pe_op op_catU (pe_slice sl_tupU (pv 12) po_none (po_some (pv 10))) (pe_tup (pa_cons pe_str pa_nil))) (pe_slice sl_tupU (pv 12) (po_some (pv 10)) po_none))
            (pa_cons (pe_op op_catU (pe_op op_catU (pe_slice sl_tupU (pv 12) po_none (po_some (pv 10))) (pe_tup (pa_cons (pv 10) pa_nil))) (pe_slice sl_tupU (pv 12) (po_some (pe_op op_add (pv 10) pe_int)) po_none))
            (pa_cons pe_non (pa_cons pe_int pa_nil)))))) pa_nil))))
        (pss_cons (ps_if (pt_cmpR op_notBl (pe_cX G5 hr (by decide) (by rfl) (pa_cons (pv 4) (pa_cons (pv 5) (pa_cons (pv 6) (pa_cons (pv 14) pa_nil))))) pe_bl (nomark _)) (pss_one (ps_ret pe_bl)) pss_nil)
        (pss_one (ps_if (pw_and (pt_cmpR (op_neE hu0) (pv 12) (pe_tup pa_nil) (by rfl)) (pw_and1 (pt_cmpR op_notBl (pe_cX G5 hr (by decide) (by rfl) (pa_cons (pv 4) (pa_cons (pv 5) (pa_cons (pv 6) (pa_cons (pe_c0 G2 hr (by decide) (by rfl) (pa_cons (pv 0) (pa_cons (pe_lst
            (pa_cons (pe_slice sl_tupU (pv 12) po_none (po_some (pe_un un_neg pe_int))) (pa_cons (pe_op op_catU (pv 12) (pe_slice sl_tupU (pv 12) po_none (po_some pe_int))) (pa_cons (pe_slice sl_tupU (pv 12) (po_some pe_int) po_none) pa_nil)))) pa_nil))) pa_nil))))) pe_bl (nomark _)))).pt
          (pss_one (ps_ret pe_bl)) pss_nil))))))))
      (pss_one (ps_ret pe_bl)))), ?_⟩
    have few := S.g.few
    have hwl : (wts hs rs).length ≤ 24 := by rw [S.g.wlen]; exact few
    have hkeys : (wts hs rs).map (·.1) = boxes rs := waitL_keys _ _ _
    refine ⟨.ref ot, rfl, .ref wd, rfl, .ref dd, rfl, wd, dd, wts hs rs, ds, rfl, S.pw, S.pd, fun q hq => (S.g.wmem hq).1, by omega, S.g.feas, fun H1 t1 s1 ht1 => ?_⟩
    have S1 := S.same s1
    refine ⟨.ref wd, rfl, wd, pkv (wts hs rs), rfl, .inl S1.pw, fun p0 hp0 => ?_⟩
    have s2 := same_new (o := .lst ((pkv (wts hs rs)).map fun kv => kV kv.1)) hp0
    have l2 : upd H1 p0 (.lst ((pkv (wts hs rs)).map fun kv => kV kv.1)) p0 = some (.lst ((boxes rs).map V.str)) := by
      rw [upd_same, ← hkeys, List.map_map, List.map_map]
      rfl
    generalize upd H1 p0 (.lst ((pkv (wts hs rs)).map fun kv => kV kv.1)) = H2 at s2 l2 ⊢
    refine ⟨p0, boxes rs, rfl, .of l2, by omega, fun ys l0 hys _ hl0 => ?_⟩
    have s3 := same_new (o := .lst (ys.map V.str)) hl0
    refine ⟨l0, _, rfl, .inl ⟨.of upd_same, fun t2 ht2 => ?_⟩⟩
    have s4 := same_new (o := .tup (ys.map V.str)) ht2
    have ht2' : upd (upd H2 l0 (.lst (ys.map V.str))) t2 (.tup (ys.map V.str)) t2 = some (.tup (ys.map V.str)) := upd_same
    have s14 := s2.trans (s3.trans s4)
    have s04 := s1.trans s14
    generalize upd (upd H2 l0 (.lst (ys.map V.str))) t2 (.tup (ys.map V.str)) = H4 at s14 s04 ht2' ⊢
    refine ⟨(by show 3 ≤ sizeLine; decide), fun sv hsv => ?_⟩
    have s5 := same_new (o := .lst [.ref ot, .ref t1, .ref t2]) hsv
    have e5 : upd H4 sv (.lst [.ref ot, .ref t1, .ref t2]) sv = some (.lst [.ref ot, .ref t1, .ref t2]) := upd_same
    have nsv : H sv = none := s04.free hsv
    have r5 : rowsAt (upd H4 sv (.lst [.ref ot, .ref t1, .ref t2])) [(ot, zo), (t1, order (wts hs rs) ds), (t2, ys)] := fun r hr' => by
      simp only [List.mem_cons, List.not_mem_nil, or_false] at hr'
      rcases hr' with rfl | rfl | rfl
      · exact s5 _ _ (s04 _ _ hot)
      · exact s5 _ _ (s14 _ _ ht1)
      · exact s5 _ _ ht2'
    have w5 := Lw.of S.src (s04.trans s5)
    generalize upd H4 sv (.lst [.ref ot, .ref t1, .ref t2]) = H5 at s5 e5 r5 w5 ⊢
    obtain ⟨svp, svl⟩ := S.src.new nsv
    have hpm0 : ∀ r ∈ ([(ot, zo), (t1, order (wts hs rs) ds), (t2, ys)] : Rows), r.2.Perm (boxes rs) := fun r hr' => by
      simp only [List.mem_cons, List.not_mem_nil, or_false] at hr'
      rcases hr' with rfl | rfl | rfl
      · exact hzo
      · exact (order_perm S.g ds).1
      · exact hys
    have names := S.g.names
    refine ⟨4, rfl, by decide, by decide, ?_⟩
    refine for_it (walk_range0 (n := (4 : Int).toNat)) (fun i σ H' => (∃ u8 u9 u10 u11, σ = [some (.ref p), some (.ref wd), some (.ref dd), some (.ref ot), some (.ref y), some (.ref st), some (.ref tt), some (.ref sv), u8, u9, u10, u11, none, none, none]) ∧ Lw p l H H' ∧
        ∃ R : Rows, H' sv = some (.lst (rfs R)) ∧ rowsAt H' R ∧ (∀ r ∈ R, r.2.Perm (boxes rs)) ∧ R.length = 3 + i)
      ⟨⟨none, none, none, none, rfl⟩, w5, [(ot, zo), (t1, order (wts hs rs) ds), (t2, ys)], e5, r5, hpm0, rfl⟩ (fun _ _ _ _ _ => True.intro) ?_ ?_
    · rintro i x σ H0 H6 hi ⟨⟨u8, u9, u10, u11, rfl⟩, w6, R, hR, rR, pR, lR⟩ ⟨rfl, rfl⟩
      have hi : i < 4 := hi
      refine ⟨.ref p, rfl, .ref sv, rfl, p, l, .ref sv, rfl, w6.src, .inl ⟨sv, _, rfl, hR, svp, svl, fun z => ?_, by rw [List.length_map]; omega, fun H7 j v w7 hv => ?_⟩⟩
      · have := List.map_eq_nil_iff.mp z
        rw [this] at lR
        have : 0 = 3 + i := lR
        omega
      obtain ⟨r, hr1, rfl⟩ := List.mem_map.mp (List.mem_of_getElem? hv)
      have hR7 := w7.keep _ _ hR svp svl
      have rR7 : rowsAt H7 R := rR.lw w6.src w7
      have w7 := w6.trans w7
      refine ⟨r.1, _, rfl, .inr (.of (rR7 r hr1)), fun la hla => ?_⟩
      have nla := w7.free hla
      obtain ⟨lap, lal⟩ := S.src.new nla
      have s8 := same_new (o := .lst (r.2.map V.str)) hla
      have e8 : upd H7 la (.lst (r.2.map V.str)) la = some (.lst (r.2.map V.str)) := upd_same
      have svla : sv ≠ la := ne_of_none hR7 hla
      generalize upd H7 la (.lst (r.2.map V.str)) = H8 at s8 e8 ⊢
      have hzl : r.2.length ≤ 24 := by rw [(pR r hr1).length_eq]; exact few
      dsimp only
      refine seq_gen (fun σ H' => (∃ u10 u11, σ = [some (.ref p), some (.ref wd), some (.ref dd), some (.ref ot), some (.ref y), some (.ref st), some (.ref tt), some (.ref sv), some (.int (i : Nat)), some (.ref la), u10, u11, none, none, none]) ∧ Lw p l H H' ∧
        H' sv = some (.lst (rfs R)) ∧ rowsAt H' R ∧ ∃ xs : List Str, H' la = some (.lst (xs.map V.str)) ∧ xs.Perm (boxes rs)) (fun nx hnx => ?_) ?_
      · have idle : nx [some (.ref p), some (.ref wd), some (.ref dd), some (.ref ot), some (.ref y), some (.ref st), some (.ref tt), some (.ref sv), some (.int (i : Nat)), some (.ref la), u10, u11, none, none, none] H8 :=
          hnx _ _ ⟨⟨_, _, rfl⟩, w7.same s8, s8 _ _ hR7, fun q hq => s8 _ _ (rR7 q hq), r.2, e8, pR r hr1⟩
        refine ⟨.ref la, rfl, la, _, rfl, .inl (.of e8), _, 1, rfl, rfl, _, rfl, ite2 (fun hlt => ?_) (fun _ => idle)⟩
        have hlt : (1 : Int) < ((r.2.map V.str).length : Nat) := of_decide_eq_true hlt
        have elen : (r.2.map V.str).length = r.2.length := List.length_map _
        have w8 := w7.same s8
        refine ⟨.ref p, rfl, .ref la, rfl, la, _, rfl, .inl (.of e8), p, l, r.2.length, args2 (by rw [elen]), w8.src, by omega, by omega, fun H9 k1 w9 hk1 => ?_⟩
        have e9 := w9.keep _ _ e8 lap lal
        have hR9 := w9.keep _ _ (s8 _ _ hR7) svp svl
        have rR9 : rowsAt H9 R := (show rowsAt H8 R from fun q hq => s8 _ _ (rR7 q hq)).lw w8.src w9
        have w9 := w8.trans w9
        refine ⟨.ref p, rfl, .ref la, rfl, la, _, rfl, .inl (.of e9), p, l, r.2.length, args2 (by rw [elen]), w9.src, by omega, by omega, fun H10 k2 w10 hk2 => ?_⟩
        have e10 := w10.keep _ _ e9 lap lal
        have hR10 := w10.keep _ _ hR9 svp svl
        have rR10 := rR9.lw w9.src w10
        have w10 := w9.trans w10
        have hk1' : k1 < (r.2.map V.str).length := by omega
        refine ⟨_, _, rfl, .ref la, rfl, .inl ⟨rfl, _, .of e10⟩, .int k2, rfl, .ref la, rfl, .inl ⟨rfl, _, .of e10⟩, .int k1, rfl, la, _, k1, k1, (r.2.map V.str)[k1], rfl, rfl, e10, by omega, by omega, seq_nat hk1', List.getElem?_eq_getElem hk1', ?_⟩
        refine ⟨la, _, k2, (r.2.map V.str)[k1], rfl, rfl, upd_same, ?_, by omega, by omega, ?_⟩
        · have := List.length_eraseIdx_le (r.2.map V.str) k1
          exact small1000 (by omega)
        have hperm : (((r.2.map V.str).eraseIdx k1).take ((k2 : Nat) : Int).toNat ++ [(r.2.map V.str)[k1]] ++ ((r.2.map V.str).eraseIdx k1).drop ((k2 : Nat) : Int).toNat).Perm (r.2.map V.str) := by
          rw [show ∀ (A B : List V) (v : V), A ++ [v] ++ B = A ++ v :: B from fun A B v => by simp]
          refine List.perm_middle.trans ?_
          rw [List.take_append_drop]
          exact pop_perm _ k1 hk1'
        generalize ((r.2.map V.str).eraseIdx k1).take ((k2 : Nat) : Int).toNat ++ [(r.2.map V.str)[k1]] ++ ((r.2.map V.str).eraseIdx k1).drop ((k2 : Nat) : Int).toNat = nl at hperm ⊢
        obtain ⟨xs, hxs, rfl⟩ := perm_strs hperm
        refine hnx _ _ ⟨⟨_, _, rfl⟩, Lw.putn S.src nla (Lw.putn S.src nla w10), ?_, fun q hq => ?_, xs, upd_same, hxs.trans (pR r hr1)⟩
        · rw [upd_ne svla, upd_ne svla]
          exact hR10
        · have h1 := rR10 q hq
          have : q.1 ≠ la := fun z => by
            rw [z, e10] at h1
            cases h1
          rw [upd_ne this, upd_ne this]
          exact h1
      · rintro σ H9 ⟨⟨u10, u11, rfl⟩, w9, hR9, rR9, xs, e9, px⟩
        refine ⟨.ref sv, rfl, .inl ⟨rfl, _, .of hR9⟩, .ref la, rfl, la, _, rfl, .inl ⟨.of e9, fun t ht => ?_⟩⟩
        have s10 := same_new (o := .tup (xs.map V.str)) ht
        have e10 : upd H9 t (.tup (xs.map V.str)) t = some (.tup (xs.map V.str)) := upd_same
        generalize upd H9 t (.tup (xs.map V.str)) = H10 at s10 e10 ⊢
        refine ⟨sv, rfs R, .ref t, rfl, rfl, s10 _ _ hR9, by rw [List.length_map]; exact small1000 (by omega), ?_⟩
        refine ⟨⟨_, _, _, _, rfl⟩, Lw.putn S.src nsv (w9.same s10), R ++ [(t, xs)], ?_, fun q hq => ?_, fun q hq => ?_, by rw [List.length_append, lR]; rfl⟩
        · rw [upd_same]
          show _ = some (HO.lst ((R ++ [(t, xs)]).map _))
          rw [List.map_append]
          rfl
        · have h1 : H10 q.1 = some (.tup (q.2.map V.str)) := by
            rcases List.mem_append.mp hq with h | h
            · exact s10 _ _ (rR9 q h)
            · rw [List.mem_singleton.mp h]
              exact e10
          have : q.1 ≠ sv := fun z => by
            rw [z, s10 _ _ hR9] at h1
            cases h1
          rw [upd_ne this]
          exact h1
        · rcases List.mem_append.mp hq with h | h
          · exact pR q h
          · rw [List.mem_singleton.mp h]
            exact px
    · rintro σ H6 ⟨⟨u8, u9, u10, u11, rfl⟩, w6, R, hR, rR, pR, lR⟩
      refine ⟨.ref sv, rfl, sv, rfl, ⟨_, .of hR⟩, ?_⟩
      refine for_it (walk_listM (l := R) (f := fun r => V.ref r.1)) (fun i σ H' => (∃ u8 u9 u10 u11 u12 u13 u14, σ = [some (.ref p), some (.ref wd), some (.ref dd), some (.ref ot), some (.ref y), some (.ref st), some (.ref tt), some (.ref sv), u8, u9, u10, u11, u12, u13, u14]) ∧ Lw p l H H' ∧
          H' sv = some (.lst (rfs R)) ∧ rowsAt H' R)
        ⟨⟨_, _, _, _, _, _, _, rfl⟩, w6, hR, rR⟩ (fun _ _ _ _ h => .of h.2.2.1) ?_ ?_
      · rintro i x σ H0 H7 hi ⟨⟨v8, v9, v10, v11, v12, v13, v14, rfl⟩, w7, hR7, rR7⟩ ⟨rfl, r, hri, rfl⟩
        have hrm := List.mem_of_getElem? hri
        have pr := pR r hrm
        obtain ⟨t, zs⟩ := r
        have pr : zs.Perm (boxes rs) := pr
        have S7 := S.lw w7
        have ht7 : H7 t = some (.tup (zs.map V.str)) := rR7 (t, zs) hrm
        have hzl : zs.length ≤ 24 := by rw [pr.length_eq]; exact few
        have zflat : ∀ x ∈ zs.map V.str, flatV x = true ∧ ∀ z, x = .str z → z.length ≤ 1000 := fun x hx => by
          obtain ⟨z, hz, rfl⟩ := List.mem_map.mp hx
          refine ⟨rfl, fun z' e => ?_⟩
          cases e
          have := nameB_len (names z (pr.mem_iff.mp hz))
          omega
        refine ⟨.ref wd, rfl, .ref dd, rfl, .ref t, rfl, wd, dd, t, wts hs rs, ds, zs, rfl, S7.pw, S7.pd, ht7, fun z hz => by rw [hkeys]; exact pr.mem_iff.mp hz, fun H8 s8 => ?_⟩
        have S8 := S7.same s8
        have ht8 := s8 _ _ ht7
        -- the order itself, called both ways
        have one : ∀ (H' : Hp) (Q' : VK), Same H8 H' → (∀ H'', Same H8 H'' → Q' (.bl (keepsB (wts hs rs) ds zs)) H'') → spCheckDues K a e [.ref y, .ref st, .ref tt, .ref t] H' Q' E0 := fun H' Q' s' hq =>
          (S8.same s').ck (.inl ⟨.row t (zs.map V.str), rfl, ⟨s' _ _ ht8, zflat⟩, fun H'' s'' => by
            rw [ckOrd_perm pr names]
            exact hq H'' (s'.trans s'')⟩)
        dsimp only
        refine seq_gen (fun σ H' => σ = [some (.ref p), some (.ref wd), some (.ref dd), some (.ref ot), some (.ref y), some (.ref st), some (.ref tt), some (.ref sv), v8, v9, v10, v11, some (.ref t), some (.bl (keepsB (wts hs rs) ds zs)), v14] ∧ Same H8 H') (fun nx hnx => ?_) ?_
        · refine ⟨.ref y, rfl, .ref st, rfl, .ref tt, rfl, .ref t, rfl, ?_⟩
          unfold tNil
          refine one H8 _ (Same.refl _) fun H9 s9 => ?_
          refine ⟨_, rfl, .bl (keepsB (wts hs rs) ds zs), rfl, _, rfl, rfl, _, rfl, ?_⟩
          refine iteF' (by simp) ?_
          refine ⟨.ref tt, rfl, .ref t, rfl, .ref y, rfl, .ref st, rfl, ?_⟩
          refine one H9 _ s9 fun H10 s10 => ?_
          refine ⟨_, rfl, .bl (keepsB (wts hs rs) ds zs), rfl, _, rfl, rfl, _, rfl, ?_⟩
          refine iteF' (by simp) ?_
          exact hnx _ _ ⟨rfl, s10⟩
        · rintro σ H9 ⟨rfl, s9⟩
          have S9 := S8.same s9
          have ht9 := s9 _ _ ht8
          have w9 := (w7.same s8).same s9
          have elen : (zs.map V.str).length = zs.length := List.length_map _
          refine ⟨.ref p, rfl, .ref t, rfl, t, _, rfl, .inr (.of ht9), _, 1, rfl, rfl, p, l, zs.length + 1, args2 (by rw [elen]; rfl), S9.src, by omega, by omega, fun H10 at0 w10 hat => ?_⟩
          have S10 := S9.lw w10
          have c10 := (Lw.of S7.src (s8.trans s9)).trans w10
          have ht10 := w10.get S9.src ht9 (fun xs z => by cases z)
          have w10 := w9.trans w10
          refine ⟨.ref p, rfl, .ref t, rfl, t, _, rfl, .inr (.of ht10), fun la hla => ?_⟩
          have s11 := same_new (o := .lst (zs.map V.str)) hla
          have la11 : upd H10 la (.lst (zs.map V.str)) la = some (.lst (zs.map V.str)) := upd_same
          obtain ⟨lap, lal⟩ := S10.src.new hla
          generalize upd H10 la (.lst (zs.map V.str)) = H11 at s11 la11 ⊢
          have ht11 := s11 _ _ ht10
          refine ⟨.ref t, rfl, .int at0, rfl, at0, rfl, t, _, rfl, ht11, fun pa H12 s12 hpa => ?_⟩
          rw [cut_take] at hpa
          refine ⟨(by show 1 ≤ sizeLine; decide), fun tm htm => ?_⟩
          have s13 := same_new (o := .tup [.str ""]) htm
          have htk := List.length_take_le' at0 (zs.map V.str)
          have hdk : ((zs.map V.str).drop at0).length ≤ zs.length := by rw [List.length_drop, elen]; omega
          have hdk1 : ((zs.map V.str).drop (at0 + 1)).length ≤ zs.length := by rw [List.length_drop, elen]; omega
          refine ⟨pa, tm, _, _, rfl, rfl, s13 _ _ hpa, upd_same, by show _ + 1 ≤ 1000; omega, fun pe H14 s14' hpe => ?_⟩
          have s1114 := s12.trans (s13.trans s14')
          refine ⟨.ref t, rfl, .int at0, rfl, at0, rfl, t, _, rfl, s1114 _ _ ht11, fun pf H15 s15 hpf => ?_⟩
          rw [cut_drop] at hpf
          refine ⟨pe, pf, _, _, rfl, rfl, s15 _ _ hpe, hpf, ?_, fun pc1 H16 s16 hpc1 => ?_⟩
          · rw [List.length_append]
            show _ + 1 + _ ≤ 1000
            omega
          have s1116 := s1114.trans (s15.trans s16)
          refine ⟨.ref t, rfl, .int at0, rfl, at0, rfl, t, _, rfl, s1116 _ _ ht11, fun pa2 H17 s17 hpa2 => ?_⟩
          rw [cut_take] at hpa2
          refine ⟨.int at0, rfl, (by show 1 ≤ sizeLine; decide), fun tm2 htm2 => ?_⟩
          have s18 := same_new (o := .tup [.int ((at0 : Nat) : Int)]) htm2
          refine ⟨pa2, tm2, _, _, rfl, rfl, s18 _ _ hpa2, upd_same, by show _ + 1 ≤ 1000; omega, fun pe2 H19 s19 hpe2 => ?_⟩
          have s1619 := s17.trans (s18.trans s19)
          refine ⟨.ref t, rfl, .int at0, rfl, at0, 1, rfl, rfl, _, rfl, t, _, rfl, (s1116.trans s1619) _ _ ht11, fun pf2 H20 s20 hpf2 => ?_⟩
          rw [show ((at0 : Nat) : Int) + 1 = ((at0 + 1 : Nat) : Int) by omega, cut_drop] at hpf2
          refine ⟨pe2, pf2, _, _, rfl, rfl, s20 _ _ hpe2, hpf2, ?_, fun pc2 H21 s21 hpc2 => ?_⟩
          · rw [List.length_append]
            show _ + 1 + _ ≤ 1000
            omega
          have s1621 := s1619.trans (s20.trans s21)
          refine ⟨(by show 5 ≤ sizeLine; decide), fun b hb => ?_⟩
          have s22 := same_new (o := .lst [.ref la, .ref pc1, .ref pc2, .non, .int 0]) hb
          have w22 := w10.same (s11.trans (s1116.trans (s1621.trans s22)))
          obtain ⟨b1, b2⟩ := (w10.same (s11.trans (s1116.trans s1621))).src.new hb
          have c22 := c10.same (s11.trans (s1116.trans (s1621.trans s22)))
          have la22 := s22 _ _ (s1621 _ _ (s1116 _ _ la11))
          have pc122 := s22 _ _ (s1621 _ _ hpc1)
          have pc222 := s22 _ _ hpc2
          have ht22 := s22 _ _ (s1621 _ _ (s1116 _ _ ht11))
          have hb22 : upd H21 b (.lst [.ref la, .ref pc1, .ref pc2, .non, .int 0]) b = some (.lst [.ref la, .ref pc1, .ref pc2, .non, .int 0]) := upd_same
          generalize upd H21 b (.lst [.ref la, .ref pc1, .ref pc2, .non, .int 0]) = H22 at w22 c22 la22 pc122 pc222 ht22 hb22 ⊢
          refine ⟨p, l, .ref b, rfl, w22.src, .inl ⟨b, _, rfl, hb22, b1, b2, List.cons_ne_nil _ _, (by show 5 < 1000; decide), fun H23 j v w23 hv => ?_⟩⟩
          have la23 := w23.keep _ _ la22 lap lal
          have pc123 := w23.get w22.src pc122 (fun xs z => by cases z)
          have pc223 := w23.get w22.src pc222 (fun xs z => by cases z)
          have ht23 := w23.get w22.src ht22 (fun xs z => by cases z)
          have c23 := c22.trans w23
          have w23 := w22.trans w23
          have S23 := S.lw w23
          have e0 : nameB "" = false := by decide
          obtain ⟨rw0, rfl, hrw, hck⟩ : ∃ r0 : Rw, v = r0.v ∧ r0.ok H23 ∧ ckOrd (boxes rs) (wts hs rs) ds r0 = false := by
            have := List.mem_of_getElem? hv
            simp only [List.mem_cons, List.not_mem_nil, or_false] at this
            rcases this with rfl | rfl | rfl | rfl | rfl
            · exact ⟨.bad (.ref la), rfl, .inr ⟨la, _, rfl, la23⟩, rfl⟩
            · refine ⟨.row pc1 _, rfl, ⟨pc123, fun x hx => ?_⟩, ckOrd_bad (x := .str "") (List.mem_append_left _ (List.mem_append_right _ (List.mem_singleton_self _))) fun z hz hm => ?_⟩
              · rcases List.mem_append.mp hx with hx | hx
                · rcases List.mem_append.mp hx with hx | hx
                  · exact zflat x (List.mem_of_mem_take hx)
                  · rw [List.mem_singleton.mp hx]
                    refine ⟨rfl, fun z e => ?_⟩
                    cases e
                    decide
                · exact zflat x (List.mem_of_mem_drop hx)
              · cases hz
                have := names _ hm
                rw [e0] at this
                cases this
            · refine ⟨.row pc2 _, rfl, ⟨pc223, fun x hx => ?_⟩, ckOrd_bad (x := .int ((at0 : Nat) : Int)) (List.mem_append_left _ (List.mem_append_right _ (List.mem_singleton_self _))) fun z hz => by cases hz⟩
              rcases List.mem_append.mp hx with hx | hx
              · rcases List.mem_append.mp hx with hx | hx
                · exact zflat x (List.mem_of_mem_take hx)
                · rw [List.mem_singleton.mp hx]
                  exact ⟨rfl, fun z e => by cases e⟩
              · exact zflat x (List.mem_of_mem_drop hx)
            · exact ⟨.bad .non, rfl, .inl rfl, rfl⟩
            · exact ⟨.bad (.int 0), rfl, .inl rfl, rfl⟩
          refine ⟨.ref y, rfl, .ref st, rfl, .ref tt, rfl, rw0.v, rfl, ?_⟩
          unfold tNil
          refine S23.ck (.inl ⟨rw0, rfl, hrw, fun H24 s24 => ?_⟩)
          rw [hck]
          refine ⟨false, false, rfl, rfl, _, rfl, iteF' rfl ?_⟩
          have ht24 := s24 _ _ ht23
          have w24 := w23.same s24
          have S24 := S23.same s24
          refine ⟨.ref t, rfl, Nat.zero_le _, fun t0 ht0 => ?_⟩
          have s25 := same_new (o := .tup []) ht0
          have t025 : upd H24 t0 (.tup []) t0 = some (.tup []) := upd_same
          generalize upd H24 t0 (.tup []) = H25 at s25 t025 ⊢
          have ht25 := s25 _ _ ht24
          have w25 := w24.same s25
          have S25 := S24.same s25
          refine ⟨t, t0, zs.map V.str, rfl, rfl, .inr ⟨.of ht25, .of t025⟩, _, rfl, ?_⟩
          have c25 := (c23.same s24).same s25
          have fin : ∀ H', Lw p l H25 H' → Lw p l H H' ∧ H' sv = some (.lst (rfs R)) ∧ rowsAt H' R := fun H' w' =>
            ⟨w25.trans w', (c25.trans w').keep _ _ hR7 svp svl, rR7.lw S7.src (c25.trans w')⟩
          cases hzz : zs with
          | nil => exact iteF' rfl (iteF' (Bool.eq_false_iff.mpr Bool.false_ne_true) ⟨⟨_, _, _, _, _, _, _, rfl⟩, fin H25 (Lw.refl w25.src)⟩)
          | cons z0 zr =>
            refine iteT' rfl ?_
            have hpos : 0 < zs.length := by
              rw [hzz]
              exact Nat.succ_pos _
            refine ⟨.ref y, rfl, .ref st, rfl, .ref tt, rfl, .ref p, rfl, .ref t, rfl, 1, rfl, -1, rfl, t, _, rfl, ht25, fun p1 H26 s26 hp1 => ?_⟩
            rw [cut_last] at hp1
            refine ⟨.ref t, rfl, .ref t, rfl, 1, rfl, t, _, rfl, s26 _ _ ht25, fun p2 H27 s27 hp2 => ?_⟩
            rw [show (1 : Int) = ((1 : Nat) : Int) from rfl, cut_take] at hp2
            have htk1 := List.length_take_le' 1 (zs.map V.str)
            refine ⟨t, p2, _, _, rfl, rfl, (s26.trans s27) _ _ ht25, hp2, by omega, fun p3 H28 s28 hp3 => ?_⟩
            refine ⟨.ref t, rfl, 1, rfl, t, _, rfl, (s26.trans (s27.trans s28)) _ _ ht25, fun p4 H29 s29 hp4 => ?_⟩
            rw [show (1 : Int) = ((1 : Nat) : Int) from rfl, cut_drop] at hp4
            refine ⟨(by show 3 ≤ sizeLine; decide), fun b2' hb2 => ?_⟩
            have s2529 := s26.trans (s27.trans (s28.trans s29))
            have s30 := same_new (o := .lst [.ref p1, .ref p3, .ref p4]) hb2
            obtain ⟨c1, c2⟩ := (w25.same s2529).src.new hb2
            have w30 := Lw.of w25.src (s2529.trans s30)
            have q1 := s30 _ _ (s29 _ _ (s28 _ _ (s27 _ _ hp1)))
            have q3 := s30 _ _ (s29 _ _ hp3)
            have q4 := s30 _ _ hp4
            refine ⟨p, l, .ref b2', rfl, w30.src, .inl ⟨b2', _, rfl, upd_same, c1, c2, List.cons_ne_nil _ _, (by show 3 < 1000; decide), fun H31 j v w31 hv => ?_⟩⟩
            have q1 := w31.get w30.src q1 (fun xs z => by cases z)
            have q3 := w31.get w30.src q3 (fun xs z => by cases z)
            have q4 := w31.get w30.src q4 (fun xs z => by cases z)
            have w31 := w30.trans w31
            have S31 := S25.lw w31
            have hbl := pr.length_eq
            obtain ⟨rw1, rfl, hrw1, hck1⟩ : ∃ r0 : Rw, v = r0.v ∧ r0.ok H31 ∧ ckOrd (boxes rs) (wts hs rs) ds r0 = false := by
              have := List.mem_of_getElem? hv
              simp only [List.mem_cons, List.not_mem_nil, or_false] at this
              rcases this with rfl | rfl | rfl
              · refine ⟨.row p1 _, rfl, ⟨q1, fun x hx => zflat x (List.mem_of_mem_take hx)⟩, ckOrd_len ?_⟩
                rw [List.length_take, elen]
                omega
              · refine ⟨.row p3 _, rfl, ⟨q3, fun x hx => ?_⟩, ckOrd_len ?_⟩
                · rcases List.mem_append.mp hx with h | h
                  · exact zflat x h
                  · exact zflat x (List.mem_of_mem_take h)
                · rw [List.length_append, List.length_take, elen]
                  omega
              · refine ⟨.row p4 _, rfl, ⟨q4, fun x hx => zflat x (List.mem_of_mem_drop hx)⟩, ckOrd_len ?_⟩
                rw [List.length_drop, elen]
                omega
            refine S31.ck (.inl ⟨rw1, rfl, hrw1, fun H32 s32 => ?_⟩)
            rw [hck1]
            refine ⟨false, false, rfl, rfl, _, rfl, iteF' rfl ?_⟩
            exact ⟨⟨_, _, _, _, _, _, _, rfl⟩, fin H32 (w31.same s32)⟩
      · rintro σ H7 ⟨_, w7, _, _⟩
        exact q H7 w7
end
end K34
end
section
set_option linter.all false
set_option maxRecDepth 100000
/-! Crowds are tried. -/
namespace K34
open PySem PySem.Spec PyProof.Rows L2 LamX SX
section
variable {P : Program} {w : World} {K : PySem.W.Frag} {mg : Str → Option Value} {base : Heap} {a : Ad} {e : Ae}
def spLCrowds (a : Ad) : Sp := fun vs H Q _ => ∃ (p l wd dd y st tt : Addr) (hs : List Nat) (rs : Rows) (ps : Dues) (ds : Pairs2), vs = [.ref p, .ref wd, .ref dd, .ref y, .ref st, .ref tt] ∧ Std a H p l wd dd y st tt hs rs ps ds ∧
  ∀ H', Lw p l H H' → Q (.bl true) H'
def toD : V → PyData
  | .str z => .str z
  | .int i => .int i
  | _ => .none
def Sim (x : V) : Prop := (∃ z, x = .str z ∧ PyData.strOk z = true) ∨ ∃ i, x = .int i
theorem sim_all {H : Hp} : ∀ {xs : List V}, (∀ x ∈ xs, Sim x) → DpAll K H xs (xs.map toD) ∧ PyData.canLayAll0 (xs.map toD) = true ∧ PyData.depthAll (xs.map toD) ≤ 1
  | [], _ => ⟨.nil, rfl, by simp [PyData.depthAll]⟩
  | x :: r, h => by
    obtain ⟨h1, h2, h3⟩ := sim_all (xs := r) fun y hy => h y (List.mem_cons_of_mem _ hy)
    rcases h x List.mem_cons_self with ⟨z, rfl, hz⟩ | ⟨i, rfl⟩
    · refine ⟨.cons (.str z) h1, ?_, ?_⟩
      · show (PyData.strOk z && PyData.canLayAll0 (r.map toD)) = true
        rw [hz, h2]
        rfl
      · simp only [List.map_cons, toD, PyData.depthAll, PyData.depth]
        omega
    · refine ⟨.cons (.int i) h1, ?_, ?_⟩
      · simp only [List.map_cons, toD, PyData.canLayAll0, PyData.canLay0, h2, Bool.true_and]
      · simp only [List.map_cons, toD, PyData.depthAll, PyData.depth]
        omega
theorem sim_tup (K : PySem.W.Frag) {xs : List V} (h : ∀ x ∈ xs, Sim x) : SeqAt.shaped (.tuple (xs.map toD)) = true := by
  obtain ⟨_, h2, h3⟩ := sim_all (K := K) (H := fun _ => none) h
  unfold SeqAt.shaped
  rw [Bool.and_eq_true]
  refine ⟨by simp only [PyData.canLay0]; exact h2, decide_eq_true ?_⟩
  simp only [PyData.depth]
  omega
theorem sim_lst (K : PySem.W.Frag) {xs : List V} (h : ∀ x ∈ xs, Sim x) : SeqAt.shaped (.list (xs.map toD)) = true := by
  obtain ⟨_, h2, h3⟩ := sim_all (K := K) (H := fun _ => none) h
  unfold SeqAt.shaped
  rw [Bool.and_eq_true]
  refine ⟨by simp only [PyData.canLay0]; exact h2, decide_eq_true ?_⟩
  simp only [PyData.depth]
  omega
theorem eqvAll_len : ∀ {xs ys : List PyData}, PyData.eqvAll xs ys = true → xs.length = ys.length
  | [], [], _ => rfl
  | x :: xs, y :: ys, h => by
    simp only [PyData.eqvAll, Bool.and_eq_true] at h
    rw [List.length_cons, List.length_cons, eqvAll_len h.2]
  | [], _ :: _, h => by simp [PyData.eqvAll] at h
  | _ :: _, [], h => by simp [PyData.eqvAll] at h
theorem eqv_refl : ∀ l : List Str, PyData.eqvAll (l.map PyData.str) (l.map PyData.str) = true
  | [] => by simp [PyData.eqvAll]
  | z :: r => by
    simp only [List.map_cons, PyData.eqvAll, PyData.eqv, eqv_refl r]
    simp
theorem ck_len {ws ds : Pairs2} {xs : List V} {f e : V} (h : ∀ i j : Int, f = .int i → e = .int j → xs.length ≠ (crowdL ws ds i j).length) : ckCr ws ds (.tuple (xs.map toD)) f e = false := by
  cases f with
  | int i =>
    cases e with
    | int j =>
      have : PyData.eqv (.tuple (xs.map toD)) (.tuple ((lot (crowdL ws ds i j)).map PyData.str)) = false := Bool.eq_false_iff.mpr fun hh => by
        simp only [PyData.eqv] at hh
        have := eqvAll_len hh
        rw [List.length_map, List.length_map, lot_length] at this
        exact h i j rfl rfl this
      simp only [ckCr, this, Bool.and_false, Bool.false_and]
    | _ => rfl
  | _ => rfl
theorem ck_list {ws ds : Pairs2} {xs : List PyData} {f e : V} : ckCr ws ds (.list xs) f e = false := by
  cases f with
  | int i =>
    cases e with
    | int j => simp only [ckCr, PyData.eqv, Bool.and_false, Bool.false_and]
    | _ => rfl
  | _ => rfl
theorem ck_lot {ws ds : Pairs2} {f e : Int} (hf : 0 ≤ f) (he : 0 ≤ e) : ckCr ws ds (.tuple ((lot (crowdL ws ds f e)).map PyData.str)) (.int f) (.int e) = (decide (f ≤ e) && decide (e - f < ((crowdL ws ds f e).length : Nat))) := by
  simp only [ckCr, PyData.eqv, eqv_refl, decide_eq_true hf, decide_eq_true he, Bool.true_and, Bool.and_true]
/-- a crowd that is no answer -/
def BadCr (K : PySem.W.Frag) (a : Ad) (H : Hp) (ws ds : Pairs2) (x : Addr) : Prop := ∃ (f en b : V) (d : PyData), CrowdAt a H x f en b ∧ flatV f = true ∧ flatV en = true ∧ (∀ H', Same H H' → Dp K H' b d) ∧ SeqAt.shaped d = true ∧ ckCr ws ds d f en = false
theorem BadCr.same {H H' : Hp} {ws ds : Pairs2} {x : Addr} (h : BadCr K a H ws ds x) (s : Same H H') : BadCr K a H' ws ds x := by
  obtain ⟨f, en, b, d, h1, h2, h3, h4, h5, h6⟩ := h
  exact ⟨f, en, b, d, h1.same s, h2, h3, fun H'' s' => h4 H'' (s.trans s'), h5, h6⟩
theorem BadCr.ck {H : Hp} {bs : List Str} {ws ds : Pairs2} {x : Addr} {Q : VK} (h : BadCr K a H ws ds x) (q : ∀ H', Same H H' → Q (.bl false) H') : CkOk K a H Q bs ws ds (.ref x) := by
  obtain ⟨f, en, b, d, h1, h2, h3, h4, h5, h6⟩ := h
  exact .inr ⟨x, f, en, b, d, rfl, h1, h2, h3, h4, h5, by rw [h6]; exact q⟩
theorem bad_tup {H : Hp} {ws ds : Pairs2} {x b : Addr} {f en : V} {xs : List V} (hc : CrowdAt a H x f en (.ref b)) (hf : flatV f = true) (he : flatV en = true) (hb : H b = some (.tup xs)) (hs : ∀ x ∈ xs, Sim x) (hk : ckCr ws ds (.tuple (xs.map toD)) f en = false) : BadCr K a H ws ds x :=
  ⟨f, en, .ref b, _, hc, hf, he, fun H' s => .tup (.of (s _ _ hb)) (sim_all hs).1, sim_tup K hs, hk⟩
theorem bad_lst {H : Hp} {ws ds : Pairs2} {x b : Addr} {f en : V} {xs : List V} (hc : CrowdAt a H x f en (.ref b)) (hf : flatV f = true) (he : flatV en = true) (hb : H b = some (.lst xs)) (hs : ∀ x ∈ xs, Sim x) : BadCr K a H ws ds x :=
  ⟨f, en, .ref b, .list (xs.map toD), hc, hf, he, fun H' s => .lst (.of (s _ _ hb)) (sim_all hs).1, sim_lst K hs, ck_list⟩
theorem cut_one {xs : List V} {k : Nat} (h : k < xs.length) : (cutV xs (some (k : Int)) (some ((k + 1 : Nat) : Int))).length = 1 ∧ ∀ x ∈ cutV xs (some (k : Int)) (some ((k + 1 : Nat) : Int)), x ∈ xs := by
  unfold cutV
  rw [HT.sIx_nat, HT.sIx_nat, Nat.min_eq_left (by omega), Nat.min_eq_left (by omega)]
  refine ⟨?_, fun x hx => List.mem_of_mem_drop (List.mem_of_mem_take hx)⟩
  rw [List.length_take, List.length_drop]
  omega
def gk {A : Type} (us ws : List A) : List A := match us, ws with
  | [x], [b, f, e] => [x, f, e, b]
  | _, _ => []
theorem ok_CrowdInitF (T : Tx K mg a) : ∃ f fd, Mk K a.C f ∧ FnOk P w K mg base CX0 1 f fd ["self", "first", "end", "boxes"] (spCrowdInit a) ∧ Binds K fd ["self", "first", "end", "boxes"] [] ∧ KBn K fd ["self", "first", "end", "boxes"] 1 ["boxes", "first", "end"] gk gk := by
  obtain ⟨fi, fd, M, F, b⟩ := T.mkC
  refine ⟨fi, fd, M, F.ok cCrowdInit (fun vs H Q E h => ?_) (fun cdv A outer s H vs Q E hr h => ?_), b, ?_⟩
  · obtain ⟨x, dx, f, e, b, rfl, _⟩ := h
    rfl
  · obtain ⟨x, dx, f, e, b, rfl, hx, q⟩ := h
    refine ⟨_, pss_cons (ps_fld (pv 0) (pv 1) rfl) (pss_cons (ps_fld (pv 0) (pv 2) rfl) (pss_one (ps_fld (pv 0) (pv 3) rfl))), ?_⟩
    refine ⟨f, rfl, .ref x, rfl, x, a.C, dx, [], rfl, hx, T.clC, T.naC1, by decide, ?_⟩
    refine ⟨e, rfl, .ref x, rfl, x, a.C, dx, _, rfl, upd_same, T.clC, T.naC2, (show (1 : Nat) < 1000 by decide), ?_⟩
    refine ⟨b, rfl, .ref x, rfl, x, a.C, dx, _, rfl, upd_same, T.clC, T.naC3, (show (2 : Nat) < 1000 by decide), ?_⟩
    exact q _ (But.upd.trans (But.upd.trans But.upd)) upd_same
  · obtain ⟨oc, od, kV, doc, pm, an, cdv, ct, osl, rfl, lk, hcd⟩ := F.ex
    refine ⟨fun s us ws _ l1 l2 => ?_, fun h k => ?_⟩
    · match us, ws, l1, l2 with
      | [x], [b, f, e], _, _ => exact .of_eq rfl
    · cases h with
      | nil => exact .nil
      | cons h0 h =>
        cases h with
        | nil =>
          cases k with
          | nil => exact .nil
          | cons a k =>
            cases k with
            | nil => exact .nil
            | cons b k =>
              cases k with
              | nil => exact .nil
              | cons c k =>
                cases k with
                | nil => exact .cons h0 (.cons b (.cons c (.cons a .nil)))
                | cons _ _ => exact .nil
        | cons _ _ => exact .nil
theorem ok_LCrowds (T : Tx K mg a) (T2 : Tx2 P K mg e) (C : CrEq K a) : Ca P w K mg base CX0 7 "_law_crowds" (spLCrowds a) := by
  have G1 : Ca P w K mg base CX0 1 "_law_number" spLNumber := ok_LNumber T
  have G2 : Ca P w K mg base CX0 1 "_law_lot" spLLot := ok_LLot T
  have G5 : Ca P w K mg base (L2.CX P w) 6 "check_dues" (spCheckDues K a e) := (ok_CheckDues T T2).ca
  obtain ⟨fi, fdi, M, FI, bI, kI⟩ := ok_CrowdInitF (P := P) (w := w) (base := base) T
  obtain ⟨fe, fde, FE, eq1, eq2, bE⟩ := ok_CrowdEq (P := P) (w := w) (base := base) T C
  refine ca0 T.dLCrowds cLCrowds (fun vs H Q E h => ?_) (fun fa cdv A outer s H vs Q E hr h => ?_)
  · obtain ⟨p, l, wd, dd, y, st, tt, hs, rs, ps, ds, rfl, _⟩ := h
    rfl
  · obtain ⟨p, l, wd, dd, y, st, tt, hs, rs, ps, ds, rfl, S, q⟩ := h
    have hu := hu_of hr
    have nd := cLCrowds.nd
    refine ⟨_, pss_cons (ps_for PassesOwn.never rfl (pi_range1 (by rfl) T.m_range (pa_cons pe_int pa_nil)) (pg_name (i := 6) nd rfl (Or.inl rfl))
        (pss_cons (ps_par (i := 7) (j := 8) rfl nd rfl rfl (by decide) rfl rfl (pa_cons (pe_c0 G1 hr (by decide) (by rfl) (pa_cons (pv 0) (pa_cons (pe_callB (call_min2 rfl) (by rfl) T.m_min PyProof.Rows.Boot.«min» (pa_cons pe_int (pa_cons (pe_op op_add (pe_callB call_lenD (by rfl) T.m_len PySem.boot_len (pa_cons (pv 1) pa_nil)) pe_int) pa_nil))) pa_nil)))
            (pa_cons (pe_c0 G1 hr (by decide) (by rfl) (pa_cons (pv 0) (pa_cons (pe_op op_add (pe_callB call_lenD (by rfl) T.m_len PySem.boot_len (pa_cons (pv 1) pa_nil)) pe_int) pa_nil))) pa_nil)) (by rfl))
        (pss_cons (ps_set (i := 9) nd rfl (.inl rfl) (pe_c0 G2 hr (by decide) (by rfl) (pa_cons (pv 1) (pa_cons (pv 2) (pa_cons (pv 7) (pa_cons (pv 8) pa_nil))))))
        (pss_cons (ps_set (i := 10) nd rfl (.inl rfl) (pe_and (pe_cmpR op_le (pv 7) (pv 8) (nomark _)) (pe_one (pe_cmpR op_gt (pe_callB call_len_seq (by rfl) T.m_len PySem.boot_len (pa_cons (pv 9) pa_nil)) (pe_op op_sub (pv 8) (pv 7)) (nomark _)))))
        (pss_cons (ps_if (pt_cmpR op_ne (pe_callB cr_reprB (by rfl) T.m_repr PyProof.Rows.boot_repr (pa_cons (pe_cX G5 hr (by decide) (by rfl) (pa_cons (pv 3) (pa_cons (pv 4) (pa_cons (pv 5) (pa_cons (pe_make M FI (hr.mono (by decide)) (by rfl) T.gC bI .nil pass0 (pa_cons (pv 7) (pa_cons (pv 8) (pa_cons (pv 9) pa_nil)))) pa_nil))))) pa_nil)) (pe_callB cr_reprB (by rfl) T.m_repr PyProof.Rows.boot_repr (pa_cons (pv 10) pa_nil)) (nomark _)) (pss_one (ps_ret pe_bl)) pss_nil)
        (pss_one (ps_if (pt_val (pv 10))
          (pss_cons (ps_set (i := 11) nd rfl (.inl rfl) (pe_c0 G1 hr (by decide) (by rfl) (pa_cons (pv 0) (pa_cons (pe_callB call_len_seq (by rfl) T.m_len PySem.boot_len (pa_cons (pv 9) pa_nil)) pa_nil))))
          (pss_cons (ps_set (i := 12) nd rfl (.inl rfl) (pe_lst (pa_cons (pe_make M FI (hr.mono (by decide)) (by rfl) T.gC bI .nil pass0 (pa_cons (pv 7) (pa_cons (pv 8) (pa_cons (pe_callTy call_list_of (by rfl) T.m_list PyProof.Rows.boot_list (pa_cons (pv 9) pa_nil)) pa_nil))))
            (pa_cons (pe_make M FI (hr.mono (by decide)) (by rfl) T.gC bI .nil pass0 (pa_cons (pv 7) (pa_cons (pv 8) (pa_cons (pe_op op_catU (pe_slice sl_tupU (pv 9) po_none (po_some (pv 11))) (pe_slice sl_tupU (pv 9) (po_some (pe_op op_add (pv 11) pe_int)) po_none)) pa_nil))))
            (pa_cons (pe_make M FI (hr.mono (by decide)) (by rfl) T.gC bI .nil pass0 (pa_cons (pv 7) (pa_cons (pv 8) (pa_cons (pe_op op_catU (pv 9) (pe_slice sl_tupU (pv 9) (po_some (pv 11)) (po_some (pe_op op_add (pv 11) pe_int)))) pa_nil)))) pa_nil)))))
          (pss_cons (ps_set (i := 12) nd rfl (.inl rfl) (pe_op op_cat (pv 12) (pe_lst (pa_cons (pe_make M FI (hr.mono (by decide)) (by rfl) T.gC bI .nil pass0 (pa_cons pe_non (pa_cons (pv 8) (pa_cons (pv 9) pa_nil))))
            (pa_cons (pe_make M FI (hr.mono (by decide)) (by rfl) T.gC bI .nil pass0 (pa_cons (pv 7) (pa_cons (pe_callTy call_str_int (by rfl) T.m_str PyProof.Rows.boot_str (pa_cons (pv 8) pa_nil)) (pa_cons (pv 9) pa_nil))))
            (pa_cons (pe_make M FI (hr.mono (by decide)) (by rfl) T.gC bI .nil pass0 (pa_cons (pv 7) (pa_cons (pv 8) (pa_cons (pe_op op_catU (pe_revT (pv 9)) (pe_tup (pa_cons pe_int pa_nil))) pa_nil)))) pa_nil))))))
          (pss_cons (ps_if (pt_cmpR op_in_seq (pv 7) (pe_lst (pa_cons pe_int (pa_cons pe_int pa_nil))) (by rfl))
            (pss_one (ps_expr (pe_bm PySem.F.plainAttrs_list PySem.F.slot_list_append PySem.F.type_list_append mt_append (pv 12) (pa_cons (pe_make M FI (hr.mono (by decide)) (by rfl) T.gC bI .nil pass0 (pa_cons (pe_cmpR op_eq (pv 7) pe_int (nomark _)) (pa_cons (pv 8) (pa_cons (pv 9) pa_nil)))) pa_nil)))) pss_nil)
          (pss_one (ps_for PassesOwn.never rfl (pi_list (pv 12)) (pg_name (i := 13) nd rfl (Or.inl rfl))
            (pss_one (ps_if (pt_cmpR op_notBl (pe_cX G5 hr (by decide) (by rfl) (pa_cons (pv 3) (pa_cons (pv 4) (pa_cons (pv 5) (pa_cons (pv 13) pa_nil))))) pe_bl (nomark _)) (pss_one (ps_ret pe_bl)) pss_nil))))))))
          pss_nil)))))))
      (pss_cons (ps_for PassesOwn.never rfl (pi_list (pe_lst (pa_cons (pe_make M FI (hr.mono (by decide)) (by rfl) T.gC bI .nil pass0 (pa_cons pe_int (pa_cons pe_int (pa_cons (pe_tup pa_nil) pa_nil))))
          (pa_cons (pe_make M FI (hr.mono (by decide)) (by rfl) T.gC bI .nil pass0 (pa_cons (pe_un un_neg pe_int) (pa_cons (pe_un un_neg pe_int) (pa_cons (pe_tup pa_nil) pa_nil))))
          (pa_cons (pe_make M FI (hr.mono (by decide)) (by rfl) T.gC bI .nil pass0 (pa_cons (pe_callB call_lenD (by rfl) T.m_len PySem.boot_len (pa_cons (pv 1) pa_nil)) (pa_cons pe_int (pa_cons (pe_tup pa_nil) pa_nil)))) pa_nil))))) (pg_name (i := 13) nd rfl (Or.inl rfl))
        (pss_one (ps_if (pt_cmpR op_notBl (pe_cX G5 hr (by decide) (by rfl) (pa_cons (pv 3) (pa_cons (pv 4) (pa_cons (pv 5) (pa_cons (pv 13) pa_nil))))) pe_bl (nomark _)) (pss_one (ps_ret pe_bl)) pss_nil)))
      (pss_one (ps_ret (pe_and (pe_cmpR (op_eqOwn FE (hr.mono (by decide)) eq1 eq2 bE pass0) (pe_make M FI (hr.mono (by decide)) (by rfl) T.gC bI .nil pass0 (pa_cons pe_int (pa_cons pe_int (pa_cons (pe_tup (pa_cons pe_str pa_nil)) pa_nil))))
          (pe_makeK0 M FI (hr.mono (by decide)) (by rfl) T.gC kI pass0 (pk_cons (pe_tup (pa_cons pe_str pa_nil)) (pk_cons pe_int (pk_cons pe_int pk_nil)))) (nomark _))
        (pe_one (pe_not (pe_cmpR (op_eqOwn FE (hr.mono (by decide)) eq1 eq2 bE pass0) (pe_make M FI (hr.mono (by decide)) (by rfl) T.gC bI .nil pass0 (pa_cons pe_int (pa_cons pe_int (pa_cons (pe_tup (pa_cons pe_str pa_nil)) pa_nil))))
          (pe_make M FI (hr.mono (by decide)) (by rfl) T.gC bI .nil pass0 (pa_cons pe_int (pa_cons pe_int (pa_cons (pe_tup (pa_cons pe_str pa_nil)) pa_nil)))) (nomark _)))))))), ?_⟩
    have hwl : (pkv (wts hs rs)).length ≤ 24 := by
      rw [List.length_map, S.g.wlen]
      exact S.g.few
    obtain ⟨r1, r2, r3, _⟩ := run_few S.g S.run
    have hkeys : ∀ q ∈ ds, q.1 ∈ (wts hs rs).map (·.1) := fun q hq => by
      rw [waitL_keys]
      exact r1 q hq
    have lotsim : ∀ (f e : Int), ∀ x ∈ (lot (crowdL (wts hs rs) ds f e)).map V.str, Sim x := fun f e x hx => by
      obtain ⟨z, hz, rfl⟩ := List.mem_map.mp hx
      refine .inl ⟨z, rfl, name_ok (S.g.names z ?_)⟩
      obtain ⟨q, hq, rfl⟩ := List.mem_map.mp ((crowd_sub _ ds f e).subset (mem_lot.mp hz))
      exact r1 q hq
    have lotlen : ∀ (f e : Int), (crowdL (wts hs rs) ds f e).length ≤ 63 := fun f e => by
      have := (crowd_sub (wts hs rs) ds f e).length_le
      rw [List.length_map] at this
      omega
    refine ⟨12, rfl, by decide, by decide, ?_⟩
    refine for_it (walk_range0 (n := (12 : Int).toNat)) (fun i σ H' => (∃ u6 u7 u8 u9 u10 u11 u12 u13, σ = [some (.ref p), some (.ref wd), some (.ref dd), some (.ref y), some (.ref st), some (.ref tt), u6, u7, u8, u9, u10, u11, u12, u13]) ∧ Lw p l H H')
      ⟨⟨_, _, _, _, _, _, _, _, rfl⟩, Lw.refl S.src⟩ (fun _ _ _ _ _ => True.intro) ?_ ?_
    · rintro i x σ H0 H1 hi ⟨⟨u6, u7, u8, u9, u10, u11, u12, u13, rfl⟩, w1⟩ ⟨rfl, rfl⟩
      have S1 := S.lw w1
      obtain ⟨mn, hmn, hmn1⟩ : ∃ mn : Nat, (if ((((pkv (wts hs rs)).length : Nat) : Int) + 1) < 4 then ((((pkv (wts hs rs)).length : Nat) : Int) + 1) else 4) = (mn : Int) ∧ 0 < mn ∧ mn ≤ 4 := by
        by_cases h : ((((pkv (wts hs rs)).length : Nat) : Int) + 1) < 4
        · exact ⟨(pkv (wts hs rs)).length + 1, by rw [if_pos h]; rfl, by omega, by omega⟩
        · exact ⟨4, by rw [if_neg h]; rfl, by decide, by decide⟩
      refine ⟨.ref p, rfl, .ref wd, rfl, wd, _, rfl, S1.pw, _, 1, rfl, rfl, 4, _, rfl, p, l, mn, args2 hmn, S1.src, hmn1.1, by omega, fun H2 f w2 hf => ?_⟩
      have S2 := S1.lw w2
      have w2 := w1.trans w2
      refine ⟨.ref p, rfl, .ref wd, rfl, wd, _, rfl, S2.pw, _, 2, rfl, rfl, p, l, (pkv (wts hs rs)).length + 2, args2 rfl, S2.src, by omega, by omega, fun H3 en w3 hen => ?_⟩
      have S3 := S2.lw w3
      have w3 := w2.trans w3
      refine ⟨_, _, rfl, .ref wd, rfl, .ref dd, rfl, .int f, rfl, .int en, rfl, wd, dd, wts hs rs, ds, f, en, rfl, S3.pw, S3.pd, hkeys, r2, r3, fun H4 lt s4 hlt => ?_⟩
      have S4 := S3.same s4
      have w4 := w3.same s4
      have llen : ((lot (crowdL (wts hs rs) ds f en)).map V.str).length = (crowdL (wts hs rs) ds f en).length := by rw [List.length_map, lot_length]
      have hlsim := lotsim f en
      have hll := lotlen f en
      obtain ⟨due, hdue⟩ : ∃ due : Bool, due = (decide ((f : Int) ≤ (en : Int)) && decide ((en : Int) - (f : Int) < ((crowdL (wts hs rs) ds f en).length : Nat))) := ⟨_, rfl⟩
      have ckl := ck_lot (ws := wts hs rs) (ds := ds) (f := f) (e := en) (by omega) (by omega)
      rw [← hdue] at ckl
      dsimp only
      refine seq_gen (fun σ H' => σ = [some (.ref p), some (.ref wd), some (.ref dd), some (.ref y), some (.ref st), some (.ref tt), some (.int (i : Nat)), some (.int (f : Nat)), some (.int (en : Nat)), some (.ref lt), some (.bl due), u11, u12, u13] ∧ H' = H4) (fun nx hnx => ?_) ?_
      · refine ⟨.int f, rfl, .int en, rfl, f, en, rfl, rfl, _, rfl, ?_⟩
        cases hfe : decide ((f : Int) ≤ (en : Int)) with
        | false =>
          rw [hfe, Bool.false_and] at hdue
          refine iteF ?_
          rw [← hdue]
          exact hnx _ _ ⟨rfl, rfl⟩
        | true =>
          rw [hfe, Bool.true_and] at hdue
          refine iteT ?_
          refine ⟨.ref lt, rfl, lt, _, rfl, .inr (.of hlt), .int en, rfl, .int f, rfl, en, f, rfl, rfl, _, _, rfl, rfl, ?_⟩
          rw [llen]
          show gName 10 (V.bl (decide ((en : Int) - (f : Int) < ((crowdL (wts hs rs) ds f en).length : Nat)))) _ _ _
          rw [← hdue]
          exact hnx _ _ ⟨rfl, rfl⟩
      rintro σ H4' ⟨rfl, rfl⟩
      -- the crowd itself
      refine ⟨.ref y, rfl, .ref st, rfl, .ref tt, rfl, .int f, rfl, .int en, rfl, .ref lt, rfl, fun x dx hx hdx hne => ⟨x, dx, .int f, .int en, .ref lt, rfl, upd_same, fun H5 b5 hx5 => ⟨rfl, ?_⟩⟩⟩
      have s5 := made_same hx hdx b5
      have S5 := S4.same s5
      have hlt5 := s5 _ _ hlt
      unfold tNil
      refine S5.ck (.inr ⟨x, .int f, .int en, .ref lt, .tuple ((lot (crowdL (wts hs rs) ds f en)).map PyData.str), rfl, ⟨dx, hx5⟩, rfl, rfl, fun H' s' => .tup (.of (s' _ _ hlt5)) (DpAll.strs _), shaped_strs fun z hz => ?_, fun H6 s6 => ?_⟩)
      · have := hlsim (.str z) (List.mem_map_of_mem hz)
        rcases this with ⟨z', e, h⟩ | ⟨_, e⟩
        · cases e
          exact h
        · cases e
      rw [ckl]
      have s46 := s5.trans s6
      have S6 := S4.same s46
      have w6 := w4.same s46
      have hlt6 := s46 _ _ hlt
      refine ⟨_, rfl, .bl due, rfl, _, rfl, rfl, _, rfl, iteF' (by simp) ?_⟩
      refine ⟨.bl due, rfl, _, rfl, ?_⟩
      cases hd : due with
      | false => exact iteF' rfl ⟨⟨_, _, _, _, _, _, _, _, rfl⟩, w6⟩
      | true =>
        refine iteT' rfl ?_
        rw [hd] at hdue
        have hdue := hdue.symm
        rw [Bool.and_eq_true] at hdue
        have hfe := of_decide_eq_true hdue.1
        have hlb := of_decide_eq_true hdue.2
        refine ⟨.ref p, rfl, .ref lt, rfl, lt, _, rfl, .inr (.of hlt6), p, l, (crowdL (wts hs rs) ds f en).length, args2 (by rw [llen]), S6.src, by omega, by omega, fun H7 at0 w7 hat => ?_⟩
        have S7 := S6.lw w7
        have hlt7 := w7.get S6.src hlt6 (fun xs z => by cases z)
        have w7 := w6.trans w7
        -- a list in the place of the tuple
        refine ⟨.int f, rfl, .int en, rfl, .ref lt, rfl, lt, _, rfl, .inr (.of hlt7), fun la hla => ?_⟩
        have sA := same_new (o := .lst ((lot (crowdL (wts hs rs) ds f en)).map V.str)) hla
        have eA : upd H7 la (.lst ((lot (crowdL (wts hs rs) ds f en)).map V.str)) la = some (.lst ((lot (crowdL (wts hs rs) ds f en)).map V.str)) := upd_same
        generalize upd H7 la (.lst ((lot (crowdL (wts hs rs) ds f en)).map V.str)) = HA at sA eA ⊢
        refine fun x1 dx1 hx1 hd1 _ => ⟨x1, dx1, .int f, .int en, .ref la, rfl, upd_same, fun H8 b8 e8 => ⟨rfl, ?_⟩⟩
        have s8 := made_same hx1 hd1 b8
        have B1 : BadCr K a H8 (wts hs rs) ds x1 := bad_lst ⟨dx1, e8⟩ rfl rfl (s8 _ _ eA) hlsim
        have s78 := sA.trans s8
        -- one less
        have htk := List.length_take_le' at0 ((lot (crowdL (wts hs rs) ds f en)).map V.str)
        have hdk : (((lot (crowdL (wts hs rs) ds f en)).map V.str).drop (at0 + 1)).length ≤ 63 := by rw [List.length_drop, llen]; omega
        refine ⟨.int f, rfl, .int en, rfl, .ref lt, rfl, .int at0, rfl, at0, rfl, lt, _, rfl, s78 _ _ hlt7, fun pa H9 s9 hpa => ?_⟩
        rw [cut_take] at hpa
        refine ⟨.ref lt, rfl, .int at0, rfl, at0, 1, rfl, rfl, _, rfl, lt, _, rfl, (s78.trans s9) _ _ hlt7, fun pb H10 s10 hpb => ?_⟩
        rw [show ((at0 : Nat) : Int) + 1 = ((at0 + 1 : Nat) : Int) by omega, cut_drop] at hpb
        refine ⟨pa, pb, _, _, rfl, rfl, s10 _ _ hpa, hpb, by omega, fun pc H11 s11 hpc => ?_⟩
        refine fun x2 dx2 hx2 hd2 _ => ⟨x2, dx2, .int f, .int en, .ref pc, rfl, upd_same, fun H12 b12 e12 => ⟨rfl, ?_⟩⟩
        have s12 := made_same hx2 hd2 b12
        have s812 := s9.trans (s10.trans (s11.trans s12))
        have B2 : BadCr K a H12 (wts hs rs) ds x2 := bad_tup ⟨dx2, e12⟩ rfl rfl (s12 _ _ hpc) (fun x hx => by
            rcases List.mem_append.mp hx with h | h
            · exact hlsim x (List.mem_of_mem_take h)
            · exact hlsim x (List.mem_of_mem_drop h)) (ck_len fun i' j' ei ej => by
            cases ei
            cases ej
            rw [List.length_append, List.length_take, List.length_drop, llen]
            omega)
        have B1 := B1.same s812
        have s712 := s78.trans s812
        -- one more
        refine ⟨.int f, rfl, .int en, rfl, .ref lt, rfl, .ref lt, rfl, .int at0, rfl, at0, rfl, .int at0, rfl, at0, 1, rfl, rfl, _, rfl, lt, _, rfl, s712 _ _ hlt7, fun pd H13 s13 hpd => ?_⟩
        rw [show ((at0 : Nat) : Int) + 1 = ((at0 + 1 : Nat) : Int) by omega] at hpd
        obtain ⟨cl1, cl2⟩ := cut_one (xs := (lot (crowdL (wts hs rs) ds f en)).map V.str) (k := at0) (by rw [llen]; exact hat)
        generalize cutV ((lot (crowdL (wts hs rs) ds f en)).map V.str) (some ((at0 : Nat) : Int)) (some ((at0 + 1 : Nat) : Int)) = cu at hpd cl1 cl2
        refine ⟨lt, pd, _, _, rfl, rfl, (s712.trans s13) _ _ hlt7, hpd, by omega, fun pe H14 s14 hpe => ?_⟩
        refine fun x3 dx3 hx3 hd3 _ => ⟨x3, dx3, .int f, .int en, .ref pe, rfl, upd_same, fun H15 b15 e15 => ⟨rfl, ?_⟩⟩
        have s15 := made_same hx3 hd3 b15
        have s1215 := s13.trans (s14.trans s15)
        have B3 : BadCr K a H15 (wts hs rs) ds x3 := bad_tup ⟨dx3, e15⟩ rfl rfl (s15 _ _ hpe) (fun x hx => by
            rcases List.mem_append.mp hx with h | h
            · exact hlsim x h
            · exact hlsim x (cl2 x h)) (ck_len fun i' j' ei ej => by
            cases ei
            cases ej
            rw [List.length_append, cl1, llen]
            omega)
        have B1 := B1.same s1215
        have B2 := B2.same s1215
        have s715 := s712.trans s1215
        refine ⟨(by show 3 ≤ sizeLine; decide), fun rl hrl => ?_⟩
        have s16 := same_new (o := .lst [.ref x1, .ref x2, .ref x3]) hrl
        have e16 : upd H15 rl (.lst [.ref x1, .ref x2, .ref x3]) rl = some (.lst [.ref x1, .ref x2, .ref x3]) := upd_same
        generalize upd H15 rl (.lst [.ref x1, .ref x2, .ref x3]) = H16 at s16 e16 ⊢
        have B1 := B1.same s16
        have B2 := B2.same s16
        have B3 := B3.same s16
        have s716 := s715.trans s16
        -- bounds that are no numbers
        refine ⟨.ref rl, rfl, .int en, rfl, .ref lt, rfl, fun x4 dx4 hx4 hd4 _ => ⟨x4, dx4, .non, .int en, .ref lt, rfl, upd_same, fun H17 b17 e17 => ⟨rfl, ?_⟩⟩⟩
        have s17 := made_same hx4 hd4 b17
        have B4 : BadCr K a H17 (wts hs rs) ds x4 := bad_tup ⟨dx4, e17⟩ rfl rfl ((s716.trans s17) _ _ hlt7) hlsim rfl
        refine ⟨.int f, rfl, .int en, rfl, en, rfl, ?_, .ref lt, rfl, fun x5 dx5 hx5' hd5 _ => ⟨x5, dx5, .int f, .str (toString ((en : Nat) : Int)), .ref lt, rfl, upd_same, fun H18 b18 e18 => ⟨rfl, ?_⟩⟩⟩
        · show (en : Int).natAbs.log2 < 1920
          have := Nat.log2_le_self (en : Int).natAbs
          omega
        have s18 := made_same hx5' hd5 b18
        have s718 := (s716.trans s17).trans s18
        have B5 : BadCr K a H18 (wts hs rs) ds x5 := bad_tup ⟨dx5, e18⟩ rfl rfl (s718 _ _ hlt7) hlsim rfl
        refine ⟨.int f, rfl, .int en, rfl, .ref lt, rfl, lt, _, rfl, .of (s718 _ _ hlt7), fun pr hpr => ⟨(by show 1 ≤ sizeLine; decide), fun tm htm => ?_⟩⟩
        have s19 := (same_new (o := .tup ((lot (crowdL (wts hs rs) ds f en)).map V.str).reverse) hpr).trans (same_new (o := .tup [.int 0]) htm)
        have e19 := same_new (o := .tup [.int 0]) htm pr _ upd_same
        have e19m : upd (upd H18 pr (.tup ((lot (crowdL (wts hs rs) ds f en)).map V.str).reverse)) tm (.tup [.int 0]) tm = some (.tup [.int 0]) := upd_same
        generalize upd (upd H18 pr (.tup ((lot (crowdL (wts hs rs) ds f en)).map V.str).reverse)) tm (.tup [.int 0]) = H19 at s19 e19 e19m ⊢
        refine ⟨pr, tm, _, _, rfl, rfl, e19, e19m, by rw [List.length_reverse, llen]; show _ + 1 ≤ 1000; omega, fun pg H20 s20 hpg => ?_⟩
        refine fun x6 dx6 hx6 hd6 _ => ⟨x6, dx6, .int f, .int en, .ref pg, rfl, upd_same, fun H21 b21 e21 => ⟨rfl, ?_⟩⟩
        have s21 := made_same hx6 hd6 b21
        have s1821 := s19.trans (s20.trans s21)
        have B6 : BadCr K a H21 (wts hs rs) ds x6 := bad_tup ⟨dx6, e21⟩ rfl rfl (s21 _ _ hpg) (fun x hx => by
            rcases List.mem_append.mp hx with h | h
            · exact hlsim x (List.mem_reverse.mp h)
            · rw [List.mem_singleton.mp h]
              exact .inr ⟨0, rfl⟩) (ck_len fun i' j' ei ej => by
            cases ei
            cases ej
            rw [List.length_append, List.length_reverse, llen]
            show _ + 1 ≠ _
            omega)
        have s1621 := (s17.trans s18).trans s1821
        have B1 := B1.same s1621
        have B2 := B2.same s1621
        have B3 := B3.same s1621
        have B4 := B4.same (s18.trans s1821)
        have B5 := B5.same s1821
        have e21r := s1621 _ _ e16
        have s721 := s716.trans s1621
        refine ⟨(by show 3 ≤ sizeLine; decide), fun rl2 hrl2 => ?_⟩
        have s22 := same_new (o := .lst [.ref x4, .ref x5, .ref x6]) hrl2
        refine ⟨rl, rl2, _, _, rfl, rfl, s22 _ _ e21r, upd_same, by show 6 ≤ sizeLine; decide, fun rl3 hrl3 => ?_⟩
        have Bb : ∀ x ∈ [x1, x2, x3, x4, x5, x6], BadCr K a (upd H21 rl2 (.lst [.ref x4, .ref x5, .ref x6])) (wts hs rs) ds x := fun x hx => by
          simp only [List.mem_cons, List.not_mem_nil, or_false] at hx
          rcases hx with rfl | rfl | rfl | rfl | rfl | rfl
          · exact B1.same s22
          · exact B2.same s22
          · exact B3.same s22
          · exact B4.same s22
          · exact B5.same s22
          · exact B6.same s22
        have s722 := s721.trans s22
        generalize upd H21 rl2 (.lst [.ref x4, .ref x5, .ref x6]) = Hb at s722 Bb hrl3 ⊢
        have hltb := s722 _ _ hlt7
        have S22 := S7.same s722
        have w22 := w7.same s722
        have s23 := same_new (o := .lst ([.ref x1, .ref x2, .ref x3] ++ [.ref x4, .ref x5, .ref x6])) hrl3
        have e23 : upd Hb rl3 (.lst ([.ref x1, .ref x2, .ref x3] ++ [.ref x4, .ref x5, .ref x6])) rl3 = some (.lst ([x1, x2, x3, x4, x5, x6].map V.ref)) := upd_same
        generalize upd Hb rl3 (.lst ([.ref x1, .ref x2, .ref x3] ++ [.ref x4, .ref x5, .ref x6])) = H23 at s23 e23 ⊢
        dsimp only
        refine seq_gen (fun σ H' => (σ = [some (.ref p), some (.ref wd), some (.ref dd), some (.ref y), some (.ref st), some (.ref tt), some (.int (i : Nat)), some (.int (f : Nat)), some (.int (en : Nat)), some (.ref lt), some (.bl true), some (.int (at0 : Nat)), some (.ref rl3), u13]) ∧ Same Hb H' ∧
          ∃ xs : List Addr, H' rl3 = some (.lst (xs.map V.ref)) ∧ ∀ x ∈ xs, BadCr K a H' (wts hs rs) ds x) (fun nx hnx => ?_) ?_
        · have idle : ∀ H', Same H23 H' → nx [some (.ref p), some (.ref wd), some (.ref dd), some (.ref y), some (.ref st), some (.ref tt), some (.int (i : Nat)), some (.int (f : Nat)), some (.int (en : Nat)), some (.ref lt), some (.bl true), some (.int (at0 : Nat)), some (.ref rl3), u13] H' := fun H' s' =>
            hnx _ _ ⟨rfl, s23.trans s', _, s' _ _ e23, fun x hx => (Bb x hx).same (s23.trans s')⟩
          refine ⟨.int f, rfl, (by show 2 ≤ sizeLine; decide), fun li hli => ?_⟩
          have s24 := same_new (o := .lst [.int 0, .int 1]) hli
          refine ⟨li, _, rfl, .inl (.of upd_same), rfl, rfl, _, rfl, ite2 (fun _ => ?_) (fun _ => idle _ s24)⟩
          refine ⟨.ref rl3, rfl, .inl ⟨rfl, _, .of (s24 _ _ e23)⟩, .int f, rfl, rfl, .int en, rfl, .ref lt, rfl, fun x7 dx7 hx7 hd7 _ => ⟨x7, dx7, .bl (decide (V.int ((f : Nat) : Int) = V.int 1)), .int en, .ref lt, rfl, upd_same, fun H25 b25 e25 => ⟨rfl, ?_⟩⟩⟩
          have s25 := made_same hx7 hd7 b25
          have s2325 := s24.trans s25
          have e25r := s2325 _ _ e23
          have n7 : x7 ≠ rl3 := fun z => by
            rw [z, e25r] at e25
            cases e25
          refine ⟨rl3, _, .ref x7, rfl, rfl, e25r, (by show 6 < sizeLine; decide), ?_⟩
          have sf : Same Hb (upd H25 rl3 (.lst ([x1, x2, x3, x4, x5, x6].map V.ref ++ [V.ref x7]))) := same_put hrl3 (s23.trans s2325)
          refine hnx _ _ ⟨rfl, sf, [x1, x2, x3, x4, x5, x6] ++ [x7], by rw [upd_same, List.map_append]; rfl, fun x hx => ?_⟩
          rcases List.mem_append.mp hx with h | h
          · exact (Bb x h).same sf
          · rw [List.mem_singleton.mp h]
            exact bad_tup ⟨dx7, by rw [upd_ne n7]; exact e25⟩ rfl rfl (sf _ _ hltb) hlsim rfl
        · rintro σ H26 ⟨rfl, s26, xs, e26, hbx⟩
          refine ⟨.ref rl3, rfl, rl3, rfl, ⟨_, .of e26⟩, ?_⟩
          refine for_it (walk_listM (l := xs) (f := V.ref)) (fun j σ H' => (∃ u13, σ = [some (.ref p), some (.ref wd), some (.ref dd), some (.ref y), some (.ref st), some (.ref tt), some (.int (i : Nat)), some (.int (f : Nat)), some (.int (en : Nat)), some (.ref lt), some (.bl true), some (.int (at0 : Nat)), some (.ref rl3), u13]) ∧ Same H26 H')
            ⟨⟨_, rfl⟩, Same.refl _⟩ (fun _ _ _ _ h => .of (h.2 _ _ e26)) ?_ ?_
          · rintro j x σ H0' H27 hj ⟨⟨v13, rfl⟩, s27⟩ ⟨rfl, xa, hxa, rfl⟩
            have S27 := (S22.same s26).same s27
            refine ⟨.ref y, rfl, .ref st, rfl, .ref tt, rfl, .ref xa, rfl, ?_⟩
            refine S27.ck (((hbx xa (List.mem_of_getElem? hxa)).same s27).ck fun H28 s28 => ?_)
            exact ⟨false, false, rfl, rfl, _, rfl, iteF' rfl ⟨⟨_, rfl⟩, s27.trans s28⟩⟩
          · rintro σ H27 ⟨⟨v13, rfl⟩, s27⟩
            exact ⟨⟨_, _, _, _, _, _, _, _, rfl⟩, (w22.same s26).same s27⟩
    · rintro σ H1 ⟨⟨u6, u7, u8, u9, u10, u11, u12, u13, rfl⟩, w1⟩
      have S1 := S.lw w1
      have mk0 : ∀ {H' : Hp} {x t dx : Addr} {f en : V}, H' x = some (.ins a.C dx (crF f en (.ref t))) → H' t = some (.tup []) → flatV f = true → flatV en = true → ckCr (wts hs rs) ds (.tuple []) f en = false → BadCr K a H' (wts hs rs) ds x :=
        fun {H' x t dx f en} h1 h2 h3 h4 h5 => bad_tup (xs := []) ⟨dx, h1⟩ h3 h4 h2 (fun x hx => by cases hx) h5
      refine ⟨Nat.zero_le _, fun t1 ht1 => fun x1 dx1 hx1 hd1 _ => ⟨x1, dx1, .int 3, .int 1, .ref t1, rfl, upd_same, fun H2 b2 e2 => ⟨rfl, ?_⟩⟩⟩
      have s2 := made_same hx1 hd1 b2
      have B1 : BadCr K a H2 (wts hs rs) ds x1 := mk0 e2 (s2 _ _ upd_same) rfl rfl (by simp [ckCr])
      have s12 := (same_new (o := .tup []) ht1).trans s2
      refine ⟨1, rfl, 1, rfl, Nat.zero_le _, fun t2 ht2 => fun x2 dx2 hx2 hd2 _ => ⟨x2, dx2, .int (-1), .int (-1), .ref t2, rfl, upd_same, fun H3 b3 e3 => ⟨rfl, ?_⟩⟩⟩
      have s3 := made_same hx2 hd2 b3
      have B2 : BadCr K a H3 (wts hs rs) ds x2 := mk0 e3 (s3 _ _ upd_same) rfl rfl (by simp [ckCr])
      have s23 := (same_new (o := .tup []) ht2).trans s3
      have s13 := s12.trans s23
      refine ⟨.ref wd, rfl, wd, _, rfl, (S1.same s13).pw, Nat.zero_le _, fun t3 ht3 => fun x3 dx3 hx3 hd3 _ => ⟨x3, dx3, .int ((pkv (wts hs rs)).length : Nat), .int 0, .ref t3, rfl, upd_same, fun H4 b4 e4 => ⟨rfl, ?_⟩⟩⟩
      have s4 := made_same hx3 hd3 b4
      have B3 : BadCr K a H4 (wts hs rs) ds x3 := mk0 e4 (s4 _ _ upd_same) rfl rfl (by
        generalize (pkv (wts hs rs)).length = n
        cases n with
        | zero =>
          refine Bool.eq_false_iff.mpr fun hh => ?_
          simp only [ckCr, Bool.and_eq_true, PyData.eqv] at hh
          have h1 := eqvAll_len hh.1.2
          rw [List.length_map, lot_length] at h1
          have h2 := of_decide_eq_true hh.2
          simp at h1 h2
          omega
        | succ n => simp [ckCr]; omega)
      have s34 := (same_new (o := .tup []) ht3).trans s4
      have B1 := (B1.same s23).same s34
      have B2 := B2.same s34
      have s14 := s13.trans s34
      refine ⟨(by show 3 ≤ sizeLine; decide), fun rl hrl => ?_⟩
      have s5 := same_new (o := .lst [.ref x1, .ref x2, .ref x3]) hrl
      have e5 : upd H4 rl (.lst [.ref x1, .ref x2, .ref x3]) rl = some (.lst ([x1, x2, x3].map V.ref)) := upd_same
      have Bb : ∀ x ∈ [x1, x2, x3], BadCr K a (upd H4 rl (.lst [.ref x1, .ref x2, .ref x3])) (wts hs rs) ds x := fun x hx => by
        simp only [List.mem_cons, List.not_mem_nil, or_false] at hx
        rcases hx with rfl | rfl | rfl
        · exact B1.same s5
        · exact B2.same s5
        · exact B3.same s5
      have s15 := s14.trans s5
      generalize upd H4 rl (.lst [.ref x1, .ref x2, .ref x3]) = H5 at s15 e5 Bb ⊢
      refine ⟨rl, rfl, ⟨_, .of e5⟩, ?_⟩
      refine for_it (walk_listM (l := [x1, x2, x3]) (f := V.ref)) (fun j σ H' => (∃ u13, σ = [some (.ref p), some (.ref wd), some (.ref dd), some (.ref y), some (.ref st), some (.ref tt), u6, u7, u8, u9, u10, u11, u12, u13]) ∧ Same H5 H')
        ⟨⟨_, rfl⟩, Same.refl _⟩ (fun _ _ _ _ h => .of (h.2 _ _ e5)) ?_ ?_
      · rintro j x σ H0' H6 hj ⟨⟨v13, rfl⟩, s6⟩ ⟨rfl, xa, hxa, rfl⟩
        have S6 := (S1.same s15).same s6
        refine ⟨.ref y, rfl, .ref st, rfl, .ref tt, rfl, .ref xa, rfl, ?_⟩
        unfold tNil
        refine S6.ck (((Bb xa (List.mem_of_getElem? hxa)).same s6).ck fun H7 s7 => ?_)
        exact ⟨false, false, rfl, rfl, _, rfl, iteF' rfl ⟨⟨_, rfl⟩, s6.trans s7⟩⟩
      · rintro σ H6 ⟨⟨v13, rfl⟩, s6⟩
        have w6 := (w1.same s15).same s6
        have sha : SeqAt.shaped (.tuple [.str "a"]) = true := by decide +kernel
        have eqa : PyData.eqv (.tuple [.str "a"]) (.tuple [.str "a"]) = true := by decide +kernel
        have dpa : ∀ {H' : Hp} {t : Addr}, H' t = some (.tup [.str "a"]) → Dp K H' (.ref t) (.tuple [.str "a"]) := fun h => .tup (.of h) (.cons (.str _) .nil)
        refine ⟨(by show 1 ≤ sizeLine; decide), fun ta hta => fun y1 dy1 hy1 hdy1 _ => ⟨y1, dy1, .int 1, .int 2, .ref ta, rfl, upd_same, fun H7 b7 e7 => ⟨rfl, ?_⟩⟩⟩
        have s7 := made_same hy1 hdy1 b7
        have ea7 := s7 _ _ (upd_same (H := H6) (a := ta) (o := .tup [.str "a"]))
        have s67 := (same_new (o := .tup [.str "a"]) hta).trans s7
        refine ⟨(by show 1 ≤ sizeLine; decide), fun tb htb => ⟨rfl, rfl, fun y2 dy2 hy2 hdy2 _ => ⟨y2, dy2, .int 1, .int 2, .ref tb, rfl, upd_same, fun H8 b8 e8 => ⟨rfl, ?_⟩⟩⟩⟩
        have s8 := made_same hy2 hdy2 b8
        have eb8 := s8 _ _ (upd_same (H := H7) (a := tb) (o := .tup [.str "a"]))
        have s78 := (same_new (o := .tup [.str "a"]) htb).trans s8
        refine ⟨y1, y2, dy1, dy2, _, _, rfl, rfl, s78 _ _ e7, e8, y1, y2, 1, 2, 1, 2, .ref ta, .ref tb, _, _, rfl, ⟨dy1, s78 _ _ e7⟩, ⟨dy2, e8⟩, dpa (s78 _ _ ea7), dpa eb8, sha, sha, ⟨_, rfl⟩, ?_⟩
        rw [eqa]
        refine ⟨true, rfl, iteT ?_⟩
        refine ⟨(by show 1 ≤ sizeLine; decide), fun tc htc => fun y3 dy3 hy3 hdy3 _ => ⟨y3, dy3, .int 1, .int 2, .ref tc, rfl, upd_same, fun H9 b9 e9 => ⟨rfl, ?_⟩⟩⟩
        have s9 := made_same hy3 hdy3 b9
        have ec9 := s9 _ _ (upd_same (H := H8) (a := tc) (o := .tup [.str "a"]))
        have s89 := (same_new (o := .tup [.str "a"]) htc).trans s9
        refine ⟨(by show 1 ≤ sizeLine; decide), fun td htd => fun y4 dy4 hy4 hdy4 _ => ⟨y4, dy4, .int 0, .int 2, .ref td, rfl, upd_same, fun H10 b10 e10 => ⟨rfl, ?_⟩⟩⟩
        have s10 := made_same hy4 hdy4 b10
        have ed10 := s10 _ _ (upd_same (H := H9) (a := td) (o := .tup [.str "a"]))
        have s910 := (same_new (o := .tup [.str "a"]) htd).trans s10
        refine ⟨y3, y4, dy3, dy4, _, _, rfl, rfl, s910 _ _ e9, e10, y3, y4, 1, 2, 0, 2, .ref tc, .ref td, _, _, rfl, ⟨dy3, s910 _ _ e9⟩, ⟨dy4, e10⟩, dpa (s910 _ _ ec9), dpa ed10, sha, sha, ⟨_, rfl⟩, ?_⟩
        exact ⟨false, rfl, q _ (w6.same (s67.trans (s78.trans (s89.trans s910))))⟩
end
end K34
end
section
set_option linter.all false
set_option maxRecDepth 100000
/-! Small data for repr; dues that go wrong at a told place. -/
namespace K34
open PySem PySem.Spec PyProof.Rows L2 LamX SX
/-- v reads as d, of depth at most m and weight at most w -/
structure Tiny (K : PySem.W.Frag) (H : Hp) (m w : Nat) (v : V) (d : PyData) : Prop where
  dp : Dp K H v d
  short : d.leavesShort 13 = true
  show_ : d.showable = true
  nod : d.hasDict = false
  low : d.depth ≤ m
  few : d.weight ≤ w
section
variable {K : PySem.W.Frag} {H : Hp} {m w : Nat}
theorem Tiny.mono {m' w' : Nat} {v : V} {d : PyData} (h : Tiny K H m w v d) (h1 : m ≤ m') (h2 : w ≤ w') : Tiny K H m' w' v d := ⟨h.dp, h.short, h.show_, h.nod, Nat.le_trans h.low h1, Nat.le_trans h.few h2⟩
theorem tiny_all : ∀ {vs : List V} {ds : List PyData}, Paired (Tiny K H m w) vs ds → DpAll K H vs ds ∧ PyData.leavesShortAll 13 ds = true ∧ PyData.showableAll ds = true ∧ PyData.hasDictAll ds = false ∧ PyData.depthAll ds ≤ m ∧ PyData.weightAll ds ≤ ds.length * (w + 1)
  | _, _, .nil => ⟨.nil, by simp [PyData.leavesShortAll], by simp [PyData.showableAll], by simp [PyData.hasDictAll], by simp [PyData.depthAll], by simp [PyData.weightAll]⟩
  | _, _, .cons h t => by
    obtain ⟨h1, h2, h3, h4, h5, h6⟩ := tiny_all t
    refine ⟨.cons h.dp h1, ?_, ?_, ?_, ?_, ?_⟩
    · simp only [PyData.leavesShortAll, h.short, h2, Bool.and_self]
    · simp only [PyData.showableAll, h.show_, h3, Bool.and_self]
    · simp only [PyData.hasDictAll, h.nod, h4, Bool.or_self]
    · have := h.low
      simp only [PyData.depthAll]
      omega
    · have := h.few
      simp only [PyData.weightAll, List.length_cons, Nat.add_mul]
      omega
theorem Tiny.lst {r : Addr} {vs : List V} {ds : List PyData} (hr : H r = some (.lst vs)) (h : Paired (Tiny K H m w) vs ds) : Tiny K H (m + 1) (ds.length * (w + 1)) (.ref r) (.list ds) := by
  obtain ⟨h1, h2, h3, h4, h5, h6⟩ := tiny_all h
  refine ⟨.lst (.of hr) h1, by simp only [PyData.leavesShort]; exact h2, by simp only [PyData.showable]; exact h3, by simp only [PyData.hasDict]; exact h4, ?_, by simp only [PyData.weight]; exact h6⟩
  simp only [PyData.depth]
  omega
theorem Tiny.tup {r : Addr} {vs : List V} {ds : List PyData} (hr : H r = some (.tup vs)) (h : Paired (Tiny K H m w) vs ds) : Tiny K H (m + 1) (ds.length * (w + 1)) (.ref r) (.tuple ds) := by
  obtain ⟨h1, h2, h3, h4, h5, h6⟩ := tiny_all h
  refine ⟨.tup (.of hr) h1, by simp only [PyData.leavesShort]; exact h2, by simp only [PyData.showable]; exact h3, by simp only [PyData.hasDict]; exact h4, ?_, by simp only [PyData.weight]; exact h6⟩
  simp only [PyData.depth]
  omega
theorem Tiny.rp {v : V} {d : PyData} (h : Tiny K H m w v d) (h1 : m ≤ 8) (h2 : w ≤ 100000) : RpD K H v d := ⟨h.dp, h.short, by have := h.few; omega, h.show_, h.nod, Nat.le_trans h.low h1⟩
theorem Tiny.str {z : Str} (h : PyData.strOk z = true) (hz : z.length ≤ 100) : Tiny K H 0 100 (.str z) (.str z) := by
  refine ⟨.str z, ?_, by simp only [PyData.showable], by simp only [PyData.hasDict], by simp [PyData.depth], ?_⟩
  · simp only [PyData.leavesShort]
    rw [List.all_eq_true]
    intro c hc
    unfold PyData.strOk at h
    rw [Array.all_eq_true_iff_forall_mem] at h
    have := of_decide_eq_true (h c (by simpa using hc))
    exact decide_eq_true (by omega)
  · simp only [PyData.weight]
    exact hz
theorem nat_short : ∀ n : Nat, n < 100 → (PyData.shown (.int (n : Int))).length ≤ 13 := by decide +kernel
theorem Tiny.nat {n : Nat} (h : n < 100) : Tiny K H 0 100 (.int (n : Nat)) (.int (n : Nat)) := by
  refine ⟨.int _, ?_, ?_, by simp only [PyData.hasDict], by simp [PyData.depth], ?_⟩
  · simp only [PyData.leavesShort]
    exact decide_eq_true (nat_short n h)
  · simp only [PyData.showable]
    have := Nat.log2_le_self n
    exact decide_eq_true (show n.log2 < 1920 by omega)
  · simp only [PyData.weight]
    have := Nat.log2_le_self n
    split
    · omega
    · show n.log2 + 1 ≤ 100
      omega
theorem Tiny.neg : Tiny K H 0 100 (.int (-1)) (.int (-1)) := ⟨.int _, by decide +kernel, by decide +kernel, by decide +kernel, by decide +kernel, by decide +kernel⟩
end
/-- good dues ahead of others -/
theorem run_pre {bs : List Str} : ∀ (pre r t : Pairs2), (∀ q ∈ pre, q.1 ∈ bs ∧ 1 ≤ q.2) → (pre.map fun q => q.1).Nodup → (∀ q ∈ pre, q.1 ∉ t.map (·.1)) → runDues bs (pre ++ r) t = runDues bs r (t ++ pre)
  | [], r, t, _, _, _ => by rw [List.append_nil, List.nil_append]
  | (z, n) :: pre, r, t, h1, h2, h3 => by
    obtain ⟨a1, a2⟩ := h1 (z, n) List.mem_cons_self
    have a3 := h3 (z, n) List.mem_cons_self
    have hn := List.nodup_cons.mp h2
    show (if z ∈ bs then (if z ∈ t.map (·.1) then Dut.refused else if n < 1 then .size else runDues bs (pre ++ r) (t ++ [(z, n)])) else .name z) = _
    have a2 : 1 ≤ n := a2
    rw [if_pos a1, if_neg a3, if_neg (by omega), run_pre pre r (t ++ [(z, n)]) (fun q hq => h1 q (List.mem_cons_of_mem _ hq)) hn.2 fun q hq hm => ?_, List.append_assoc]
    · rfl
    · rw [List.map_append] at hm
      rcases List.mem_append.mp hm with h | h
      · exact h3 q (List.mem_cons_of_mem _ hq) h
      · have e : q.1 = z := List.mem_singleton.mp h
        exact hn.1 (List.mem_map.mpr ⟨q, hq, e⟩)
/-- good dues are taken -/
theorem run_good {bs : List Str} {ps : Pairs2} (h1 : ∀ q ∈ ps, q.1 ∈ bs ∧ 1 ≤ q.2) (h2 : (ps.map fun q => q.1).Nodup) : runDues bs ps [] = .ok ps := by
  have := run_pre (bs := bs) ps [] [] h1 h2 (fun _ _ h => by cases h)
  rw [List.append_nil, List.nil_append] at this
  rw [this]
  rfl
end K34
end
section
set_option linter.all false
set_option maxRecDepth 100000
/-! Errors are tried. -/
namespace K34
open PySem PySem.Spec PyProof.Rows L2 LamX SX
/-- a row of the trial: a pair that goes wrong behind the prefix pre, and what is told of it -/
def RowOk (bs : List Str) (pre : Pairs2) (p l r : Addr) (H : Hp) (ra : Addr) : Prop := ∃ (pr du : Addr) (z : Str) (n : Int) (s1 s2 : Str), H ra = some (.tup [.ref pr, .ref du]) ∧ H pr = some (.tup [.str z, .int n]) ∧ H du = some (.lst [.str s1, .str s2]) ∧ du ≠ p ∧ du ≠ l ∧ du ≠ r ∧
  PyData.strOk s1 = true ∧ s1.length ≤ 100 ∧ PyData.strOk s2 = true ∧ s2.length ≤ 100 ∧ ∀ q, DutTold (runDues bs (pre ++ (z, n) :: q) []) = some (.str s1, .str s2)
theorem RowOk.keep {bs : List Str} {pre : Pairs2} {p l r : Addr} {H H' : Hp} {ra : Addr} {xs : List V} (h : RowOk bs pre p l r H ra) (hs : SrcAt H p l) (hr : H r = some (.lst xs)) (k : ∀ b o, H b = some o → b ≠ p → b ≠ l → b ≠ r → H' b = some o) : RowOk bs pre p l r H' ra := by
  obtain ⟨pr, du, z, n, s1, s2, h1, h2, h3, h4, h5, h6, h7⟩ := h
  have tp : ∀ {b : Addr} {ys : List V}, H b = some (.tup ys) → H' b = some (.tup ys) := fun {b ys} hb => by
    obtain ⟨n1, n2⟩ := hs.np hb (fun xs z => by cases z)
    refine k _ _ hb n1 n2 fun z => ?_
    rw [z, hr] at hb
    cases hb
  exact ⟨pr, du, z, n, s1, s2, tp h1, tp h2, k _ _ h3 h4 h5 h6, h4, h5, h6, h7⟩
section
variable {P : Program} {w : World} {K : PySem.W.Frag} {mg : Str → Option Value} {base : Heap} {a : Ad} {e : Ae}
def spLErrors (a : Ad) : Sp := fun vs H Q _ => ∃ (p l y st lo : Addr) (hs : List Nat) (rs : Rows) (zs : List Str) (z0 : Str), vs = [.ref p, .ref y, .ref st, .ref lo, .str z0] ∧ SrcAt H p l ∧ YardAt a H y hs ∧ StAt H st rs ∧ Good hs rs ∧ 3 ≤ hs.length ∧
  H lo = some (.lst (zs.map V.str)) ∧ lo ≠ p ∧ lo ≠ l ∧ zs.Perm (boxes rs) ∧ z0 ∉ boxes rs ∧ nameB z0 = true ∧ ∀ H', Lw p l H H' → Q (.bl true) H'
theorem ok_LErrors (T : Tx K mg a) (T2 : Tx2 P K mg e) {c TP : Addr} (D : DfC K mg "urgent_order" sUrgentOrder ["waits", "table"] c) (TB : TabB base mg c TP) : CaG P w K mg base 8 "_law_errors" (spLErrors a) := by
  have G1 : Ca P w K mg base CX0 1 "_law_number" spLNumber := ok_LNumber T
  have G2 : Ca P w K mg base CX0 2 "_law_of" spLOf := ok_LOf T
  have G3 : Ca P w K mg base CX0 7 "_law_wrong" (spLWrong a) := ok_LWrong T T2 D TB
  have G4 : Ca P w K mg base CX0 3 "_law_bent" spLBent := ok_LBent T
  refine caG T.dLErrors cLErrors (fun vs H Q E h => ?_) (fun fa cdv A outer s H vs Q E hgd hr h => ?_)
  · obtain ⟨p, l, y, st, lo, hs, rs, zs, z0, rfl, _⟩ := h
    rfl
  · obtain ⟨p, l, y, st, lo, hs, rs, zs, z0, rfl, hsrc, hy, hst, g, h3, hlo, lo1, lo2, hzp, hz0, hz0n, q⟩ := h
    have hu := hu_of hr
    have hu0 : (A.deeper (envOfC "_law_errors" (defScope sLErrors) s.heap.objs.size fa cdv)).units < cLine := Nat.lt_of_succ_lt hu
    have hu16 : (A.deeper (envOfC "_law_errors" (defScope sLErrors) s.heap.objs.size fa cdv)).units + 16 < cLine := by
      have := hr.units
      omega
    have nd := cLErrors.nd
    refine ⟨_, pss_cons (ps_set (i := 5) nd rfl (.inl rfl) (pe_callTy call_tuple_of (by rfl) T.m_tuple PyProof.Rows.boot_tuple (pa_cons
        (pe_lc (own := [("_law_box", 14)]) (g := gName 14) (tt := tYes) (te := tTup (tCons (tVar 14) (tCons (tOp (rI0 fun i j => .int (i + j)) (tC (.int 1)) (tCall spLNumber [] E0 (tCons (tVar 0) (tCons (tC (.int 30)) tNil)))) tNil))) rfl nd (pi_list (pv 3)) (blkOk_by (N := nLErrors) (sc := defScope sLErrors) (by decide +kernel))
          (fun _ _ _ _ _ => by exact pg_name (i := 14) nd rfl (Or.inl rfl)) (fun _ _ _ _ _ => pts_nil) (fun _ _ _ _ _ => by exact pe_tup (pa_cons (pv 14) (pa_cons (pe_op op_add pe_int (pe_c0 G1 hr (by decide) (by rfl) (pa_cons (pv 0) (pa_cons pe_int pa_nil)))) pa_nil)))) pa_nil)))
      (pss_cons (ps_par (i := 6) (j := 7) rfl nd rfl rfl (by decide) rfl rfl (pa_cons (pe_c0 G1 hr (by decide) (by rfl) (pa_cons (pv 0) (pa_cons (pe_op op_add (pe_callB call_len_seq (by rfl) T.m_len PySem.boot_len (pa_cons (pv 3) pa_nil)) pe_int) pa_nil))) (pa_cons (pe_un un_neg (pe_c0 G1 hr (by decide) (by rfl) (pa_cons (pv 0) (pa_cons pe_int pa_nil)))) pa_nil)) (by rfl))
      (pss_cons (ps_set (i := 8) nd rfl (.inl rfl) (pe_c0 G2 hr (by decide) (by rfl) (pa_cons (pv 0) (pa_cons (pe_lst (pa_cons (pe_tup pa_nil) (pa_cons (pe_tup (pa_cons (pe_tup (pa_cons (pv 4) (pa_cons pe_int pa_nil))) pa_nil))
          (pa_cons (pe_slice sl_tupU (pv 5) (po_some (pv 6)) po_none) (pa_cons (pe_slice sl_tupU (pv 5) po_none (po_some pe_int)) pa_nil))))) pa_nil))))
      (pss_cons (ps_set (i := 9) nd rfl (.inl rfl) (pe_lst (pa_cons (pe_tup (pa_cons (pe_tup (pa_cons (pv 4) (pa_cons (pv 7) pa_nil))) (pa_cons (pe_lst (pa_cons pe_str (pa_cons (pv 4) pa_nil))) pa_nil))) pa_nil)))
      (pss_cons (ps_if (pt_cmpR (op_neE hu0) (pv 3) (pe_lst pa_nil) (by rfl))
        (pss_one (ps_expr (pe_bm PySem.F.plainAttrs_list PySem.F.slot_list_append PySem.F.type_list_append mt_append (pv 9) (pa_cons (pe_tup (pa_cons (pe_tup (pa_cons (pe_ifExp (pt_cmpR op_lt (pv 6) (pe_callB call_len_seq (by rfl) T.m_len PySem.boot_len (pa_cons (pv 3) pa_nil)) (nomark _)) (pe_ix ix_list (pv 3) (pv 6) (fun _ _ => rfl)) (pe_ix ix_list (pv 3) pe_int (fun _ _ => rfl))) (pa_cons (pv 7) pa_nil)))
          (pa_cons (pe_ifExp (pt_cmpR op_lt (pv 6) (pe_callB call_len_seq (by rfl) T.m_len PySem.boot_len (pa_cons (pv 3) pa_nil)) (nomark _)) (pe_lst (pa_cons pe_str (pa_cons pe_str pa_nil))) (pe_lst (pa_cons pe_str (pa_cons pe_str pa_nil)))) pa_nil))) pa_nil)))) pss_nil)
      (pss_cons (ps_if (pt_cmpR op_gt (pv 6) pe_int (nomark _))
        (pss_one (ps_expr (pe_bm PySem.F.plainAttrs_list PySem.F.slot_list_append PySem.F.type_list_append mt_append (pv 9) (pa_cons (pe_tup (pa_cons (pe_tup (pa_cons (pe_c0 G2 hr (by decide) (by rfl) (pa_cons (pv 0) (pa_cons (pe_slice sl_list (pv 3) po_none (po_some (pv 6))) pa_nil))) (pa_cons (pe_c0 G2 hr (by decide) (by rfl) (pa_cons (pv 0) (pa_cons (pe_lst (pa_cons (pv 7) (pa_cons pe_int pa_nil))) pa_nil))) pa_nil)))
          (pa_cons (pe_lst (pa_cons pe_str (pa_cons pe_str pa_nil))) pa_nil))) pa_nil)))) pss_nil)
      (pss_cons (ps_for PassesOwn.never rfl (pi_list (pv 9)) (pg_tup rfl (pgs_cons (pg_name (i := 10) nd rfl (Or.inl rfl)) (pgs_cons (pg_name (i := 11) nd rfl (Or.inl rfl)) pgs_nil)))
        (pss_one (ps_if (pt_cmpR op_ne (pe_callB (cr_reprD (show A.guards = some [] from hgd) hu16) (by rfl) T.m_repr PyProof.Rows.boot_repr (pa_cons (pe_c0 G3 hr (by decide) (by rfl) (pa_cons (pe_c0 G1 hr (by decide) (by rfl) (pa_cons (pv 0) (pa_cons pe_int pa_nil))) (pa_cons (pv 1) (pa_cons (pv 2) (pa_cons (pe_op op_catU (pe_op op_catU (pe_slice sl_tupU (pv 5) po_none (po_some (pv 6))) (pe_tup (pa_cons (pv 10) pa_nil))) (pv 8)) pa_nil))))) pa_nil))
            (pe_callB (cr_reprD (show A.guards = some [] from hgd) hu16) (by rfl) T.m_repr PyProof.Rows.boot_repr (pa_cons (pv 11) pa_nil)) (nomark _))
          (pss_one (ps_ret pe_bl)) pss_nil)))
      (pss_cons (ps_asg (pe_c0 G4 hr (by decide) (by rfl) (pa_cons (pv 0) (pa_cons (pv 2) pa_nil))) (pg_lst rfl (pgs_cons (pg_name (i := 12) nd rfl (Or.inl rfl)) (pgs_cons (pg_name (i := 13) nd rfl (Or.inl rfl)) pgs_nil))))
      (pss_one (ps_ret (pe_cmpR op_eq (pe_callB (cr_reprD (show A.guards = some [] from hgd) hu16) (by rfl) T.m_repr PyProof.Rows.boot_repr (pa_cons (pe_c0 G3 hr (by decide) (by rfl) (pa_cons (pe_c0 G1 hr (by decide) (by rfl) (pa_cons (pv 0) (pa_cons pe_int pa_nil))) (pa_cons (pv 1) (pa_cons (pv 12) (pa_cons (pe_tup (pa_cons (pe_tup (pa_cons (pv 4) (pa_cons (pv 7) pa_nil))) pa_nil)) pa_nil))))) pa_nil))
          (pe_callB (cr_reprD (show A.guards = some [] from hgd) hu16) (by rfl) T.m_repr PyProof.Rows.boot_repr (pa_cons (pe_lst (pa_cons pe_str (pa_cons (pv 13) pa_nil))) pa_nil)) (nomark _))))))))))), ?_⟩
    have few := g.few
    have hzl : zs.length ≤ 24 := by rw [hzp.length_eq]; exact few
    have hznd : zs.Nodup := hzp.nodup_iff.mpr g.nd
    refine ⟨.ref lo, rfl, lo, rfl, ⟨_, .of hlo⟩, fun D0 hD0 => ?_⟩
    have d0 := hsrc.new hD0
    refine lc_it (walk_listM (l := zs) (f := V.str)) (fun i H' => ∃ ps : Dues, LcW p l H D0 (pfs ps) H' ∧ duesIn H' ps ∧ (ps.map fun q => q.2.1) = zs.take i ∧ ∀ q ∈ ps, 1 ≤ q.2.2) ⟨[], LcW.zero hsrc hD0, fun q hq => (by cases hq), rfl, fun q hq => (by cases hq)⟩ (fun i H' _ h => h.elim fun _ h => .of (h.1.1.keep _ _ hlo lo1 lo2)) ?_ ?_
    · rintro i x H2 H3 hi ⟨ps, c, hd, hk, hp⟩ ⟨rfl, z, hz, rfl⟩
      refine ⟨rfl, yesT ⟨.str z, rfl, .ref p, rfl, p, l, 30, rfl, c.1.src, by decide, by decide, fun H4 k lw hkk => ⟨1, k, rfl, rfl, (by show 2 ≤ sizeLine; decide), fun t ht => ?_⟩⟩⟩
      have hd4 := hd.lw c.1.src lw
      have s5 := same_new (o := .tup [.str z, .int (1 + (k : Nat))]) ht
      have hpl : ps.length ≤ 24 := by
        have := congrArg List.length hk
        rw [List.length_map, List.length_take] at this
        omega
      obtain ⟨acc, a1, a2, a3⟩ := LcW.step (y := V.ref t) hsrc hD0 c (lw.same s5) (by rw [List.length_map]; exact small1000 (by omega)) rfl
      refine ⟨acc, a1, a2, ps ++ [(t, z, (1 : Int) + (k : Nat))], ?_, fun q hq => ?_, ?_, fun q hq => ?_⟩
      · show LcW _ _ _ _ ((ps ++ [(t, z, _)]).map _) _
        rw [List.map_append]
        exact a3
      · have h1 : upd H4 t (.tup [.str z, .int (1 + (k : Nat))]) q.1 = some (.tup [.str q.2.1, .int q.2.2]) := by
          rcases List.mem_append.mp hq with h | h
          · exact s5 _ _ (hd4 q h)
          · rw [List.mem_singleton.mp h]
            exact upd_same
        rw [upd_ne]
        · exact h1
        · intro e1
          rw [e1, a1] at h1
          cases h1
      · rw [List.map_append, hk, List.take_add_one, hz]
        rfl
      · rcases List.mem_append.mp hq with h | h
        · exact hp q h
        · rw [List.mem_singleton.mp h]
          show 1 ≤ 1 + ((k : Nat) : Int)
          omega
    · rintro H2 ⟨ps, c, hd, hk, hp⟩
      rw [List.take_length] at hk
      have hpl : ps.length = zs.length := by
        have := congrArg List.length hk
        rwa [List.length_map] at this
      refine ⟨D0, _, rfl, .inl ⟨.of c.2, fun dt hdt => ?_⟩⟩
      have s3 := same_new (o := .tup (pfs ps)) hdt
      have du3 : DuesAt (upd H2 dt (.tup (pfs ps))) dt ps := ⟨upd_same, fun q hq => s3 _ _ (hd q hq)⟩
      have w3 := c.1.same s3
      generalize upd H2 dt (.tup (pfs ps)) = H3 at s3 du3 w3 ⊢
      have dulw : ∀ {H' H'' : Hp} {b : Addr} {qs : Dues}, SrcAt H' p l → DuesAt H' b qs → Lw p l H' H'' → DuesAt H'' b qs := fun hs' h w' => ⟨w'.get hs' h.1 fun xs z => (by cases z), fun q hq => w'.get hs' (h.2 q hq) fun xs z => (by cases z)⟩
      refine ⟨.ref p, rfl, .ref lo, rfl, lo, _, rfl, .inl (.of (w3.keep _ _ hlo lo1 lo2)), _, 1, rfl, rfl, p, l, zs.length + 1, args2 (by rw [List.length_map]; rfl), w3.src, by omega, by omega, fun H4 at0 w4 hat => ?_⟩
      have du4 := dulw w3.src du3 w4
      have w4 := w3.trans w4
      refine ⟨.ref p, rfl, p, l, 9, rfl, w4.src, by decide, by decide, fun H5 k w5 hkk => ⟨k, rfl, _, _, rfl, ?_⟩⟩
      have du5 := dulw w4.src du4 w5
      have w5 := w4.trans w5
      have psz : ∀ q ∈ ps, q.2.1 ∈ boxes rs ∧ 1 ≤ q.2.2 := fun q hq => ⟨hzp.mem_iff.mp (by rw [← hk]; exact List.mem_map_of_mem (f := fun q : Addr × Str × Int => q.2.1) hq), hp q hq⟩
      obtain ⟨low, hlow⟩ : ∃ low : Int, low = -(k : Int) := ⟨_, rfl⟩
      have hlow1 : low < 1 := by omega
      rw [show (fun i : Int => V.int (-i)) (k : Nat) = V.int low from congrArg V.int hlow.symm]
      -- what stands behind
      refine ⟨.ref p, rfl, Nat.zero_le _, fun t0 ht0 => ?_⟩
      have s6 := same_new (o := .tup []) ht0
      have e6 : upd H5 t0 (.tup []) t0 = some (.tup []) := upd_same
      generalize upd H5 t0 (.tup []) = H6 at s6 e6 ⊢
      refine ⟨.str z0, rfl, (by show 2 ≤ sizeLine; decide), fun t1 ht1 => ?_⟩
      have s7 := same_new (o := .tup [.str z0, .int 1]) ht1
      have e7 : upd H6 t1 (.tup [.str z0, .int 1]) t1 = some (.tup [.str z0, .int 1]) := upd_same
      generalize upd H6 t1 (.tup [.str z0, .int 1]) = H7 at s7 e7 ⊢
      refine ⟨(by show 1 ≤ sizeLine; decide), fun t2 ht2 => ?_⟩
      have s8 := same_new (o := .tup [.ref t1]) ht2
      have e8 : upd H7 t2 (.tup [.ref t1]) t2 = some (.tup [.ref t1]) := upd_same
      generalize upd H7 t2 (.tup [.ref t1]) = H8 at s8 e8 ⊢
      have s58 := s6.trans (s7.trans s8)
      refine ⟨.ref dt, rfl, .int at0, rfl, at0, rfl, dt, _, rfl, (du5.same s58).1, fun pa H9 s9 hpa => ?_⟩
      rw [cut_drop] at hpa
      refine ⟨.ref dt, rfl, 1, rfl, dt, _, rfl, ((du5.same s58).same s9).1, fun pb H10 s10 hpb => ?_⟩
      rw [show (1 : Int) = ((1 : Nat) : Int) from rfl, cut_take] at hpb
      refine ⟨(by show 4 ≤ sizeLine; decide), fun b hb => ?_⟩
      have s11 := same_new (o := .lst [.ref t0, .ref t2, .ref pa, .ref pb]) hb
      have eb : upd H10 b (.lst [.ref t0, .ref t2, .ref pa, .ref pb]) b = some (.lst [.ref t0, .ref t2, .ref pa, .ref pb]) := upd_same
      have s811 := s9.trans (s10.trans s11)
      have s511 := s58.trans s811
      obtain ⟨b1, b2⟩ := (w5.same (s58.trans (s9.trans s10))).src.new hb
      generalize upd H10 b (.lst [.ref t0, .ref t2, .ref pa, .ref pb]) = H11 at s11 eb s811 s511 ⊢
      have w11 := w5.same s511
      have du11 := du5.same s511
      refine ⟨p, l, .ref b, rfl, w11.src, .inl ⟨b, _, rfl, eb, b1, b2, List.cons_ne_nil _ _, (by show 4 < 1000; decide), fun H12 j v w12 hv => ?_⟩⟩
      obtain ⟨bh, rfl, qs, hqs, hql⟩ : ∃ bh, v = .ref bh ∧ ∃ qs : Dues, DuesAt H11 bh qs ∧ qs.length ≤ 24 := by
        have := List.mem_of_getElem? hv
        simp only [List.mem_cons, List.not_mem_nil, or_false] at this
        rcases this with rfl | rfl | rfl | rfl
        · exact ⟨t0, rfl, [], ⟨(s7.trans (s8.trans s811)) _ _ e6, fun q hq => by cases hq⟩, Nat.zero_le _⟩
        · refine ⟨t2, rfl, [(t1, z0, 1)], ⟨s811 _ _ e8, fun q hq => ?_⟩, (by show 1 ≤ 24; decide)⟩
          rw [List.mem_singleton.mp hq]
          exact (s8.trans s811) _ _ e7
        · refine ⟨pa, rfl, ps.drop at0, ⟨?_, fun q hq => du11.2 q (List.mem_of_mem_drop hq)⟩, by rw [List.length_drop]; omega⟩
          rw [List.map_drop]
          exact (s10.trans s11) _ _ hpa
        · refine ⟨pb, rfl, ps.take 1, ⟨?_, fun q hq => du11.2 q (List.mem_of_mem_take hq)⟩, by rw [List.length_take]; omega⟩
          rw [List.map_take]
          exact s11 _ _ hpb
      have du12 := dulw w11.src du11 w12
      have hqs12 := dulw w11.src hqs w12
      have w12 := w11.trans w12
      obtain ⟨pre, hpre⟩ : ∃ pre : Pairs2, pre = (ps.take at0).map (·.2) := ⟨_, rfl⟩
      have hpre1 : ∀ q ∈ pre, q.1 ∈ boxes rs ∧ 1 ≤ q.2 := fun q hq => by
        rw [hpre] at hq
        obtain ⟨q', hq', rfl⟩ := List.mem_map.mp hq
        exact psz q' (List.mem_of_mem_take hq')
      have hpk : pre.map (fun q => q.1) = zs.take at0 := by
        rw [hpre, List.map_map, ← hk, ← List.map_take]
        rfl
      have hpre2 : (pre.map fun q => q.1).Nodup := by
        rw [hpk]
        exact hznd.sublist (List.take_sublist _ _)
      have hrun : ∀ (x : Str × Int) (q : Pairs2), runDues (boxes rs) (pre ++ x :: q) [] = runDues (boxes rs) (x :: q) pre := fun x q => by
        rw [run_pre pre (x :: q) [] hpre1 hpre2 fun _ _ h => by cases h]
        rfl
      have ok0 : PyData.strOk z0 = true ∧ z0.length ≤ 100 := ⟨name_ok hz0n, by have := nameB_len hz0n; omega⟩
      refine ⟨.str z0, rfl, .int low, rfl, (by show 2 ≤ sizeLine; decide), fun t3 ht3 => ?_⟩
      have s13 := same_new (o := .tup [.str z0, .int low]) ht3
      have e13 : upd H12 t3 (.tup [.str z0, .int low]) t3 = some (.tup [.str z0, .int low]) := upd_same
      generalize upd H12 t3 (.tup [.str z0, .int low]) = H13 at s13 e13 ⊢
      refine ⟨.str z0, rfl, (by show 2 ≤ sizeLine; decide), fun l3 hl3 => ?_⟩
      have s14 := same_new (o := .lst [.str "name", .str z0]) hl3
      have e14 : upd H13 l3 (.lst [.str "name", .str z0]) l3 = some (.lst [.str "name", .str z0]) := upd_same
      obtain ⟨l3p, l3l⟩ := (w12.same s13).src.new hl3
      generalize upd H13 l3 (.lst [.str "name", .str z0]) = H14 at s14 e14 ⊢
      refine ⟨(by show 2 ≤ sizeLine; decide), fun t4 ht4 => ?_⟩
      have s15 := same_new (o := .tup [.ref t3, .ref l3]) ht4
      have e15 : upd H14 t4 (.tup [.ref t3, .ref l3]) t4 = some (.tup [.ref t3, .ref l3]) := upd_same
      generalize upd H14 t4 (.tup [.ref t3, .ref l3]) = H15 at s15 e15 ⊢
      refine ⟨(by show 1 ≤ sizeLine; decide), fun rl hrl => ?_⟩
      have s16 := same_new (o := .lst [.ref t4]) hrl
      have e16 : upd H15 rl (.lst [.ref t4]) rl = some (.lst ([t4].map V.ref)) := upd_same
      have l3r : l3 ≠ rl := ne_of_none (s15 _ _ e14) hrl
      have s1216 := s13.trans (s14.trans (s15.trans s16))
      have nrl : H rl = none := (w12.same (s13.trans (s14.trans s15))).free hrl
      obtain ⟨rlp, rll⟩ := hsrc.new nrl
      have hlorl : lo ≠ rl := ne_of_none hlo nrl
      have R0 : ∀ ra ∈ [t4], RowOk (boxes rs) pre p l rl (upd H15 rl (.lst [.ref t4])) ra := fun ra hra => by
        rw [List.mem_singleton.mp hra]
        refine ⟨t3, l3, z0, low, "name", z0, s16 _ _ e15, (s14.trans (s15.trans s16)) _ _ e13, (s15.trans s16) _ _ e14, l3p, l3l, l3r, by decide +kernel, by decide +kernel, ok0.1, ok0.2, fun q => ?_⟩
        rw [hrun]
        show DutTold (if z0 ∈ boxes rs then _ else .name z0) = _
        rw [if_neg hz0]
        rfl
      have w16 := w12.same s1216
      have du16 := du12.same s1216
      have hqs16 := hqs12.same s1216
      generalize upd H15 rl (.lst [.ref t4]) = H16 at s1216 e16 R0 w16 du16 hqs16 ⊢
      obtain ⟨I, hI⟩ : ∃ I : Nat → L2.St → Hp → Prop, I = fun nr σ H' => (∃ u10 u11 u12 u13, σ = [some (.ref p), some (.ref y), some (.ref st), some (.ref lo), some (.str z0), some (.ref dt), some (.int (at0 : Nat)), some (.int low), some (.ref bh), some (.ref rl), u10, u11, u12, u13, none]) ∧ Lw p l H H' ∧ DuesAt H' dt ps ∧ DuesAt H' bh qs ∧
        ∃ rws : List Addr, H' rl = some (.lst (rws.map V.ref)) ∧ rws.length ≤ nr ∧ ∀ ra ∈ rws, RowOk (boxes rs) pre p l rl H' ra := ⟨_, rfl⟩
      have dune : ∀ {Hc : Hp} {b : Addr} {qq : Dues} {xs : List V} {o : HO}, Hc rl = some (.lst xs) → DuesAt Hc b qq → DuesAt (upd Hc rl o) b qq := fun {Hc b qq xs o} hr0 h => by
        refine ⟨?_, fun q hq => ?_⟩
        · have h1 := h.1
          rw [upd_ne fun z => by rw [z, hr0] at h1; cases h1]
          exact h1
        · have h2 := h.2 q hq
          rw [upd_ne fun z => by rw [z, hr0] at h2; cases h2]
          exact h2
      have add : ∀ (nr : Nat) (Hc : Hp) (rws : List Addr) (ra : Addr) (v10 v11 v12 v13 : Option V), Lw p l H Hc → DuesAt Hc dt ps → DuesAt Hc bh qs → Hc rl = some (.lst (rws.map V.ref)) → rws.length ≤ nr → (∀ ra ∈ rws, RowOk (boxes rs) pre p l rl Hc ra) → RowOk (boxes rs) pre p l rl Hc ra →
          I (nr + 1) [some (.ref p), some (.ref y), some (.ref st), some (.ref lo), some (.str z0), some (.ref dt), some (.int (at0 : Nat)), some (.int low), some (.ref bh), some (.ref rl), v10, v11, v12, v13, none] (upd Hc rl (.lst (rws.map V.ref ++ [.ref ra]))) := by
        intro nr Hc rws ra v10 v11 v12 v13 wc d1 d2 hr0 hl0 h1 h2
        rw [hI]
        refine ⟨⟨_, _, _, _, rfl⟩, Lw.putn hsrc nrl wc, dune hr0 d1, dune hr0 d2, rws ++ [ra], by rw [upd_same, List.map_append]; rfl, by rw [List.length_append]; show rws.length + 1 ≤ nr + 1; omega, fun x hx => ?_⟩
        have hx1 : RowOk (boxes rs) pre p l rl Hc x := by
          rcases List.mem_append.mp hx with h | h
          · exact h1 x h
          · rw [List.mem_singleton.mp h]
            exact h2
        exact hx1.keep wc.src hr0 fun b o e _ _ n3 => by
          rw [upd_ne n3]
          exact e
      dsimp only
      refine seq_gen (I 2) (fun nx hnx => ?_) ?_
      · have hlo16 := w16.keep _ _ hlo lo1 lo2
        refine ⟨.ref lo, rfl, Nat.zero_le _, fun E0 hE0 => ?_⟩
        have s17 := same_new (o := .lst []) hE0
        have e17 : upd H16 E0 (.lst []) E0 = some (.lst []) := upd_same
        generalize upd H16 E0 (.lst []) = H17 at s17 e17 ⊢
        have hlo17 := s17 _ _ hlo16
        have rl17 := s17 _ _ e16
        refine ⟨lo, E0, _, rfl, rfl, .inl ⟨.of hlo17, .of e17⟩, _, rfl, ?_⟩
        have elz : (zs.map V.str).length = zs.length := List.length_map _
        cases hzz : zs with
        | nil =>
          refine iteF' rfl (hnx _ _ ?_)
          rw [hI]
          exact ⟨⟨_, _, _, _, rfl⟩, w16.same s17, du16.same s17, hqs16.same s17, [t4], rl17, (by show 1 ≤ 2; decide), fun ra hra => (R0 ra hra).keep w16.src e16 fun b o e _ _ _ => s17 b o e⟩
        | cons zz zr =>
          refine iteT' rfl ?_
          have hpos : 0 < zs.length := by
            rw [hzz]
            exact Nat.succ_pos _
          have names := g.names
          -- the row is laid
          have lay : ∀ (z : Str) (s1 s2 : Str) (H18 : Hp) (t5 : Addr), Same H17 H18 → H18 t5 = some (.tup [.str z, .int low]) → PyData.strOk s1 = true → s1.length ≤ 100 → PyData.strOk s2 = true → s2.length ≤ 100 → (∀ q, DutTold (runDues (boxes rs) (pre ++ (z, low) :: q) []) = some (.str s1, .str s2)) →
              ∀ l5, H18 l5 = none → ∀ t6, upd H18 l5 (.lst [.str s1, .str s2]) t6 = none → ∀ o, o = HO.tup [.ref t5, .ref l5] → I 2 [some (.ref p), some (.ref y), some (.ref st), some (.ref lo), some (.str z0), some (.ref dt), some (.int (at0 : Nat)), some (.int low), some (.ref bh), some (.ref rl), none, none, none, none, none]
                (upd (upd (upd H18 l5 (.lst [.str s1, .str s2])) t6 o) rl (.lst ([t4].map V.ref ++ [.ref t6]))) := by
            intro z s1 s2 H18 t5 s18 h5 k1 k2 k3 k4 hq l5 hl5 t6 ht6 o ho
            subst ho
            have s19 := same_new (o := .lst [.str s1, .str s2]) hl5
            have e19 : upd H18 l5 (.lst [.str s1, .str s2]) l5 = some (.lst [.str s1, .str s2]) := upd_same
            have w18 := (w16.same s17).same s18
            obtain ⟨n1, n2⟩ := w18.src.new hl5
            have n3 : l5 ≠ rl := (ne_of_none (s18 _ _ rl17) hl5).symm
            generalize upd H18 l5 (.lst [.str s1, .str s2]) = H19 at s19 e19 ht6 ⊢
            have s20 := same_new (o := .tup [.ref t5, .ref l5]) ht6
            have e20 : upd H19 t6 (.tup [.ref t5, .ref l5]) t6 = some (.tup [.ref t5, .ref l5]) := upd_same
            generalize upd H19 t6 (.tup [.ref t5, .ref l5]) = H20 at s20 e20 ⊢
            have s1720 := s18.trans (s19.trans s20)
            have s1620 := s17.trans s1720
            exact add 1 H20 [t4] t6 _ _ _ _ (w16.same s1620) (du16.same s1620) (hqs16.same s1620) (s1720 _ _ rl17) (Nat.le_refl _) (fun ra hra => (R0 ra hra).keep w16.src e16 fun b o e _ _ _ => s1620 b o e)
              ⟨t5, l5, z, low, s1, s2, e20, (s19.trans s20) _ _ h5, s20 _ _ e19, n1, n2, n3, k1, k2, k3, k4, hq⟩
          by_cases hlt : at0 < zs.length
          · have hd1 : decide (((at0 : Nat) : Int) < (((zs.map V.str).length : Nat) : Int)) = true := decide_eq_true (by rw [elz]; omega)
            obtain ⟨zk, hzk⟩ : ∃ zk, zs[at0]? = some zk := ⟨_, List.getElem?_eq_getElem hlt⟩
            have zkb : zk ∈ boxes rs := hzp.mem_iff.mp (List.mem_of_getElem? hzk)
            have zkn : zk ∉ pre.map (fun q => q.1) := fun hm => by
              rw [hpk] at hm
              obtain ⟨jx, hj, ej⟩ := List.mem_iff_getElem.mp hm
              rw [List.length_take] at hj
              rw [List.getElem_take] at ej
              obtain ⟨hk2, ek⟩ := List.getElem?_eq_some_iff.mp hzk
              have := (List.getElem_inj hznd).mp (ej.trans ek.symm)
              omega
            refine ⟨.ref rl, rfl, .inl ⟨rfl, _, .of rl17⟩, .int at0, rfl, .ref lo, rfl, lo, _, rfl, .inl (.of hlo17), at0, _, rfl, rfl, _, rfl, iteT' hd1 ?_⟩
            refine ⟨.ref lo, rfl, .int at0, rfl, lo, _, at0, .str zk, rfl, rfl, .of hlo17, atI_nat (by rw [List.getElem?_map, hzk]; rfl), .int low, rfl, (by show 2 ≤ sizeLine; decide), fun t5 ht5 => ?_⟩
            have s18 := same_new (o := .tup [.str zk, .int low]) ht5
            have e18 : upd H17 t5 (.tup [.str zk, .int low]) t5 = some (.tup [.str zk, .int low]) := upd_same
            generalize upd H17 t5 (.tup [.str zk, .int low]) = H18 at s18 e18 ⊢
            refine ⟨.int at0, rfl, .ref lo, rfl, lo, _, rfl, .inl (.of (s18 _ _ hlo17)), at0, _, rfl, rfl, _, rfl, iteT' hd1 ?_⟩
            refine ⟨(by show 2 ≤ sizeLine; decide), fun l5 hl5 => ⟨(by show 2 ≤ sizeLine; decide), fun t6 ht6 => ?_⟩⟩
            have r20 : upd (upd H18 l5 (.lst [.str "size", .str "due"])) t6 (.tup [.ref t5, .ref l5]) rl = some (.lst ([t4].map V.ref)) := (same_new ht6) _ _ ((same_new hl5) _ _ (s18 _ _ rl17))
            refine ⟨rl, _, .ref t6, rfl, rfl, r20, (by show 1 < sizeLine; decide), hnx _ _ ?_⟩
            exact lay zk "size" "due" H18 t5 s18 e18 (by decide +kernel) (by decide +kernel) (by decide +kernel) (by decide +kernel) (fun q => by
              rw [hrun]
              show DutTold (if zk ∈ boxes rs then (if zk ∈ pre.map (·.1) then Dut.refused else if low < 1 then .size else runDues (boxes rs) q (pre ++ [(zk, low)])) else .name zk) = _
              rw [if_pos zkb, if_neg zkn, if_pos hlow1]
              rfl) l5 hl5 t6 ht6 _ rfl
          · have hd1 : decide (((at0 : Nat) : Int) < (((zs.map V.str).length : Nat) : Int)) = false := decide_eq_false (by rw [elz]; omega)
            obtain ⟨zk, hzk⟩ : ∃ zk, zs[0]? = some zk := ⟨_, List.getElem?_eq_getElem hpos⟩
            have zkb : zk ∈ boxes rs := hzp.mem_iff.mp (List.mem_of_getElem? hzk)
            have zkn : zk ∈ pre.map (fun q => q.1) := by
              rw [hpk, List.take_of_length_le (by omega)]
              exact List.mem_of_getElem? hzk
            refine ⟨.ref rl, rfl, .inl ⟨rfl, _, .of rl17⟩, .int at0, rfl, .ref lo, rfl, lo, _, rfl, .inl (.of hlo17), at0, _, rfl, rfl, _, rfl, iteF' hd1 ?_⟩
            refine ⟨.ref lo, rfl, lo, _, 0, .str zk, rfl, rfl, .of hlo17, atI_nat (j := 0) (by rw [List.getElem?_map, hzk]; rfl), .int low, rfl, (by show 2 ≤ sizeLine; decide), fun t5 ht5 => ?_⟩
            have s18 := same_new (o := .tup [.str zk, .int low]) ht5
            have e18 : upd H17 t5 (.tup [.str zk, .int low]) t5 = some (.tup [.str zk, .int low]) := upd_same
            generalize upd H17 t5 (.tup [.str zk, .int low]) = H18 at s18 e18 ⊢
            refine ⟨.int at0, rfl, .ref lo, rfl, lo, _, rfl, .inl (.of (s18 _ _ hlo17)), at0, _, rfl, rfl, _, rfl, iteF' hd1 ?_⟩
            refine ⟨(by show 2 ≤ sizeLine; decide), fun l5 hl5 => ⟨(by show 2 ≤ sizeLine; decide), fun t6 ht6 => ?_⟩⟩
            have r20 : upd (upd H18 l5 (.lst [.str "refused", .str "dues"])) t6 (.tup [.ref t5, .ref l5]) rl = some (.lst ([t4].map V.ref)) := (same_new ht6) _ _ ((same_new hl5) _ _ (s18 _ _ rl17))
            refine ⟨rl, _, .ref t6, rfl, rfl, r20, (by show 1 < sizeLine; decide), hnx _ _ ?_⟩
            exact lay zk "refused" "dues" H18 t5 s18 e18 (by decide +kernel) (by decide +kernel) (by decide +kernel) (by decide +kernel) (fun q => by
              rw [hrun]
              show DutTold (if zk ∈ boxes rs then (if zk ∈ pre.map (·.1) then Dut.refused else if low < 1 then .size else runDues (boxes rs) q (pre ++ [(zk, low)])) else .name zk) = _
              rw [if_pos zkb, if_pos zkn]
              rfl) l5 hl5 t6 ht6 _ rfl
      · intro σ H17 hI2
        rw [hI] at hI2
        obtain ⟨⟨v10, v11, v12, v13, rfl⟩, w17, du17, qs17, rws, rl17, hrl2, R17⟩ := hI2
        refine seq_gen (I 3) (fun nx hnx => ?_) ?_
        · refine ⟨.int at0, rfl, at0, 0, rfl, rfl, _, rfl, ite2 (fun hgt => ?_) (fun _ => ?_)⟩
          · have hgt : (0 : Int) < at0 := of_decide_eq_true hgt
            have hlo17 := w17.keep _ _ hlo lo1 lo2
            refine ⟨.ref rl, rfl, .inl ⟨rfl, _, .of rl17⟩, .ref p, rfl, .ref lo, rfl, .int at0, rfl, at0, rfl, lo, _, rfl, .of hlo17, fun sl hsl => ?_⟩
            have s18 := same_new (o := .lst (cutV (zs.map V.str) none (some (at0 : Int)))) hsl
            have e18 : upd H17 sl (.lst (cutV (zs.map V.str) none (some (at0 : Int)))) sl = some (.lst ((zs.take at0).map V.str)) := by rw [upd_same, cut_take, ← List.map_take]
            obtain ⟨n1, n2⟩ := w17.src.new hsl
            generalize upd H17 sl (.lst (cutV (zs.map V.str) none (some (at0 : Int)))) = H18 at s18 e18 ⊢
            have w18 := w17.same s18
            have htl : (zs.take at0).length = at0 := by
              rw [List.length_take]
              omega
            refine ⟨p, l, .ref sl, rfl, w18.src, .inl ⟨sl, _, rfl, e18, n1, n2, fun z => ?_, by rw [List.length_map]; omega, fun H19 j v w19 hv => ?_⟩⟩
            · have := List.map_eq_nil_iff.mp z
              rw [this] at htl
              have : 0 = at0 := htl
              omega
            obtain ⟨zk, hzk, rfl⟩ := List.mem_map.mp (List.mem_of_getElem? hv)
            have k19 : ∀ b o, H17 b = some o → b ≠ p → b ≠ l → H19 b = some o := fun b o e a1 a2 => w19.keep _ _ (s18 _ _ e) a1 a2
            have du19 := dulw w18.src (du17.same s18) w19
            have qs19 := dulw w18.src (qs17.same s18) w19
            have w19 := w18.trans w19
            refine ⟨.ref p, rfl, .int low, rfl, (by show 2 ≤ sizeLine; decide), fun l2 hl2 => ?_⟩
            have s20 := same_new (o := .lst [.int low, .int 5]) hl2
            obtain ⟨m1, m2⟩ := w19.src.new hl2
            have w20 := w19.same s20
            refine ⟨p, l, .ref l2, rfl, w20.src, .inl ⟨l2, _, rfl, upd_same, m1, m2, List.cons_ne_nil _ _, (by show 2 < 1000; decide), fun H21 j2 v2 w21 hv2 => ?_⟩⟩
            obtain ⟨n2v, rfl⟩ : ∃ n2v : Int, v2 = .int n2v := by
              have := List.mem_of_getElem? hv2
              simp only [List.mem_cons, List.not_mem_nil, or_false] at this
              rcases this with rfl | rfl
              · exact ⟨low, rfl⟩
              · exact ⟨5, rfl⟩
            have k21 : ∀ b o, H17 b = some o → b ≠ p → b ≠ l → H21 b = some o := fun b o e a1 a2 => w21.keep _ _ (s20 _ _ (k19 b o e a1 a2)) a1 a2
            have du21 := dulw w20.src (du19.same s20) w21
            have qs21 := dulw w20.src (qs19.same s20) w21
            have w21 := w20.trans w21
            have rl21 := k21 _ _ rl17 rlp rll
            refine ⟨(by show 2 ≤ sizeLine; decide), fun t5 ht5 => ?_⟩
            have s22 := same_new (o := .tup [.str zk, .int n2v]) ht5
            have e22 : upd H21 t5 (.tup [.str zk, .int n2v]) t5 = some (.tup [.str zk, .int n2v]) := upd_same
            generalize upd H21 t5 (.tup [.str zk, .int n2v]) = H22 at s22 e22 ⊢
            refine ⟨(by show 2 ≤ sizeLine; decide), fun l5 hl5 => ?_⟩
            have s23 := same_new (o := .lst [.str "refused", .str "dues"]) hl5
            have e23 : upd H22 l5 (.lst [.str "refused", .str "dues"]) l5 = some (.lst [.str "refused", .str "dues"]) := upd_same
            obtain ⟨x1, x2⟩ := (w21.same s22).src.new hl5
            have x3 : l5 ≠ rl := (ne_of_none (s22 _ _ rl21) hl5).symm
            generalize upd H22 l5 (.lst [.str "refused", .str "dues"]) = H23 at s23 e23 ⊢
            refine ⟨(by show 2 ≤ sizeLine; decide), fun t6 ht6 => ?_⟩
            have s24 := same_new (o := .tup [.ref t5, .ref l5]) ht6
            have e24 : upd H23 t6 (.tup [.ref t5, .ref l5]) t6 = some (.tup [.ref t5, .ref l5]) := upd_same
            generalize upd H23 t6 (.tup [.ref t5, .ref l5]) = H24 at s24 e24 ⊢
            have s2124 := s22.trans (s23.trans s24)
            refine ⟨rl, _, .ref t6, rfl, rfl, s2124 _ _ rl21, by rw [List.length_map]; exact small1000 (by omega), hnx _ _ ?_⟩
            exact add 2 H24 rws t6 _ _ _ _ (w21.same s2124) (du21.same s2124) (qs21.same s2124) (s2124 _ _ rl21) hrl2 (fun ra hra => (R17 ra hra).keep w17.src rl17 fun b o e a1 a2 _ => s2124 _ _ (k21 b o e a1 a2))
              ⟨t5, l5, zk, n2v, "refused", "dues", e24, (s23.trans s24) _ _ e22, s24 _ _ e23, x1, x2, x3, by decide +kernel, by decide +kernel, by decide +kernel, by decide +kernel, fun q => by
                rw [hrun]
                show DutTold (if zk ∈ boxes rs then (if zk ∈ pre.map (·.1) then Dut.refused else if n2v < 1 then .size else runDues (boxes rs) q (pre ++ [(zk, n2v)])) else .name zk) = _
                rw [if_pos (hzp.mem_iff.mp (List.mem_of_mem_take hzk)), if_pos (show zk ∈ pre.map (fun q => q.1) by rw [hpk]; exact hzk)]
                rfl⟩
          · refine hnx _ _ ?_
            rw [hI]
            exact ⟨⟨_, _, _, _, rfl⟩, w17, du17, qs17, rws, rl17, by omega, R17⟩
        · intro σ H18 hI3
          rw [hI] at hI3
          obtain ⟨⟨v10, v11, v12, v13, rfl⟩, w18, du18, qs18, rws, rl18, _, R18⟩ := hI3
          refine ⟨.ref rl, rfl, rl, rfl, ⟨_, .of rl18⟩, ?_⟩
          refine for_it (walk_listM (l := rws) (f := V.ref)) (fun i σ H' => (∃ u10 u11 u12 u13, σ = [some (.ref p), some (.ref y), some (.ref st), some (.ref lo), some (.str z0), some (.ref dt), some (.int (at0 : Nat)), some (.int low), some (.ref bh), some (.ref rl), u10, u11, u12, u13, none]) ∧ Lw p l H H' ∧ DuesAt H' dt ps ∧ DuesAt H' bh qs ∧
              H' rl = some (.lst (rws.map V.ref)) ∧ ∀ ra ∈ rws, RowOk (boxes rs) pre p l rl H' ra)
            ⟨⟨_, _, _, _, rfl⟩, w18, du18, qs18, rl18, R18⟩ (fun _ _ _ _ h => .of h.2.2.2.2.1) ?_ ?_
          · rintro i x σ H0 H19 hi ⟨⟨u10, u11, u12, u13, rfl⟩, w19, du19, qs19, rl19, R19⟩ ⟨rfl, ra, hra, rfl⟩
            obtain ⟨pr, du, z, n, s1, s2, g1, g2, g3, g4, g5, g6, g7, g8, g9, g10, g11⟩ := R19 ra (List.mem_of_getElem? hra)
            refine ⟨ra, _, rfl, .of g1, rfl, .ref pr, [.ref du], rfl, .ref du, [], rfl, rfl, ?_⟩
            refine ⟨.ref p, rfl, p, l, 2, rfl, w19.src, by decide, by decide, fun H20 k2 w20 hk2 => ?_⟩
            have kk : ∀ b o, H19 b = some o → b ≠ p → b ≠ l → H20 b = some o := w20.keep
            have du20 := dulw w19.src du19 w20
            have qs20 := dulw w19.src qs19 w20
            have pr20 := w20.get w19.src g2 (fun xs z => by cases z)
            have d20 := kk _ _ g3 g4 g5
            have rl20 := kk _ _ rl19 rlp rll
            have w20 := w19.trans w20
            refine ⟨.ref y, rfl, .ref st, rfl, .ref dt, rfl, .int at0, rfl, at0, rfl, dt, _, rfl, du20.1, fun pa' H21 s21 hpa' => ?_⟩
            rw [cut_take] at hpa'
            refine ⟨.ref pr, rfl, (by show 1 ≤ sizeLine; decide), fun tm htm => ?_⟩
            have s22 := same_new (o := .tup [.ref pr]) htm
            have htk := List.length_take_le' at0 (pfs ps)
            have hpf : (pfs ps).length = ps.length := List.length_map _
            have hqf : (pfs qs).length = qs.length := List.length_map _
            refine ⟨pa', tm, _, _, rfl, rfl, s22 _ _ hpa', upd_same, by show (List.take at0 (pfs ps)).length + 1 ≤ 1000; omega, fun pb' H23 s23 hpb' => ?_⟩
            have s2023 := s21.trans (s22.trans s23)
            refine ⟨.ref bh, rfl, pb', bh, _, _, rfl, rfl, hpb', (qs20.same s2023).1, ?_, fun pc' H24 s24 hpc' => ?_⟩
            · rw [List.length_append]
              show (List.take at0 (pfs ps)).length + 1 + (pfs qs).length ≤ 1000
              omega
            have s2024 := s2023.trans s24
            have w24 := w20.same s2024
            have dd : DuesAt H24 pc' (ps.take at0 ++ (pr, z, n) :: qs) := by
              refine ⟨?_, fun q hq => ?_⟩
              · rw [hpc']
                show _ = some (HO.tup ((ps.take at0 ++ (pr, z, n) :: qs).map fun q => V.ref q.1))
                rw [List.map_append, List.map_cons, List.append_assoc, ← List.map_take]
                rfl
              · rcases List.mem_append.mp hq with h | h
                · exact (du20.same s2024).2 q (List.mem_of_mem_take h)
                · rcases List.mem_cons.mp h with h | h
                  · rw [h]
                    exact s2024 _ _ pr20
                  · exact (qs20.same s2024).2 q h
            refine ⟨k2, y, pc', .ref st, hs, .str s1, .str s2, rfl, hy.lw hsrc w24, .inr ⟨st, rs, _, rfl, hst.lw hsrc w24, g, dd, ?_, ?_⟩, fun H25 r s25 hr' => ?_⟩
            · rw [List.length_append, List.length_cons, List.length_take]
              omega
            · rw [List.map_append, List.map_cons, ← hpre]
              exact g11 _
            have s2025 := s2024.trans s25
            have d25 := s2025 _ _ d20
            refine ⟨.ref r, .list [.str s1, .str s2], rfl, .inr ⟨r, rfl⟩, (Tiny.lst hr' (.cons (Tiny.str g7 g8) (.cons (Tiny.str g9 g10) .nil))).rp (by decide) (by show 2 * 101 ≤ 100000; decide), ?_⟩
            refine ⟨.ref du, rfl, .ref du, .list [.str s1, .str s2], rfl, .inr ⟨du, rfl⟩, (Tiny.lst d25 (.cons (Tiny.str g7 g8) (.cons (Tiny.str g9 g10) .nil))).rp (by decide) (by show 2 * 101 ≤ 100000; decide), rfl, _, rfl, iteF' (by simp) ?_⟩
            exact ⟨⟨_, _, _, _, rfl⟩, w20.same s2025, du20.same s2025, qs20.same s2025, s2025 _ _ rl20, fun x hx => (R19 x hx).keep w19.src rl19 fun b o e a1 a2 _ => s2025 _ _ (kk b o e a1 a2)⟩
          · rintro σ H19 ⟨⟨u10, u11, u12, u13, rfl⟩, w19, du19, qs19, rl19, R19⟩
            refine ⟨.ref p, rfl, .ref st, rfl, p, l, st, hs, rs, rfl, w19.src, hst.lw hsrc w19, g, h3, fun H20 r v told w20 hr' r1 r2 hb htold => ?_⟩
            have w20 := w19.trans w20
            refine ⟨r, _, rfl, .of hr', rfl, v, [.int told], rfl, .int told, [], rfl, rfl, ?_⟩
            refine ⟨.ref p, rfl, p, l, 2, rfl, w20.src, by decide, by decide, fun H21 k2 w21 hk2 => ?_⟩
            have w2021 := w21
            have w21 := w20.trans w21
            refine ⟨.ref y, rfl, v, rfl, .str z0, rfl, .int low, rfl, (by show 2 ≤ sizeLine; decide), fun t1' ht1' => ?_⟩
            have s22 := same_new (o := .tup [.str z0, .int low]) ht1'
            refine ⟨(by show 1 ≤ sizeLine; decide), fun t2' ht2' => ?_⟩
            have s23 := s22.trans (same_new (o := .tup [.ref t1']) ht2')
            refine ⟨k2, y, t2', v, hs, .str "standing", .int told, rfl, (hy.lw hsrc w21).same s23, .inl ⟨told, hb _ (w2021.same s23), rfl, rfl⟩, fun H24 r' s24 hr2 => ?_⟩
            have w24 := (w21.same s23).same s24
            have okS : PyData.strOk "standing" = true ∧ ("standing" : Str).length ≤ 100 := ⟨by decide +kernel, by decide +kernel⟩
            have tiny : ∀ {H' : Hp} {ra : Addr}, H' ra = some (.lst [.str "standing", .int told]) → RpD K H' (.ref ra) (.list [.str "standing", .int told]) := fun {H' ra} h => by
              rcases htold with rfl | ⟨k3, rfl, hk3⟩
              · exact (Tiny.lst h (.cons (Tiny.str okS.1 okS.2) (.cons Tiny.neg .nil))).rp (by decide) (by show 2 * 101 ≤ 100000; decide)
              · exact (Tiny.lst h (.cons (Tiny.str okS.1 okS.2) (.cons (Tiny.nat hk3) .nil))).rp (by decide) (by show 2 * 101 ≤ 100000; decide)
            refine ⟨.ref r', _, rfl, .inr ⟨r', rfl⟩, tiny hr2, .int told, rfl, (by show 2 ≤ sizeLine; decide), fun l9 hl9 => ?_⟩
            refine ⟨.ref l9, .list [.str "standing", .int told], rfl, .inr ⟨l9, rfl⟩, tiny upd_same, rfl, ?_⟩
            rw [decide_eq_true rfl]
            exact q _ (w24.same (same_new hl9))
end
end K34
end
section
set_option linter.all false
set_option maxRecDepth 100000
/-! Plain: an order that keeps the dues, or a crowd. -/
namespace K34
open PySem PySem.Spec PyProof.Rows L2 LamX SX
section
variable {hs : List Nat} {rs : Rows} {ds : Pairs2}
abbrev W (hs : List Nat) (rs : Rows) : Str → Nat := waitF (wts hs rs)
theorem keeps_of {ws : Pairs2} : ∀ {n : Nat} {l : List Str}, (∀ (i : Nat) z, l[i]? = some z → wv ws z ≤ ((n + i : Nat) : Int) ∧ ∀ d, ds.lookup z = some d → ((n + i : Nat) : Int) < d) → Keeps (waitF ws) (fun z => ds.lookup z) n l
  | _, [], _ => True.intro
  | n, b :: r, h => by
    have h0 := h 0 b rfl
    refine ⟨?_, fun d hd => ?_, keeps_of fun i z hz => ?_⟩
    · have := h0.1
      unfold waitF
      omega
    · have := h0.2 d hd
      simpa using this
    · have := h (i + 1) z hz
      rwa [show n + (i + 1) = n + 1 + i by omega] at this
theorem keepsB_keeps {ws : Pairs2} {l : List Str} (h : keepsB ws ds l = true) : Keeps (waitF ws) (fun z => ds.lookup z) 0 l := by
  unfold keepsB at h
  rw [Bool.and_eq_true] at h
  have h1 := inTime_iff.mp h.1
  have h2 := outW_iff.mp h.2
  exact keeps_of fun i z hz => by
    rw [Nat.zero_add]
    exact ⟨h2 i z hz, h1 i z hz⟩
theorem goes_waits {ws : Pairs2} (h0 : ∀ z, 0 ≤ wv ws z) : ∀ {n : Nat} {l : List Str}, Waits (waitF ws) n l → ∀ (i : Nat) z, l[i]? = some z → wv ws z ≤ ((n + i : Nat) : Int)
  | n, b :: r, h, 0, z, hz => by
    cases (show some b = some z from hz)
    have h1 : waitF ws b ≤ n := h.1
    have := h0 b
    unfold waitF at h1
    omega
  | n, b :: r, h, i + 1, z, hz => by
    have := goes_waits h0 h.2 i z hz
    omega
theorem wv_pos (g : Good hs rs) (z : Str) : 0 ≤ wv (wts hs rs) z := by
  unfold wv
  cases h : (wts hs rs).lookup z with
  | none => exact Int.le_refl _
  | some n => exact (g.wmem (mem_of_lookup2 h)).1
theorem keeps_inTime {ws : Pairs2} : ∀ {n : Nat} {l : List Str}, Keeps (waitF ws) (fun z => ds.lookup z) n l → ∀ (i : Nat) z, l[i]? = some z → ∀ d, ds.lookup z = some d → ((n + i : Nat) : Int) < d
  | n, b :: r, h, 0, z, hz, d, hd => by
    cases (show some b = some z from hz)
    exact h.2.1 d hd
  | n, b :: r, h, i + 1, z, hz, d, hd => by
    have := keeps_inTime h.2.2 i z hz d hd
    omega
/-- nobody keeps the dues: a crowd -/
theorem late_big (g : Good hs rs) (h : inTime ds (order (wts hs rs) ds) = false) : ∃ f e : Nat, f ≤ e ∧ e < (wts hs rs).length ∧ big (wts hs rs) ds f e := by
  obtain ⟨op, og⟩ := order_perm g ds
  rcases Goes.keeps_or og with k | ⟨pre, b, post, d, e1, e2, e3⟩
  · have : inTime ds (order (wts hs rs) ds) = true := inTime_iff.mpr fun i z hz d hd => by
      have := keeps_inTime k i z hz d hd
      rwa [Nat.zero_add] at this
    rw [this] at h
    cases h
  · rw [Nat.zero_add] at e3
    rw [e1] at og
    obtain ⟨f, e, h1, h2, L, h3, h4, h5⟩ := late_crowd (p := pre.length) e3 pre.length pre [b] post rfl og (List.cons_ne_nil _ _) rfl (fun c hc => by
      rw [List.mem_singleton.mp hc]
      exact ⟨d, e2, Int.le_refl _⟩)
    have hond : (order (wts hs rs) ds).Nodup := op.nodup_iff.mpr g.nd
    rw [e1] at hond
    have hlen := op.length_eq
    rw [e1, List.length_append, List.length_cons, ← g.wlen] at hlen
    refine ⟨f, e, h1, by omega, ?_⟩
    have := nodup_len (hond.sublist h3) (m := crowdL (wts hs rs) ds f e) fun c hc => by
      obtain ⟨a1, x, a2, a3⟩ := h5 c hc
      have a2 : ds.lookup c = some x := a2
      refine List.mem_map.mpr ⟨(c, x), List.mem_filter.mpr ⟨mem_of_lookup2 a2, ?_⟩, rfl⟩
      have := wv_pos g c
      unfold waitF at a1
      rw [Bool.and_eq_true]
      exact ⟨decide_eq_true (by show (f : Int) ≤ wv (wts hs rs) c; omega), decide_eq_true a3⟩
    unfold big
    omega
/-- the order that goes by the dues keeps all but, maybe, the dues -/
theorem keepsB_order (g : Good hs rs) : keepsB (wts hs rs) ds (order (wts hs rs) ds) = inTime ds (order (wts hs rs) ds) := by
  obtain ⟨op, og⟩ := order_perm g ds
  unfold keepsB
  rw [outW_iff.mpr fun i z hz => by
    have := goes_waits (wv_pos g) og.waits i z hz
    rwa [Nat.zero_add] at this, Bool.and_true]
theorem crowd_mem {ws : Pairs2} {f e : Int} {c : Str} (hn : (ds.map fun q => q.1).Nodup) (h : c ∈ crowdL ws ds f e) : f ≤ wv ws c ∧ ∃ x, ds.lookup c = some x ∧ x ≤ e := by
  obtain ⟨q, hq, rfl⟩ := List.mem_map.mp h
  obtain ⟨h1, h2⟩ := List.mem_filter.mp hq
  rw [Bool.and_eq_true] at h2
  exact ⟨of_decide_eq_true h2.1, q.2, lookup_of_mem hn h1, of_decide_eq_true h2.2⟩
/-- some order keeps all: no crowd -/
theorem keeps_no (g : Good hs rs) (hd : ∀ q ∈ ds, q.1 ∈ boxes rs) (hn : (ds.map fun q => q.1).Nodup) (h : keepsB (wts hs rs) ds (order (wts hs rs) ds) = true) (f e : Nat) (hfe : f ≤ e) : ¬ big (wts hs rs) ds f e := fun hb => by
  obtain ⟨op, og⟩ := order_perm g ds
  have := Keeps.count (f := f) (e := e) (op.nodup_iff.mpr g.nd) (keepsB_keeps h) (hn.sublist (crowd_sub (wts hs rs) ds f e)) fun c hc => by
    obtain ⟨h1, h2⟩ := crowd_mem hn hc
    obtain ⟨q, hq, rfl⟩ := List.mem_map.mp ((crowd_sub (wts hs rs) ds f e).subset hc)
    refine ⟨op.mem_iff.mpr (hd q hq), ?_, h2⟩
    unfold waitF
    omega
  unfold big at hb
  omega
/-- no crowd reaches the end -/
theorem big_end (g : Good hs rs) (hd : ∀ q ∈ ds, q.1 ∈ boxes rs) (hn : (ds.map fun q => q.1).Nodup) {f e : Nat} (hfe : f ≤ e) (he : (wts hs rs).length ≤ e) : ¬ big (wts hs rs) ds f e := fun hb => by
  obtain ⟨op, og⟩ := order_perm g ds
  have := Waits.count (f := f) og.waits (hn.sublist (crowd_sub (wts hs rs) ds f e)) fun c hc => by
    obtain ⟨h1, h2⟩ := crowd_mem hn hc
    obtain ⟨q, hq, rfl⟩ := List.mem_map.mp ((crowd_sub (wts hs rs) ds f e).subset hc)
    refine ⟨op.mem_iff.mpr (hd q hq), ?_⟩
    unfold waitF
    omega
  have hl := op.length_eq
  rw [← g.wlen] at hl
  unfold big at hb
  omega
end
end K34
end
section
set_option linter.all false
set_option maxRecDepth 100000
/-! What the law's paper is; small steps of the law. -/
namespace K34
open PySem PySem.Spec PyProof.Rows L2 LamX SX
section
variable {hs : List Nat} {rs : Rows} {ws ds : Pairs2}
/-- f, e is the first crowd that breaks its bounds -/
def Fst (ws ds : Pairs2) (f e : Nat) : Prop := f ≤ e ∧ e < ws.length ∧ big ws ds f e ∧ ∀ f' e' : Nat, f' ≤ e' → e' < ws.length → f' < f ∨ (f' = f ∧ e' < e) → ¬ big ws ds f' e'
theorem Fst.uniq {f e f' e' : Nat} (h : Fst ws ds f e) (k : Fst ws ds f' e') : f = f' ∧ e = e' := by
  obtain ⟨h1, h2, h3, h4⟩ := h
  obtain ⟨k1, k2, k3, k4⟩ := k
  rcases Nat.lt_trichotomy f f' with h | h | h
  · exact absurd h3 (k4 f e h1 h2 (.inl h))
  · subst h
    rcases Nat.lt_trichotomy e e' with h | h | h
    · exact absurd h3 (k4 f e h1 h2 (.inr ⟨rfl, h⟩))
    · exact ⟨rfl, h⟩
    · exact absurd k3 (h4 f e' k1 k2 (.inr ⟨rfl, h⟩))
  · exact absurd k3 (h4 f' e' k1 k2 (.inl h))
/-- the law's own first crowd is the first one -/
theorem Fst.of (g : Good hs rs) (hd : ∀ q ∈ ds, q.1 ∈ boxes rs) (hn : (ds.map fun q => q.1).Nodup) {f e : Nat} (h1 : f ≤ e) (h2 : e ≤ (wts hs rs).length) (h3 : big (wts hs rs) ds f e)
    (h4 : ∀ f' e' : Nat, f' ≤ e' → e' ≤ (wts hs rs).length → f' < f ∨ (f' = f ∧ e' < e) → ¬ big (wts hs rs) ds f' e') : Fst (wts hs rs) ds f e := by
  refine ⟨h1, ?_, h3, fun f' e' a b c => h4 f' e' a (Nat.le_of_lt b) c⟩
  by_cases h : e < (wts hs rs).length
  · exact h
  · exact absurd h3 (big_end g hd hn h1 (by omega))
/-- what due_order answers: its order, or the first crowd -/
def PapOk (a : Ad) (H : Hp) (ws ds : Pairs2) (o : List Str) (x : V) : Prop :=
  (inTime ds o = true ∧ ∃ t, x = .ref t ∧ H t = some (.tup (o.map V.str))) ∨
  (inTime ds o = false ∧ ∃ (xa px : Addr) (f e : Nat), x = .ref xa ∧ Fst ws ds f e ∧ CrowdAt a H xa (.int f) (.int e) (.ref px) ∧ H px = some (.tup ((lot (crowdL ws ds f e)).map V.str)))
theorem PapOk.same {a : Ad} {H H' : Hp} {o : List Str} {x : V} (h : PapOk a H ws ds o x) (s : Same H H') : PapOk a H' ws ds o x := by
  rcases h with ⟨h1, t, h2, h3⟩ | ⟨h1, xa, px, f, e, h2, h3, h4, h5⟩
  · exact .inl ⟨h1, t, h2, s _ _ h3⟩
  · exact .inr ⟨h1, xa, px, f, e, h2, h3, h4.same s, s _ _ h5⟩
theorem crowd_names (g : Good hs rs) (hd : ∀ q ∈ ds, q.1 ∈ boxes rs) {f e : Int} : ∀ z ∈ lot (crowdL (wts hs rs) ds f e), nameB z = true := fun z hz => by
  obtain ⟨q, hq, rfl⟩ := List.mem_map.mp ((crowd_sub _ ds f e).subset (mem_lot.mp hz))
  exact g.names _ (hd q hq)
theorem PapOk.ck {K : PySem.W.Frag} {a : Ad} {H : Hp} {x : V} {Q : VK} (g : Good hs rs) (hd : ∀ q ∈ ds, q.1 ∈ boxes rs) (h : PapOk a H (wts hs rs) ds (order (wts hs rs) ds) x) (q : ∀ H', Same H H' → Q (.bl true) H') :
    CkOk K a H Q (boxes rs) (wts hs rs) ds x := by
  have op := (order_perm g ds).1
  rcases h with ⟨h1, t, rfl, h3⟩ | ⟨h1, xa, px, f, e, rfl, ⟨k1, k2, k3, k4⟩, h4, h5⟩
  · refine .inl ⟨.row t ((order (wts hs rs) ds).map V.str), rfl, ⟨h3, fun v hv => ?_⟩, fun H' s => ?_⟩
    · obtain ⟨z, hz, rfl⟩ := List.mem_map.mp hv
      refine ⟨rfl, fun y hy => ?_⟩
      cases hy
      have := nameB_len (g.names z (op.mem_iff.mp hz))
      omega
    · rw [ckOrd_perm op g.names, keepsB_order g, h1]
      exact q H' s
  · refine .inr ⟨xa, .int f, .int e, .ref px, .tuple ((lot (crowdL (wts hs rs) ds f e)).map PyData.str), rfl, h4, rfl, rfl, fun H' s => .tup (.of (s _ _ h5)) (DpAll.strs _), shaped_strs fun z hz => name_ok (crowd_names g hd z hz), fun H' s => ?_⟩
    rw [ck_lot (by omega) (by omega), decide_eq_true (show (f : Int) ≤ e by omega), decide_eq_true (show (e : Int) - f < _ by unfold big at k3; omega)]
    exact q H' s
/-- a crowd that breaks its bounds is not the one of nobody -/
theorem Fst.ne0 {f e : Nat} (h : Fst ws ds f e) : (decide ((f : Int) = 0) && decide ((e : Int) = 0) && PyData.eqv (.tuple ((lot (crowdL ws ds f e)).map PyData.str)) (.tuple [])) = false := by
  have hb := h.2.2.1
  unfold big at hb
  have : PyData.eqv (.tuple ((lot (crowdL ws ds f e)).map PyData.str)) (.tuple []) = false := by
    cases hl : lot (crowdL ws ds f e) with
    | nil =>
      have := congrArg List.length hl
      rw [lot_length] at this
      have : (crowdL ws ds f e).length = 0 := this
      have := h.1
      omega
    | cons z r => simp [PyData.eqv, PyData.eqvAll]
  rw [this, Bool.and_false]
end
section
variable {p l : Addr} {H H1 : Hp}
theorem tabs_lw {TP : Addr} (t : Tabs (uT TP) H) (hs : SrcAt H p l) (w : Lw p l H H1) : Tabs (uT TP) H1 := fun q hq => by
  obtain ⟨ps, h1, h2, h3⟩ := t q hq
  refine ⟨ps, w.get hs h1 (fun xs z => by cases z), h2, fun pos cv hc => ?_⟩
  obtain ⟨c, e1, e2⟩ := h3 pos cv hc
  exact ⟨c, e1, w.get hs e2 (fun xs z => by cases (show HO.ext _ = HO.lst xs from z))⟩
theorem SrcAt.extN (h : SrcAt H p l) (e : ExtN H H1) : SrcAt H1 p l := by
  obtain ⟨n, ks, m, h1, h2, h3⟩ := h
  exact ⟨n, ks, m, e _ _ h1 (fun _ z => by cases z), e _ _ h2 (fun _ z => by cases z), h3⟩
theorem YardAt.extN {a : Ad} {y : Addr} {hs : List Nat} (h : YardAt a H y hs) (e : ExtN H H1) : YardAt a H1 y hs := by
  obtain ⟨dx, t, h1, h2⟩ := h
  exact ⟨dx, t, e _ _ h1 (fun _ z => by cases z), e _ _ h2 (fun _ z => by cases z)⟩
theorem Std.extN {a : Ad} {wd dd y st tt : Addr} {hs : List Nat} {rs : Rows} {ps : Dues} {ds : Pairs2} (h : Std a H p l wd dd y st tt hs rs ps ds) (e : ExtN H H1) : Std a H1 p l wd dd y st tt hs rs ps ds :=
  ⟨h.src.extN e, e _ _ h.pw (fun _ z => by cases z), e _ _ h.pd (fun _ z => by cases z), h.yd.extN e, h.st.ext e, h.g, h.du.ext e, h.len, h.run⟩
theorem CrowdAt.extN {a : Ad} {x : Addr} {f e b : V} (h : CrowdAt a H x f e b) (s : ExtN H H1) : CrowdAt a H1 x f e b := by
  obtain ⟨dx, h⟩ := h
  exact ⟨dx, s _ _ h (fun _ z => by cases z)⟩
/-- one of a list that was just laid -/
theorem of_new {b : Addr} {xs : List V} {Q : VK} {E : XK} (hs : SrcAt H p l) (hb : H b = none) (h0 : xs ≠ []) (h1 : xs.length < 1000) (q : ∀ H' v, Lw p l H H' → v ∈ xs → Q v H') : spLOf [.ref p, .ref b] (upd H b (.lst xs)) Q E := by
  have s := same_new (o := .lst xs) hb
  obtain ⟨n1, n2⟩ := hs.new hb
  exact ⟨p, l, .ref b, rfl, hs.same s, .inl ⟨b, xs, rfl, upd_same, n1, n2, h0, h1, fun H' i v w hv => q H' v ((Lw.of hs s).trans w) (List.mem_of_getElem? hv)⟩⟩
end
/-- what comes behind is not before -/
theorem not_before {A B : Type} {f : A → B} {l : List A} (hn : (l.map f).Nodup) {i : Nat} {x : A} (h : l[i]? = some x) : f x ∉ (l.take i).map f := fun hm => by
  have e : l.map f = (l.take i).map f ++ (l.drop i).map f := by rw [← List.map_append, List.take_append_drop]
  rw [e] at hn
  refine (List.nodup_append.mp hn).2.2 _ hm (f x) (List.mem_map_of_mem (List.mem_of_getElem? (i := 0) ?_)) rfl
  rw [List.getElem?_drop]
  exact h
/-- the names of a lot read small -/
theorem Tiny.strs {K : PySem.W.Frag} {H : Hp} : ∀ {l : List Str}, (∀ z ∈ l, nameB z = true) → Paired (Tiny K H 0 100) (l.map V.str) (l.map PyData.str)
  | [], _ => .nil
  | z :: r, h => .cons (Tiny.str (name_ok (h z List.mem_cons_self)) (by have := nameB_len (h z List.mem_cons_self); omega)) (Tiny.strs fun y hy => h y (List.mem_cons_of_mem _ hy))
end K34
end
section
set_option linter.all false
set_option maxRecDepth 100000
set_option maxHeartbeats 4000000
/-! The law. -/
namespace K34
open PySem PySem.Spec PyProof.Rows L2 LamX SX
section
variable {P : Program} {w : World} {K : PySem.W.Frag} {mg : Str → Option Value} {base : Heap} {a : Ad} {e : Ae}
def spLaw (K : PySem.W.Frag) (TP : Addr) : Sp := fun vs H Q _ => ∃ (s : Addr) (ns : List Int), vs = [.ref s] ∧ SqL K H s (ns.map V.int) ∧ ns.length ≤ 63 ∧ Tabs (uT TP) H ∧ ∀ H', Q (.bl true) H'
theorem ok_Law (T : Tx K mg a) (T2 : Tx2 P K mg e) (C : CrEq K a) {c TP : Addr} (D : DfC K mg "urgent_order" sUrgentOrder ["waits", "table"] c) (TB : TabB base mg c TP) : CaG P w K mg base 9 "law" (spLaw K TP) := by
  have G0 : Ca P w K mg base CX0 1 "_law_source" (spLSource K) := ok_LSource T
  have G1 : Ca P w K mg base CX0 1 "_law_number" spLNumber := ok_LNumber T
  have G2 : Ca P w K mg base CX0 2 "_law_of" spLOf := ok_LOf T
  have G3 : Ca P w K mg base CX0 2 "_law_heights" spLHeights := ok_LHeights T
  have G4 : Ca P w K mg base CX0 3 "_law_names" spLNames := ok_LNames T
  have G5 : Ca P w K mg base CX0 3 "_law_filled" spLFilled := ok_LFilled T
  have G6 : Ca P w K mg base CX0 1 "_law_waits" spLWaits := ok_LWaits T
  have G7 : Ca P w K mg base CX0 3 "_law_order" spLOrder := ok_LOrder T
  have G8 : Ca P w K mg base CX0 3 "_law_dues" spLDues := ok_LDues T
  have F9 : CaF P w K mg base (L2.CX P w) 6 "due_order" sDueOrder ["yard", "standing", "dues"] (spDueOrder a e TP) := ok_DueOrder T T2 D TB
  have G9 : Ca P w K mg base (L2.CX P w) 6 "due_order" (spDueOrder a e TP) := F9.ca
  have G10 : Ca P w K mg base CX0 1 "_law_urgent" spLUrgent := ok_LUrgent T
  have G11 : Ca P w K mg base CX0 1 "_law_keeps" spLKeeps := ok_LKeeps T
  have G12 : Ca P w K mg base CX0 2 "_law_first" spLFirst := ok_LFirst T
  have G13 : Ca P w K mg base (L2.CX P w) 6 "check_dues" (spCheckDues K a e) := (ok_CheckDues T T2).ca
  have G14 : Ca P w K mg base CX0 7 "_law_orders" (spLOrders a) := ok_LOrders T T2
  have G15 : Ca P w K mg base CX0 7 "_law_crowds" (spLCrowds a) := ok_LCrowds T T2 C
  have G16 : CaG P w K mg base 8 "_law_errors" (spLErrors a) := ok_LErrors T T2 D TB
  obtain ⟨fe, fde, FE, eq1, eq2, bE⟩ := ok_CrowdEq (P := P) (w := w) (base := base) T C
  obtain ⟨fy, fdy, MY, FY, bY⟩ := ok_YardInit (P := P) (w := w) (base := base) T
  obtain ⟨fi, fdi, M, FI, bI, kI⟩ := ok_CrowdInitF (P := P) (w := w) (base := base) T
  refine caG T.dLaw cLaw (fun vs H Q E h => ?_) (fun fa cdv A outer s H vs Q E hgd hr h => ?_)
  · obtain ⟨s, ns, rfl, _⟩ := h
    rfl
  · obtain ⟨sc, ns, rfl, hsc, hns, hT, q⟩ := h
    have hu := hu_of hr
    have hu16 : (A.deeper (envOfC "law" (defScope sLaw) s.heap.objs.size fa cdv)).units + 16 < cLine := by
      have := hr.units
      omega
    have nd := cLaw.nd
    have hg : A.guards = some [] := hgd
    refine ⟨_, pss_cons (ps_set (i := 1) nd rfl (.inl rfl) (pe_c0 G0 hr (by decide) (by rfl) (pa_cons (pv 0) (pa_cons pe_int pa_nil))))
      (pss_cons (ps_set (i := 2) nd rfl (.inl rfl) (pe_c0 G2 hr (by decide) (by rfl) (pa_cons (pv 1) (pa_cons (pe_lst (pa_cons pe_int (pa_cons pe_int (pa_cons pe_int (pa_cons pe_int (pa_cons pe_int pa_nil)))))) pa_nil))))
      (pss_cons (ps_set (i := 3) nd rfl (.inl rfl) (pe_c0 G3 hr (by decide) (by rfl) (pa_cons (pv 1) (pa_cons (pe_c0 G2 hr (by decide) (by rfl) (pa_cons (pv 1) (pa_cons (pe_lst (pa_cons pe_int (pa_cons pe_int (pa_cons pe_int (pa_cons pe_int (pa_cons pe_int (pa_cons pe_int pa_nil))))))) pa_nil))) (pa_cons (pv 2) (pa_cons pe_int pa_nil))))))
      (pss_cons (ps_set (i := 4) nd rfl (.inl rfl) (pe_op op_sub (pe_callB (cr_sumT rfl) (by rfl) T.m_sum PyProof.Rows.boot_sum (pa_cons (pv 3) pa_nil)) (pe_callB (call_min2 rfl) (by rfl) T.m_min PyProof.Rows.Boot.«min» (pa_cons (pe_callB (cr_sumT rfl) (by rfl) T.m_sum PyProof.Rows.boot_sum (pa_cons (pv 3) pa_nil))
          (pa_cons (pe_c0 G2 hr (by decide) (by rfl) (pa_cons (pv 1) (pa_cons (pe_lst (pa_cons pe_int (pa_cons pe_int (pa_cons pe_int (pa_cons pe_int (pa_cons pe_int (pa_cons pe_int (pa_cons pe_int pa_nil)))))))) pa_nil))) pa_nil)))))
      (pss_cons (ps_set (i := 5) nd rfl (.inl rfl) (pe_c0 G4 hr (by decide) (by rfl) (pa_cons (pv 1) (pa_cons (pe_op op_add (pv 4) pe_int) pa_nil))))
      (pss_cons (ps_par3 (i := 6) (j := 7) (l := 8) rfl nd rfl rfl rfl (by decide) (by decide) (by decide) rfl rfl rfl (pa_cons (pe_ix ix_list (pv 5) pe_int (fun _ _ => rfl)) (pa_cons (pe_slice sl_list (pv 5) (po_some pe_int) po_none) (pa_cons (pe_make MY FY (hr.mono (by decide)) (by rfl) T.gY bY .nil pass0 (pa_cons (pv 3) pa_nil)) pa_nil))) (by rfl))
      (pss_cons (ps_set (i := 9) nd rfl (.inl rfl) (pe_c0 G5 hr (by decide) (by rfl) (pa_cons (pv 1) (pa_cons (pv 3) (pa_cons (pv 7) pa_nil)))))
      (pss_cons (ps_set (i := 10) nd rfl (.inl rfl) (pe_c0 G6 hr (by decide) (by rfl) (pa_cons (pv 3) (pa_cons (pv 9) pa_nil))))
      (pss_cons (ps_set (i := 11) nd rfl (.inl rfl) (pe_c0 G7 hr (by decide) (by rfl) (pa_cons (pv 1) (pa_cons (pv 10) pa_nil))))
      (pss_cons (ps_set (i := 12) nd rfl (.inl rfl) (pe_c0 G8 hr (by decide) (by rfl) (pa_cons (pv 1) (pa_cons (pv 10) (pa_cons (pv 11) (pa_cons (pe_c0 G2 hr (by decide) (by rfl) (pa_cons (pv 1) (pa_cons (pe_lst (pa_cons pe_int (pa_cons pe_int (pa_cons pe_int (pa_cons pe_int pa_nil))))) pa_nil))) pa_nil))))))
      (pss_cons (ps_set (i := 13) nd rfl (.inl rfl) pe_dnewK)
      (pss_cons (ps_for PassesOwn.never rfl (pi_tup (pv 12)) (pg_tup rfl (pgs_cons (pg_name (i := 14) nd rfl (Or.inl rfl)) (pgs_cons (pg_name (i := 15) nd rfl (Or.inl rfl)) pgs_nil))) (pss_one (ps_dput hu (pv 13) (pv 14) (pv 15) rfl)))
      (pss_cons (ps_par (i := 16) (j := 17) rfl nd rfl rfl (by decide) rfl rfl (pa_cons (pe_cX G9 hr (by decide) (by rfl) (pa_cons (pv 8) (pa_cons (pv 9) (pa_cons (pv 12) pa_nil)))) (pa_cons (pe_c0 G10 hr (by decide) (by rfl) (pa_cons (pv 10) (pa_cons (pv 13) pa_nil))) pa_nil)) (by rfl))
      (pss_cons (ps_if (pt_val (pe_c0 G11 hr (by decide) (by rfl) (pa_cons (pv 10) (pa_cons (pv 13) (pa_cons (pv 17) pa_nil)))))
        (pss_one (ps_if (pw_or (pt_cmpR op_ne (pe_callB (cr_reprD hg hu16) (by rfl) T.m_repr PyProof.Rows.boot_repr (pa_cons (pv 16) pa_nil)) (pe_callB (cr_reprD hg hu16) (by rfl) T.m_repr PyProof.Rows.boot_repr (pa_cons (pv 17) pa_nil)) (nomark _)) (pw_or1 (pt_cmp (pc_notN (pe_c0 G12 hr (by decide) (by rfl) (pa_cons (pv 10) (pa_cons (pv 13) pa_nil))))))).pt (pss_one (ps_ret pe_bl)) pss_nil))
        (pss_cons (ps_if (pw_or (pt_not (pt_val (pe_callB call_isi (by rfl) T.m_isinstance boot_isi (pa_cons (pv 16) (pa_cons (pe_glob (by rfl) T.gC (show RelV (.ref a.C) (.ref a.C) from rfl)) pa_nil))))) (pw_or1 (pt_cmpR op_ne (pe_callB (cr_reprD hg hu16) (by rfl) T.m_repr PyProof.Rows.boot_repr (pa_cons (pe_lst (pa_cons (pe_fld (pv 16) rfl) (pa_cons (pe_fld (pv 16) rfl) (pa_cons (pe_fld (pv 16) rfl) pa_nil)))) pa_nil))
            (pe_callB (cr_reprD hg hu16) (by rfl) T.m_repr PyProof.Rows.boot_repr (pa_cons (pe_c0 G12 hr (by decide) (by rfl) (pa_cons (pv 10) (pa_cons (pv 13) pa_nil))) pa_nil)) (nomark _)))).pt (pss_one (ps_ret pe_bl)) pss_nil)
        (pss_one (ps_if (pw_or (pt_not (pt_cmpR (op_eqOwn FE (hr.mono (by decide)) eq1 eq2 bE pass0) (pv 16) (pe_cK0 F9 hr (by decide) passL (fun f fd F => kb_DueOrder F) (by rfl) (pk_cons (pv 12) (pk_cons (pv 8) (pk_cons (pv 9) pk_nil)))) (nomark _)))
            (pw_or1 (pt_cmpR (op_eqOwn FE (hr.mono (by decide)) eq1 eq2 bE pass0) (pv 16) (pe_make M FI (hr.mono (by decide)) (by rfl) T.gC bI .nil pass0 (pa_cons pe_int (pa_cons pe_int (pa_cons (pe_tup pa_nil) pa_nil)))) (nomark _)))).pt (pss_one (ps_ret pe_bl)) pss_nil))))
      (pss_cons (ps_if (pw_or (pt_cmpR op_notBl (pe_cX G13 hr (by decide) (by rfl) (pa_cons (pv 8) (pa_cons (pv 9) (pa_cons (pv 12) (pa_cons (pv 16) pa_nil))))) pe_bl (nomark _)) (pw_or1 (pt_not (pt_val (pe_c0 G14 hr (by decide) (by rfl) (pa_cons (pv 1) (pa_cons (pv 10) (pa_cons (pv 13) (pa_cons (pv 11) (pa_cons (pv 8) (pa_cons (pv 9) (pa_cons (pv 12) pa_nil)))))))))))).pt (pss_one (ps_ret pe_bl)) pss_nil)
      (pss_cons (ps_if (pt_not (pt_val (pe_c0 G15 hr (by decide) (by rfl) (pa_cons (pv 1) (pa_cons (pv 10) (pa_cons (pv 13) (pa_cons (pv 8) (pa_cons (pv 9) (pa_cons (pv 12) pa_nil))))))))) (pss_one (ps_ret pe_bl)) pss_nil)
      (pss_one (ps_ret (pe_cG G16 hg hr (by decide) (by rfl) (pa_cons (pv 1) (pa_cons (pv 8) (pa_cons (pv 9) (pa_cons (pv 7) (pa_cons (pv 6) pa_nil))))))))))))))))))))))), ?_⟩
    refine ⟨.ref sc, rfl, sc, ns, 34, rfl, hsc, hns, fun H1 p l s1 src1 np nl => ?_⟩
    have tt1 : Tabs (uT TP) H1 := hT.ext s1
    refine ⟨.ref p, rfl, (by show 5 ≤ sizeLine; decide), fun b1 hb1 => of_new (E := E0) src1 hb1 (List.cons_ne_nil _ _) (by show 5 < 1000; decide) fun H2 v w2 hv => ?_⟩
    obtain ⟨tall, rfl, ht2, ht12⟩ : ∃ tall : Nat, v = .int (tall : Nat) ∧ 2 ≤ tall ∧ tall ≤ 12 := by
      simp only [List.mem_cons, List.not_mem_nil, or_false] at hv
      rcases hv with rfl | rfl | rfl | rfl | rfl
      · exact ⟨2, rfl, by decide, by decide⟩
      · exact ⟨3, rfl, by decide, by decide⟩
      · exact ⟨4, rfl, by decide, by decide⟩
      · exact ⟨7, rfl, by decide, by decide⟩
      · exact ⟨12, rfl, by decide, by decide⟩
    have src2 := w2.src
    have tt2 := tabs_lw tt1 src1 w2
    refine ⟨.ref p, rfl, .ref p, rfl, (by show 6 ≤ sizeLine; decide), fun b2 hb2 => of_new (E := E0) src2 hb2 (List.cons_ne_nil _ _) (by show 6 < 1000; decide) fun H3 v w3 hv => ?_⟩
    obtain ⟨many, rfl, hm3, hm12⟩ : ∃ many : Nat, v = .int (many : Nat) ∧ 3 ≤ many ∧ many ≤ 12 := by
      simp only [List.mem_cons, List.not_mem_nil, or_false] at hv
      rcases hv with rfl | rfl | rfl | rfl | rfl | rfl
      · exact ⟨3, rfl, by decide, by decide⟩
      · exact ⟨3, rfl, by decide, by decide⟩
      · exact ⟨4, rfl, by decide, by decide⟩
      · exact ⟨5, rfl, by decide, by decide⟩
      · exact ⟨7, rfl, by decide, by decide⟩
      · exact ⟨12, rfl, by decide, by decide⟩
    have src3 := w3.src
    have tt3 := tabs_lw tt2 src2 w3
    refine ⟨.int tall, rfl, p, l, many, tall, rfl, src3, hm3, hm12, ht2, ht12, fun H4 th hs w4 hth hg hsum => ?_⟩
    have src4 := w4.src
    have tt4 := tabs_lw tt3 src3 w4
    have sq4 : SqT K H4 th ((hs.map fun n : Nat => (n : Int)).map V.int) := by
      rw [← nat_int]
      exact .of hth
    refine ⟨.ref th, rfl, th, _, rfl, sq4, .ref th, rfl, th, _, rfl, sq4, .ref p, rfl, (by show 7 ≤ sizeLine; decide), fun b3 hb3 => of_new (E := E0) src4 hb3 (List.cons_ne_nil _ _) (by show 7 < 1000; decide) fun H5 v w5 hv => ?_⟩
    obtain ⟨fr, rfl⟩ : ∃ fr : Nat, v = .int (fr : Nat) := by
      simp only [List.mem_cons, List.not_mem_nil, or_false] at hv
      rcases hv with rfl | rfl | rfl | rfl | rfl | rfl | rfl
      · exact ⟨0, rfl⟩
      · exact ⟨0, rfl⟩
      · exact ⟨0, rfl⟩
      · exact ⟨1, rfl⟩
      · exact ⟨1, rfl⟩
      · exact ⟨2, rfl⟩
      · exact ⟨3, rfl⟩
    obtain ⟨n, en, hn⟩ : ∃ n : Nat, (hs.map fun n : Nat => (n : Int)).sum - (if (fr : Int) < (hs.map fun n : Nat => (n : Int)).sum then (fr : Int) else (hs.map fun n : Nat => (n : Int)).sum) = (n : Int) ∧ n ≤ hs.sum := by
      rw [int_sum]
      split
      · exact ⟨hs.sum - fr, by omega, by omega⟩
      · exact ⟨0, by omega, by omega⟩
    refine ⟨_, _, rfl, _, _, rfl, rfl, ?_⟩
    refine ⟨.ref p, rfl, _, rfl, _, 1, rfl, rfl, p, l, n + 1, args2 (by rw [en]; rfl), w5.src, by omega, by omega, fun H6 f zs w6 nf hf hzl hznd hzn => ?_⟩
    obtain ⟨z0, zr, rfl⟩ : ∃ z0 zr, zs = z0 :: zr := by
      cases zs with
      | nil => cases hzl
      | cons z r => exact ⟨z, r, rfl⟩
    have src6 := w6.src
    have tt6 := tabs_lw (tabs_lw tt4 src4 w5) w5.src w6
    have hth6 := w6.get w5.src (w5.get src4 hth (fun xs z => by cases z)) (fun xs z => by cases z)
    refine ⟨.ref f, rfl, f, _, 0, .str z0, rfl, rfl, .of hf, atI_zero, .ref f, rfl, 1, rfl, f, _, rfl, .of hf, fun lo hlo => ?_⟩
    have s7 := same_new (o := .lst (cutV ((z0 :: zr).map V.str) (some 1) none)) hlo
    have e7 : upd H6 lo (.lst (cutV ((z0 :: zr).map V.str) (some 1) none)) lo = some (.lst (zr.map V.str)) := by
      rw [upd_same, show (1 : Int) = ((1 : Nat) : Int) from rfl, cut_drop]
      rfl
    obtain ⟨lo1, lo2⟩ := src6.new hlo
    generalize upd H6 lo (.lst (cutV ((z0 :: zr).map V.str) (some 1) none)) = H7 at s7 e7 ⊢
    refine ⟨.ref th, rfl, fun y dy hy hdy ne => ⟨y, th, dy, hs, rfl, upd_same, (same_put hy (same_new hdy)) _ _ (s7 _ _ hth6), by rw [hg.len]; exact hm3, by rw [hg.len]; exact hm12, hg.rng, fun H8 b8 e8 => ⟨rfl, _, _, _, rfl, ?_⟩⟩⟩
    have s8 := made_same hy hdy b8
    have s68 := s7.trans s8
    have src8 := src6.same s68
    have lo8 := s8 _ _ e7
    have hth8 := s68 _ _ hth6
    have yd8 : YardAt a H8 y hs := ⟨dy, th, e8, hth8⟩
    have hzl : zr.length = n := Nat.succ.inj hzl
    have hnd := List.nodup_cons.mp hznd
    refine ⟨.ref p, rfl, .ref th, rfl, .ref lo, rfl, p, l, th, lo, hs, zr, rfl, src8, hth8, lo8, lo1, lo2, by omega, hsum, by rw [hg.len]; exact hm12, hnd.2, fun z hz => hzn z (List.mem_cons_of_mem _ hz), fun H9 st rs w9 hst g hperm => ?_⟩
    have src9 := w9.src
    have th9 := w9.get src8 hth8 (fun xs z => by cases z)
    have yd9 := yd8.lw src8 w9
    have lo9 := w9.keep _ _ lo8 lo1 lo2
    have tt9 := tabs_lw (tt6.ext s68) src8 w9
    refine ⟨.ref th, rfl, .ref st, rfl, th, st, hs, rs, rfl, th9, hst, g, fun H10 wd s10 nwd pwd => ?_⟩
    have src10 := src9.same s10
    have wl24 : (wts hs rs).length ≤ 24 := by
      rw [g.wlen]
      exact g.few
    refine ⟨.ref p, rfl, .ref wd, rfl, p, l, wd, wts hs rs, rfl, src10, pwd, by omega, fun H11 ot zo w11 hot hzo => ?_⟩
    have hzo : zo.Perm (boxes rs) := by
      rw [waitL_keys] at hzo
      exact hzo
    have src11 := w11.src
    have pw11 := pwd.lw src10 w11
    refine ⟨.ref p, rfl, .ref wd, rfl, .ref ot, rfl, .ref p, rfl, (by show 4 ≤ sizeLine; decide), fun b4 hb4 => of_new (E := E0) src11 hb4 (List.cons_ne_nil _ _) (by show 4 < 1000; decide) fun H12 v w12 hv => ?_⟩
    obtain ⟨slack, rfl, hsl1, hsl2⟩ : ∃ slack : Nat, v = .int (slack : Nat) ∧ 0 < slack ∧ slack < 1073741824 := by
      simp only [List.mem_cons, List.not_mem_nil, or_false] at hv
      rcases hv with rfl | rfl | rfl | rfl
      · exact ⟨1, rfl, by decide, by decide⟩
      · exact ⟨2, rfl, by decide, by decide⟩
      · exact ⟨5, rfl, by decide, by decide⟩
      · exact ⟨200, rfl, by decide, by decide⟩
    have src12 := w12.src
    have pw12 := pw11.lw src11 w12
    have ot12 := w12.get src11 hot (fun xs z => by cases z)
    refine ⟨p, l, wd, ot, wts hs rs, zo, slack, rfl, src12, pw12, ot12, hzo.nodup_iff.mpr g.nd, fun z hz => by rw [waitL_keys]; exact hzo.mem_iff.mp hz, by rw [hzo.length_eq]; have := g.few; omega, hsl1, hsl2, fun H13 tt ps w13 du hpn hok hpl => ?_⟩
    have src13 := w13.src
    have hpl24 : ps.length ≤ 24 := by
      have := g.few
      rw [hzo.length_eq] at hpl
      omega
    intro dd hdd
    have s14 := same_new (o := .dK []) hdd
    have d14 : PD (upd H13 dd (.dK [])) dd [] := upd_same
    generalize upd H13 dd (.dK []) = H14 at s14 d14 ⊢
    refine ⟨.ref tt, rfl, tt, rfl, ⟨_, .of (s14 _ _ du.1)⟩, ?_⟩
    refine for_it (walk_tupM (l := ps) (f := fun q => V.ref q.1)) (fun i σ H' => (∃ u4 u14 u15, σ = [some (.ref sc), some (.ref p), some (.int (tall : Nat)), some (.ref th), u4, some (.ref f), some (.str z0), some (.ref lo), some (.ref y), some (.ref st), some (.ref wd), some (.ref ot), some (.ref tt), some (.ref dd), u14, u15, none, none]) ∧ But dd H14 H' ∧ PD H' dd ((ps.take i).map (·.2)))
      ⟨⟨_, _, _, rfl⟩, But.refl _ _, d14⟩ (fun i σ H' _ h => .of (h.2.1 _ _ (s14 _ _ du.1) (ne_of_none du.1 hdd))) ?_ ?_
    · rintro i x σ H0 H15 hi ⟨⟨u4, u14, u15, rfl⟩, b15, pd15⟩ ⟨rfl, pr, hpr, rfl⟩
      have hpm := List.mem_of_getElem? hpr
      have e15 := b15 _ _ (s14 _ _ (du.2 pr hpm)) (ne_of_none (du.2 pr hpm) hdd)
      have hnb := not_before (f := fun q : Addr × Str × Int => q.2.1) hpn hpr
      obtain ⟨pa, z, m⟩ := pr
      refine ⟨pa, _, rfl, .of e15, rfl, .str z, [.int m], rfl, .int m, [], rfl, rfl, ?_⟩
      refine ⟨.int m, rfl, .ref dd, rfl, .str z, rfl, dd, _, rfl, DPut.k (k := Sum.inr z) pd15 ?_, ?_⟩
      · rw [List.length_map, List.length_map, List.length_take]
        exact small1000 (by omega)
      refine ⟨⟨_, _, _, rfl⟩, b15.trans But.upd, ?_⟩
      unfold PD
      rw [upd_same, List.take_add_one, hpr, List.map_append]
      refine congrArg some (congrArg HO.dK (putK_pkv fun hm => hnb ?_))
      rw [List.map_map] at hm
      exact hm
    · rintro σ H15 ⟨⟨u4, u14, u15, rfl⟩, b15, pd15⟩
      rw [List.take_length] at pd15
      have s15 : Same H13 H15 := fun b o e => b15 b o (s14 b o e) (ne_of_none e hdd)
      obtain ⟨ds, hds⟩ : ∃ ds : Pairs2, ds = ps.map (·.2) := ⟨_, rfl⟩
      rw [← hds] at pd15
      have dsk : ds.map (fun q => q.1) = ps.map fun q => q.2.1 := by
        rw [hds, List.map_map]
        rfl
      have hdn : (ds.map fun q => q.1).Nodup := by
        rw [dsk]
        exact hpn
      have hdq : ∀ q ∈ ds, q.1 ∈ boxes rs ∧ 1 ≤ q.2 := fun q hq => by
        rw [hds] at hq
        obtain ⟨q', hq', rfl⟩ := List.mem_map.mp hq
        exact ⟨hzo.mem_iff.mp (hok q' hq').1, (hok q' hq').2⟩
      have hdb : ∀ q ∈ ds, q.1 ∈ boxes rs := fun q hq => (hdq q hq).1
      have hrun : runDues (boxes rs) (ps.map (·.2)) [] = .ok ds := by
        rw [← hds]
        exact run_good hdq hdn
      have w12' := w13.same s15
      have w11' := w12.trans w12'
      have w10' := w11.trans w11'
      have w9' := (Lw.of src9 s10).trans w10'
      have S : Std a H15 p l wd dd y st tt hs rs ps ds := ⟨w12'.src, pwd.lw src10 w10', pd15, yd9.lw src9 w9', hst.lw src9 w9', g, du.same s15, by omega, hrun⟩
      have tt15 := tabs_lw tt9 src9 w9'
      have lo15 := w9'.keep _ _ lo9 lo1 lo2
      have ot15 := w11'.get src11 hot (fun xs z => by cases z)
      have op := (order_perm g ds).1
      have olen : (order (wts hs rs) ds).length ≤ 24 := by
        rw [op.length_eq]
        exact g.few
      have onames : ∀ z ∈ order (wts hs rs) ds, nameB z = true := fun z hz => g.names z (op.mem_iff.mp hz)
      have hkeys : ∀ q ∈ ds, q.1 ∈ (wts hs rs).map (·.1) := fun q hq => by
        rw [waitL_keys]
        exact hdb q hq
      have dlen : ds.length < 64 := by
        rw [hds, List.length_map]
        omega
      dsimp only
      refine seq_gen (fun σ H' => ∃ x ut, σ = [some (.ref sc), some (.ref p), some (.int (tall : Nat)), some (.ref th), u4, some (.ref f), some (.str z0), some (.ref lo), some (.ref y), some (.ref st), some (.ref wd), some (.ref ot), some (.ref tt), some (.ref dd), u14, u15, some x, some (.ref ut)] ∧ Std a H' p l wd dd y st tt hs rs ps ds ∧ Tabs (uT TP) H' ∧ H' lo = some (.lst (zr.map V.str)) ∧ H' ot = some (.tup (zo.map V.str)) ∧
          H' ut = some (.tup ((order (wts hs rs) ds).map V.str)) ∧ PapOk a H' (wts hs rs) ds (order (wts hs rs) ds) x) (fun nx hnx => ?_) ?_
      · refine ⟨.ref y, rfl, .ref st, rfl, .ref tt, rfl, ?_⟩
        unfold tNil
        refine ⟨y, _, _, rfl, .inr ⟨st, tt, hs, rs, ps, rfl, rfl, S.yd, S.st, g, S.du, S.len, ?_⟩⟩
        rw [hrun]
        refine ⟨tt15, fun hin H16 t e16 tt16 ht => ?_, fun hin => ⟨fun f' e' xa px H16 k1 k2 k3 k4 e16 tt16 hc hpx => ?_, fun no => ?_⟩⟩
        · have S16 := S.extN e16
          have lo16 := e16 _ _ lo15 (fun _ z => by cases z)
          have ot16 := e16 _ _ ot15 (fun _ z => by cases z)
          refine ⟨.ref wd, rfl, .ref dd, rfl, wd, dd, wts hs rs, ds, rfl, S16.pw, S16.pd, fun q hq => (g.wmem hq).1, by omega, g.feas, fun H17 ut s17 hut => ?_⟩
          exact ⟨_, _, rfl, hnx _ _ ⟨.ref t, ut, rfl, S16.same s17, tt16.ext s17, s17 _ _ lo16, s17 _ _ ot16, hut, .inl ⟨hin, t, rfl, s17 _ _ ht⟩⟩⟩
        · have S16 := S.extN e16
          have lo16 := e16 _ _ lo15 (fun _ z => by cases z)
          have ot16 := e16 _ _ ot15 (fun _ z => by cases z)
          refine ⟨.ref wd, rfl, .ref dd, rfl, wd, dd, wts hs rs, ds, rfl, S16.pw, S16.pd, fun q hq => (g.wmem hq).1, by omega, g.feas, fun H17 ut s17 hut => ?_⟩
          exact ⟨_, _, rfl, hnx _ _ ⟨.ref xa, ut, rfl, S16.same s17, tt16.ext s17, s17 _ _ lo16, s17 _ _ ot16, hut, .inr ⟨hin, xa, px, f', e', rfl, ⟨k1, k2, k3, k4⟩, hc.same s17, s17 _ _ hpx⟩⟩⟩
        · obtain ⟨f', e', k1, k2, k3⟩ := late_big g hin
          exact absurd k3 (no f' e' k1 k2)
      · rintro σ H16 ⟨x, ut, rfl, S16, tt16, lo16, ot16, ut16, pap⟩
        refine seq_gen (fun σ H' => σ = [some (.ref sc), some (.ref p), some (.int (tall : Nat)), some (.ref th), u4, some (.ref f), some (.str z0), some (.ref lo), some (.ref y), some (.ref st), some (.ref wd), some (.ref ot), some (.ref tt), some (.ref dd), u14, u15, some x, some (.ref ut)] ∧ Std a H' p l wd dd y st tt hs rs ps ds ∧ H' lo = some (.lst (zr.map V.str)) ∧ H' ot = some (.tup (zo.map V.str)) ∧
            PapOk a H' (wts hs rs) ds (order (wts hs rs) ds) x) (fun nx hnx => ?_) ?_
        · refine ⟨.ref wd, rfl, .ref dd, rfl, .ref ut, rfl, wd, dd, ut, wts hs rs, ds, order (wts hs rs) ds, rfl, S16.pw, S16.pd, ut16, fun z hz => by rw [waitL_keys]; exact op.mem_iff.mp hz, fun H17 s17 => ⟨_, rfl, ?_⟩⟩
          have S17 := S16.same s17
          have tt17 := tt16.ext s17
          have lo17 := s17 _ _ lo16
          have ot17 := s17 _ _ ot16
          have ut17 := s17 _ _ ut16
          rw [keepsB_order g]
          rcases pap with ⟨hin, t, rfl, ht⟩ | ⟨hin, xa, px, f', e', rfl, hF, hc, hpx⟩
          · refine iteT' hin ?_
            have rp : ∀ {t' : Addr}, H17 t' = some (.tup ((order (wts hs rs) ds).map V.str)) → RpD K H17 (.ref t') (.tuple ((order (wts hs rs) ds).map PyData.str)) := fun h => (Tiny.tup h (Tiny.strs onames)).rp (by decide) (by rw [List.length_map]; omega)
            refine ⟨.ref t, rfl, .ref t, _, rfl, .inr ⟨t, rfl⟩, rp (s17 _ _ ht), .ref ut, rfl, .ref ut, _, rfl, .inr ⟨ut, rfl⟩, rp ut17, rfl, _, rfl, iteF' (by simp) ?_⟩
            refine ⟨.ref wd, rfl, .ref dd, rfl, wd, dd, wts hs rs, ds, rfl, S17.pw, S17.pd, by omega, hkeys, hdn, dlen, fun f' e' r px H18 k1 k2 k3 _ _ _ _ _ => ?_, fun _ H18 s18 => ?_⟩
            · exact absurd k3 (keeps_no g hdb hdn (by rw [keepsB_order g]; exact hin) f' e' k1)
            · refine ⟨_, rfl, iteF' rfl (hnx _ _ ⟨rfl, S17.same s18, s18 _ _ lo17, s18 _ _ ot17, .inl ⟨hin, t, rfl, s18 _ _ (s17 _ _ ht)⟩⟩)⟩
          · refine iteF' hin ?_
            obtain ⟨dx, hx⟩ := hc.same s17
            have hpx17 := s17 _ _ hpx
            have he24 : e' < 24 := by
              have := hF.2.1
              omega
            have hf24 : f' ≤ e' := hF.1
            have cnames := crowd_names (ds := ds) (f := f') (e := e') g hdb
            have clen : (lot (crowdL (wts hs rs) ds f' e')).length < 64 := by
              rw [lot_length]
              have := (crowd_sub (wts hs rs) ds f' e').length_le
              rw [List.length_map] at this
              omega
            have rp : ∀ {H' : Hp} {r q : Addr}, H' r = some (.lst [.int (f' : Nat), .int (e' : Nat), .ref q]) → H' q = some (.tup ((lot (crowdL (wts hs rs) ds f' e')).map V.str)) →
                RpD K H' (.ref r) (.list [.int (f' : Nat), .int (e' : Nat), .tuple ((lot (crowdL (wts hs rs) ds f' e')).map PyData.str)]) := fun h1 h2 =>
              (Tiny.lst (m := 1) (w := 10000) h1 (.cons ((Tiny.nat (by omega)).mono (by decide) (by decide)) (.cons ((Tiny.nat (by omega)).mono (by decide) (by decide)) (.cons ((Tiny.tup h2 (Tiny.strs cnames)).mono (by decide) (by rw [List.length_map]; omega)) .nil)))).rp (by decide) (by show 3 * 10001 ≤ 100000; decide)
            refine ⟨.ref xa, rfl, .ref xa, .ref a.C, .ref a.C, .ref a.C, true, rfl, .own _, T.isC.ty hx, T.isC.me, true, rfl, iteF ?_⟩
            refine ⟨.ref xa, rfl, xa, a.C, dx, _, .int f', rfl, hx, T.clC, T.naC1, rfl, .ref xa, rfl, xa, a.C, dx, _, .int e', rfl, hx, T.clC, T.naC2, rfl, .ref xa, rfl, xa, a.C, dx, _, .ref px, rfl, hx, T.clC, T.naC3, rfl, (by show 3 ≤ sizeLine; decide), fun r1 hr1 => ?_⟩
            have s18 := same_new (o := .lst [.int (f' : Nat), .int (e' : Nat), .ref px]) hr1
            have e18 : upd H17 r1 (.lst [.int (f' : Nat), .int (e' : Nat), .ref px]) r1 = some (.lst [.int (f' : Nat), .int (e' : Nat), .ref px]) := upd_same
            generalize upd H17 r1 (.lst [.int (f' : Nat), .int (e' : Nat), .ref px]) = H18 at s18 e18 ⊢
            have S18 := S17.same s18
            refine ⟨.ref r1, _, rfl, .inr ⟨r1, rfl⟩, rp e18 (s18 _ _ hpx17), ?_⟩
            refine ⟨.ref wd, rfl, .ref dd, rfl, wd, dd, wts hs rs, ds, rfl, S18.pw, S18.pd, by omega, hkeys, hdn, dlen, fun f2 e2 r2 p2 H19 k1 k2 k3 k4 s19 _ hr2 hp2 => ?_, fun no => absurd hF.2.2.1 (no f' e' hF.1 (Nat.le_of_lt hF.2.1))⟩
            obtain ⟨rfl, rfl⟩ := hF.uniq (Fst.of g hdb hdn k1 k2 k3 k4)
            have s1719 := s18.trans s19
            have S19 := S18.same s19
            refine ⟨.ref r2, _, rfl, .inr ⟨r2, rfl⟩, rp hr2 hp2, rfl, _, rfl, iteF' (by simp) ?_⟩
            refine ⟨.ref xa, rfl, .ref tt, rfl, .ref y, rfl, .ref st, rfl, ?_⟩
            refine ⟨y, _, _, rfl, .inr ⟨st, tt, hs, rs, ps, rfl, rfl, S19.yd, S19.st, g, S19.du, S19.len, ?_⟩⟩
            rw [hrun]
            refine ⟨tt17.ext s1719, fun h _ _ _ _ _ => (Bool.false_ne_true (hin.symm.trans h)).elim, fun _ => ⟨fun f3 e3 xb pb H20 k1 k2 k3 k4 e20 tt20 hcb hpb => ?_, fun no => absurd hF.2.2.1 (no f' e' hF.1 hF.2.1)⟩⟩
            obtain ⟨rfl, rfl⟩ := hF.uniq ⟨k1, k2, k3, k4⟩
            have S20 := S19.extN e20
            have hx20 := e20 _ _ (s1719 _ _ hx) (fun _ z => by cases z)
            have px20 := e20 _ _ (s1719 _ _ hpx17) (fun _ z => by cases z)
            have lo20 := e20 _ _ (s1719 _ _ lo17) (fun _ z => by cases z)
            have ot20 := e20 _ _ (s1719 _ _ ot17) (fun _ z => by cases z)
            obtain ⟨dxb, hxb⟩ := hcb
            have dpl : ∀ {H' : Hp} {q : Addr}, H' q = some (.tup ((lot (crowdL (wts hs rs) ds f' e')).map V.str)) → Dp K H' (.ref q) (.tuple ((lot (crowdL (wts hs rs) ds f' e')).map PyData.str)) := fun h => .tup (.of h) (DpAll.strs _)
            have shl : SeqAt.shaped (.tuple ((lot (crowdL (wts hs rs) ds f' e')).map PyData.str)) = true := shaped_strs fun z hz => name_ok (cnames z hz)
            refine ⟨xa, xb, dx, dxb, _, _, rfl, rfl, hx20, hxb, xa, xb, f', e', f', e', .ref px, .ref pb, _, _, rfl, ⟨dx, hx20⟩, ⟨dxb, hxb⟩, dpl px20, dpl hpb, shl, shl, ⟨_, rfl⟩, ?_⟩
            refine ⟨true, ?_, iteF ?_⟩
            · rw [decide_eq_true rfl, decide_eq_true rfl, show PyData.eqv (.tuple ((lot (crowdL (wts hs rs) ds f' e')).map PyData.str)) (.tuple ((lot (crowdL (wts hs rs) ds f' e')).map PyData.str)) = true from by rw [PyData.eqv]; exact eqv_refl _]
              rfl
            refine ⟨.ref xa, rfl, Nat.zero_le _, fun t0 ht0 => fun y1 dy1 hy1 hdy1 _ => ⟨y1, dy1, .int 0, .int 0, .ref t0, rfl, upd_same, fun H21 b21 e21 => ⟨rfl, ?_⟩⟩⟩
            have s21 := (same_new (o := .tup []) ht0).trans (made_same hy1 hdy1 b21)
            have et0 := (made_same hy1 hdy1 b21) _ _ (upd_same (H := H20) (a := t0) (o := .tup []))
            refine ⟨xa, y1, dx, dy1, _, _, rfl, rfl, s21 _ _ hx20, e21, xa, y1, f', e', 0, 0, .ref px, .ref t0, _, _, rfl, ⟨dx, s21 _ _ hx20⟩, ⟨dy1, e21⟩, dpl (s21 _ _ px20), .tup (.of et0) .nil, shl, by decide +kernel, ⟨_, rfl⟩, ?_⟩
            refine ⟨false, congrArg V.bl hF.ne0, iteF' rfl (hnx _ _ ⟨rfl, S20.same s21, s21 _ _ lo20, s21 _ _ ot20, .inr ⟨hin, xa, px, f', e', rfl, hF, ⟨dx, s21 _ _ hx20⟩, s21 _ _ px20⟩⟩)⟩
        · rintro σ H17 ⟨rfl, S17, lo17, ot17, pap17⟩
          refine ⟨.ref y, rfl, .ref st, rfl, .ref tt, rfl, x, rfl, ?_⟩
          unfold tNil
          refine S17.ck (pap17.ck g hdb fun H18 s18 => ?_)
          have S18 := S17.same s18
          refine ⟨true, true, rfl, rfl, _, rfl, iteF' rfl ?_⟩
          refine ⟨.ref p, rfl, .ref wd, rfl, .ref dd, rfl, .ref ot, rfl, .ref y, rfl, .ref st, rfl, .ref tt, rfl, p, l, wd, dd, ot, y, st, tt, hs, rs, ps, ds, zo, rfl, S18, s18 _ _ ot17, hzo, fun H19 w19 => ⟨true, rfl, iteF' rfl ?_⟩⟩
          have S19 := S18.lw w19
          refine ⟨.ref p, rfl, .ref wd, rfl, .ref dd, rfl, .ref y, rfl, .ref st, rfl, .ref tt, rfl, p, l, wd, dd, y, st, tt, hs, rs, ps, ds, rfl, S19, fun H20 w20 => ⟨true, rfl, iteF' rfl ?_⟩⟩
          have S20 := S19.lw w20
          exact ⟨.ref p, rfl, .ref y, rfl, .ref st, rfl, .ref lo, rfl, .str z0, rfl, p, l, y, st, lo, hs, rs, zr, z0, rfl, S20.src, S20.yd, S20.st, g, by rw [hg.len]; exact hm3, w20.keep _ _ (w19.keep _ _ (s18 _ _ lo17) lo1 lo2) lo1 lo2, lo1, lo2, hperm.symm, fun hm => hnd.1 (hperm.mem_iff.mp hm), hzn z0 List.mem_cons_self, fun H21 _ => q _⟩
end
end K34
end
section
set_option linter.all false
set_option maxRecDepth 100000
/-! The law is entered: one table of code objects, and no repr that runs. -/
namespace K34
open PySem PySem.Spec PyProof.Rows L2 LamX
section
variable {K : PySem.W.Frag} {TP sc : Addr} {ob : Obj} {ns : List Int}
/-- what is tracked where the law is entered: the table; and the script, unless the written part has it -/
def H0 (K : PySem.W.Frag) (TP sc : Addr) (ob : Obj) (ns : List Int) : Hp := fun b => if b = TP then some (.tbl #[]) else if b = sc ∧ K.lookup sc = none then some (.frz ob (.lst (ns.map V.int))) else none
theorem h0_tab : H0 K TP sc ob ns TP = some (.tbl #[]) := if_pos rfl
theorem h0_sc (h1 : sc ≠ TP) (h2 : K.lookup sc = none) : H0 K TP sc ob ns sc = some (.frz ob (.lst (ns.map V.int))) := by
  unfold H0
  rw [if_neg h1, if_pos ⟨rfl, h2⟩]
theorem h0_cases {b : Addr} {u : HO} (e : H0 K TP sc ob ns b = some u) : (b = TP ∧ u = .tbl #[]) ∨ (b = sc ∧ K.lookup sc = none ∧ u = .frz ob (.lst (ns.map V.int))) := by
  unfold H0 at e
  by_cases h : b = TP
  · rw [if_pos h] at e
    exact .inl ⟨h, (Option.some.inj e).symm⟩
  · rw [if_neg h] at e
    by_cases k : b = sc ∧ K.lookup sc = none
    · rw [if_pos k] at e
      exact .inr ⟨k.1, k.2, (Option.some.inj e).symm⟩
    · rw [if_neg k] at e
      cases e
end
/-- how it stands where the law is entered -/
structure Start (K : PySem.W.Frag) (mg mb : Str → Option Value) (c TP sc : Addr) (vs : List Value) (ns : List Int) (s : Shared) : Prop where
  kin : K.In s.heap
  ns_ : s.heap.Ns mainGlobals mg
  bi : s.heap.Ns builtinsNs mb
  bt : ∀ x : Str, x ≠ "__name__" → mb x = bootBuiltins x
  lim : s.heap.NoLimit
  gens : s.gens = #[]
  tab : s.heap.get? TP = some { cls := .none, data := .fields #[] }
  ntab : K.lookup TP = none
  code : PySem.W.CodeHd s.heap c TP
  bm : ∃ (m : Addr) (o : Obj), mg "__builtins__" = some (.ref m) ∧ m ≠ builtinsNs ∧ s.heap.get? m = some o ∧ o.cls = .type "module" ∧ o.dict = some builtinsNs ∧ o.data = .plain
  sc_ : s.heap.get? sc = some { cls := .type "list", data := .seq vs.toArray }
  are : IntsAre vs ns
  few : ns.length ≤ 63
section
variable {P : Program} {w : World} {K : PySem.W.Frag} {mg mb : Str → Option Value} {c TP sc fa : Addr} {vs : List Value} {ns : List Int} {s : Shared} {k : Nat} {sp : Sp}
abbrev scO (vs : List Value) : Obj := { cls := .type "list", data := .seq vs.toArray }
abbrev hp0 (K : PySem.W.Frag) (TP sc : Addr) (vs : List Value) (ns : List Int) : Hp := H0 K TP sc (scO vs) ns
theorem Start.ne (A : Start K mg mb c TP sc vs ns s) : sc ≠ TP := fun z => by
  have h := A.sc_
  rw [z, A.tab] at h
  cases congrArg Obj.data (Option.some.inj h)
/-- what is neither a list nor a table is not tracked -/
theorem Start.out (A : Start K mg mb c TP sc vs ns s) {b : Addr} {o : Obj} (e : s.heap.get? b = some o) (h1 : ∀ us m, o.data ≠ .seq us m) (h2 : o.data ≠ .fields #[]) : hp0 K TP sc vs ns b = none := by
  cases q : hp0 K TP sc vs ns b with
  | none => rfl
  | some u =>
    rcases h0_cases q with ⟨rfl, _⟩ | ⟨rfl, _, _⟩
    · rw [A.tab] at e
      cases e
      exact absurd rfl h2
    · rw [A.sc_] at e
      cases e
      exact absurd rfl (h1 _ _)
theorem Start.hid (A : Start K mg mb c TP sc vs ns s) {b : Addr} {m : Str → Option Value} (x : s.heap.Ns b m) : (hidT s.heap (hp0 K TP sc vs ns)).Ns b m := by
  obtain ⟨o, es, ep, e, d, r⟩ := x
  refine ⟨o, es, ep, hidT_get e (A.out e (fun us m z => ?_) fun z => ?_), d, r⟩
  · rw [d] at z
    cases z
  · rw [d] at z
    cases z
theorem Start.base (A : Start K mg mb c TP sc vs ns s) : K.In (hidT s.heap (hp0 K TP sc vs ns)) := fun b o e => hidT_get (A.kin b o e) (by
  cases q : hp0 K TP sc vs ns b with
  | none => rfl
  | some u =>
    rcases h0_cases q with ⟨rfl, _⟩ | ⟨rfl, h, _⟩
    · rw [A.ntab] at e
      cases e
    · rw [h] at e
      cases e)
theorem Start.tabB (A : Start K mg mb c TP sc vs ns s) : TabB (hidT s.heap (hp0 K TP sc vs ns)) mg c TP := by
  refine ⟨?_, ?_, fun z => ?_⟩
  · obtain ⟨o, us, r⟩ := A.code
    obtain ⟨file, tf, fl, tg, inF, text, tt, e1, r1, r2, r3, r⟩ := r
    refine ⟨o, us, file, tf, fl, tg, inF, text, tt, hidT_get e1 (A.out e1 (fun _ _ z => ?_) fun z => ?_), r1, r2, r3, r⟩
    · rw [r2] at z
      cases z
    · rw [r2] at z
      cases z
      simp at r3
  · obtain ⟨m, o, b1, b2, b3, b4, b5, b6⟩ := A.bm
    have nd : ∀ us n, o.data ≠ .seq us n := fun us n z => by rw [b6] at z; cases z
    have nf : o.data ≠ .fields #[] := fun z => by rw [b6] at z; cases z
    refine ⟨m, o, b1, b2, fun q => ?_, fun q => ?_, hidT_get b3 (A.out b3 nd nf), b4, b5, b6⟩
    · obtain ⟨o', es, ep, e, hd, _⟩ := A.ns_
      rw [← q, b3] at e
      cases e
      rw [b6] at hd
      cases hd
    · rw [q, A.tab] at b3
      cases b3
      cases b6
  · obtain ⟨o, es, ep, e, hd, _⟩ := A.ns_
    rw [z, A.tab] at e
    cases e
    cases hd
theorem Start.hok (A : Start K mg mb c TP sc vs ns s) : HOk P w (hp0 K TP sc vs ns) s.heap := fun b u z => by
  rcases h0_cases z with ⟨rfl, rfl⟩ | ⟨rfl, _, rfl⟩
  · exact A.tab
  · have := A.few
    exact ⟨A.sc_, by rw [List.length_map]; exact Nat.le_of_lt (small1000 (by omega)), vs, _, vals_ints A.are, A.sc_⟩
theorem Start.sq (A : Start K mg mb c TP sc vs ns s) : SqL K (hp0 K TP sc vs ns) sc (ns.map V.int) := by
  cases hk : K.lookup sc with
  | none => exact .inl (.inr ⟨_, h0_sc A.ne hk⟩)
  | some o =>
    have e := A.kin sc o hk
    rw [A.sc_] at e
    cases e
    have := A.few
    exact .inr ⟨_, vs.toArray, _, hk, rfl, rfl, rfl, by rw [List.size_toArray, A.are.length]; exact Nat.le_of_lt (small1000 (by omega)), by simpa using vals_ints A.are⟩
/-- the law's call -/
theorem law_enter (A : Start K mg mb c TP sc vs ns s) (hr : Room k callerA) (hx : mg "law" = some (.ref fa)) (F : ∀ base : Heap, TabB base mg c TP → CaG P w K mg base k "law" sp)
    (hsp : ∀ H : Hp, H TP = some (.tbl #[]) → SqL K H sc (ns.map V.int) → sp [.ref sc] H (fun v _ => v = .bl true) fun _ _ _ => False) :
    codeAny (model P w) callerA (.call (.ref fa) ⟨[.ref sc], []⟩) (fun r s' => r = .ok (.ret (.bool true)) ∧ OldK s.heap s'.heap ∧ s'.os = s.os ∧ AllBare s'.gens) s := by
  obtain ⟨f, fd, qs, len, run, hm, kp, bnd⟩ := (F _ A.tabB).ex
  obtain rfl : f = fa := by
    rw [hm] at hx
    cases hx
    rfl
  have mod : L2.Mod K mg (hidT s.heap (hp0 K TP sc vs ns)) := by
    obtain ⟨mc, l1, l2⟩ := A.lim
    exact ⟨A.base, A.hid A.ns_, ⟨mb, A.hid A.bi, A.bt⟩, mc, A.hid l1, l2⟩
  have env : Env0 P w K mg (hidT s.heap (hp0 K TP sc vs ns)) callerA [] s (hp0 K TP sc vs ns) := ⟨rfl, mod, fun b o e => of_hidT e, Nat.le_of_eq (hidT_size _ _), trivial, fun b hb => (List.not_mem_nil hb).elim, A.hok, .of_eq A.gens⟩
  have good := hsp _ h0_tab A.sq
  have l1 := len _ _ _ _ good
  have bd : BindsTo s fd ⟨[.ref sc], []⟩ (qs.zip [.ref sc]) := bnd s [.ref sc] A.kin l1
  refine codeAny_mono (run callerA [] s _ ⟨[.ref sc], []⟩ [.ref sc] [.ref sc] _ _ rfl hr env bd (.cons rfl .nil) good) fun r s' hq => ?_
  match r, hq with
  | .ok (.ret u), ⟨v, H', os, bare, un, hok', r', e⟩ =>
    cases (show v = .bl true from e)
    cases (show u = Value.bool true from r')
    obtain ⟨more, mt⟩ := un.tbls TP #[] h0_tab
    have mt' : s'.heap.get? TP = some { cls := .none, data := .fields (#[] ++ more) } := hok' TP _ mt
    have keep : ∀ b o, b ≠ TP → s.heap.get? b = some o → s'.heap.get? b = some o := fun b o n e => by
      cases q : hp0 K TP sc vs ns b with
      | none => exact un.keep b o e q (List.not_mem_nil) (List.not_mem_nil)
      | some u =>
        rcases h0_cases q with ⟨z, _⟩ | ⟨rfl, _, rfl⟩
        · exact absurd z n
        · rw [A.sc_] at e
          cases e
          exact (hok' b _ (un.frzs b _ _ q)).1
    refine ⟨rfl, ⟨fun b o e => ?_, fun b o e => ?_⟩, os, bare⟩
    · by_cases hb : b = TP
      · subst hb
        rw [A.tab] at e
        cases e
        exact .inr (.inl ⟨(A.code.tab A.tab).isCodeTable, rfl, #[], more, rfl, mt'⟩)
      · exact .inl (keep b o hb e)
    · by_cases hb : b = TP
      · subst hb
        exact ⟨_, mt'⟩
      · exact ⟨o, keep b o hb e⟩
end
/-- the end: what is known of the law's text at the head's heap -/
theorem walk_G {l : PySem.W.OpenLaw} {k : Nat} {q : Program} {loose : List Str} {XP : (Str → Option Value) → Heap → Prop} {YP : World → Heap → Prop} {d : DefRec} {TP : Addr} {K : Params → PySem.W.Frag}
    (hn : l.most = some 63) (hdf : d.params.defaults = []) (hd : d.name = "law") (hr : Room k callerA) (hY : ∀ (w : World) (h : Heap), YP w h → (K w.params).In h ∧ h.get? TP = some { cls := .none, data := .fields #[] })
    (F : ∀ (w : World) (mg : Str → Option Value) (h : Heap), (K w.params).In h → h.Ns mainGlobals mg → (K w.params).lookup TP = none ∧ ∃ c : Addr, PySem.W.CodeHd h c TP ∧ ∀ base : Heap, TabB base mg c TP → CaG l.prog w (K w.params) mg base k "law" (fun vs H Q _ => ∃ (s : Addr) (ns : List Int), vs = [.ref s] ∧ SqL (K w.params) H s (ns.map V.int) ∧ ns.length ≤ 63 ∧ H TP = some (.tbl #[]) ∧ ∀ H', Q (.bl true) H')) :
    PySem.W.WalkO q loose XP YP l.row.toRowW d [] (fun f vs => PySem.call f vs) := by
  refine Att.attach_callB hn hdf fun w s₀ s₁ mg mb fa o pm cd' doc a vs ns G Y ho hd' hcd hmg hobj hints hlen hbits hg => ?_
  obtain ⟨kin, tab⟩ := hY w _ Y
  obtain ⟨nt, c, cd, hF⟩ := F w mg _ kin G.T.g
  rw [hd] at hmg
  exact law_enter ⟨kin, G.T.g, G.T.b, G.T.builtins, G.T.nolimit, hg, tab, nt, cd, G.T.bmain, hobj, hints, hlen⟩ hr hmg hF fun H h1 h2 => ⟨a, ns, rfl, h2, hlen, h1, fun _ => rfl⟩
end K34
end
section
set_option linter.all false
set_option maxRecDepth 100000
set_option maxHeartbeats 4000000
/-! The exceptions' texts: what hangs on the text alone; and how the rest is put together. -/
namespace K34
open PySem PySem.Spec PyProof.Rows L2
abbrev theP : Program := PySem.Challenge.pw_staysdeep_k34_whole_dues_and_crowds
structure XSt (prog : Program) (st : Stmt) (qual fld : Str) : Prop where
  top : (prog.main.scope.names.lookup ("super" : Str)).isSome = false
  body : ∃ (word : Str) (j : Nat) (p0 p1 p2 p3 p4 p5 q1 q2 q3 q4 : Pos), defBody st = [.Expr (.Call (.Attribute (.Call (.Name "super" p0) [] [] p1) "__init__" p2) [.Constant (.str word) j p3] [] p4) p5, .Assign [.Attribute (.Name "self" q1) fld q2] (.Name fld q3) q4] ∧
    ∀ (L f cc : Addr) (cda : Value), ∃ pl : Sem Bool, eval (.Call (.Attribute (.Call (.Name "super" p0) [] [] p1) "__init__" p2) [.Constant (.str word) j p3] [] p4) (PySem.W.ksEnv qual (defScope st) L f cda cc) = (do
      let ov ← attributeBase (.Call (.Name "super" p0) [] [] p1) "__init__" (PySem.W.ksEnv qual (defScope st) L f cda cc) (eval (.Call (.Name "super" p0) [] [] p1) (PySem.W.ksEnv qual (defScope st) L f cda cc))
      standAt p2.atName
      let (f0, first) ← holding [ov] (getMethod ov "__init__" pl)
      callWith p4 f0 first (backTo p4 (starEach [.Constant (.str word) j p3] (PySem.W.ksEnv qual (defScope st) L f cda cc))) [])
  bnd : ∀ (doc pm cda ct x v : Value) (an : Option Addr) (cc : Addr), bindArgs (PySem.W.ksFn "__init__" qual (defArgs st) (defBody st) (defScope st) .none .none doc pm an cda ct cc) ⟨[x, v], []⟩ = pure [(("self" : Str), x), (fld, v)]
  arg : ∃ ar, ((defArgs st).posonlyargs ++ (defArgs st).args).head? = some ar ∧ ar.arg = "self"
  sc : (defScope st).kind = .function ∧ (defScope st).isCoroutine = false ∧ (defScope st).isGenerator = false ∧ (∀ x ∈ (defScope st).names, x.2 ≠ .cell) ∧ (defScope st).names.lookup ("super" : Str) = some .globalImplicit ∧
    (defScope st).names.lookup ("__class__" : Str) = some .free ∧ (defScope st).names.lookup ("self" : Str) = some .local ∧ (defScope st).names.lookup fld = some .local
  pn : (("self" : Str) == fld) = false ∧ (fld == ("__debug__" : Str)) = false
theorem xst_S : XSt theP sInvalidStandingInit "InvalidStanding.__init__" "at" := ⟨by decide +kernel, ⟨_, _, _, _, _, _, _, _, _, _, _, _, rfl, fun L f cc cda => ⟨_, rfl⟩⟩, fun _ _ _ _ _ _ _ _ => rfl, ⟨_, rfl, rfl⟩, ⟨rfl, rfl, rfl, by decide +kernel, rfl, rfl, rfl, rfl⟩, ⟨by decide, by decide⟩⟩
theorem xst_O : XSt theP sInvalidOrderInit "InvalidOrder.__init__" "at" := ⟨by decide +kernel, ⟨_, _, _, _, _, _, _, _, _, _, _, _, rfl, fun L f cc cda => ⟨_, rfl⟩⟩, fun _ _ _ _ _ _ _ _ => rfl, ⟨_, rfl, rfl⟩, ⟨rfl, rfl, rfl, by decide +kernel, rfl, rfl, rfl, rfl⟩, ⟨by decide, by decide⟩⟩
theorem xst_Z : XSt theP sInvalidSizeInit "InvalidSize.__init__" "word" := ⟨by decide +kernel, ⟨_, _, _, _, _, _, _, _, _, _, _, _, rfl, fun L f cc cda => ⟨_, rfl⟩⟩, fun _ _ _ _ _ _ _ _ => rfl, ⟨_, rfl, rfl⟩, ⟨rfl, rfl, rfl, by decide +kernel, rfl, rfl, rfl, rfl⟩, ⟨by decide, by decide⟩⟩
theorem xst_R : XSt theP sRefusedInit "Refused.__init__" "word" := ⟨by decide +kernel, ⟨_, _, _, _, _, _, _, _, _, _, _, _, rfl, fun L f cc cda => ⟨_, rfl⟩⟩, fun _ _ _ _ _ _ _ _ => rfl, ⟨_, rfl, rfl⟩, ⟨rfl, rfl, rfl, by decide +kernel, rfl, rfl, rfl, rfl⟩, ⟨by decide, by decide⟩⟩
theorem xst_N : XSt theP sNoNameInit "NoName.__init__" "name" := ⟨by decide +kernel, ⟨_, _, _, _, _, _, _, _, _, _, _, _, rfl, fun L f cc cda => ⟨_, rfl⟩⟩, fun _ _ _ _ _ _ _ _ => rfl, ⟨_, rfl, rfl⟩, ⟨rfl, rfl, rfl, by decide +kernel, rfl, rfl, rfl, rfl⟩, ⟨by decide, by decide⟩⟩
section
variable {K : PySem.W.Frag} {h : Heap} {mg : Str → Option Value}
theorem xtxt_mk (X : K.In h) (G : h.Ns mainGlobals mg) {st : Stmt} {x qual fld : Str} {Bn newId : String} {bmB : List Value} {Bi initId : String} {tl : List Value} {C fI cc cda : Addr} (S : XSt theP st qual fld) (ch : Chn Bn newId bmB Bi initId tl)
    {nm q : Str} {N : Addr} {bs sub : List Value} {sn : List Str} {ab : Bool} {col : Option Bool} {dd od an cld cdd : Option Addr} {k0 k1 k2 k3 k5 : Option Value} {oc doc pm ct cl ccl : Value} {osl csl ccs : Array (Option Value)} {vs : Array Value} {file : Str} {tf : Tok}
    (aC : PySem.W.nsIn K mainGlobals x = some (some (.ref C)))
    (xL : K.lookup C = some (excClassObj nm q C N bs tl true sn sub ab col dd k0 k1 k2 k3 k5 newId))
    (sa : PySem.W.findIn K (.ref C) "__setattr__" = some (some (.builtin "object.__setattr__")))
    (nb : PySem.W.findIn K (.ref C) fld = some none)
    (a1 : PySem.W.findIn K (.ref C) "__init__" = some (some (.ref fI)))
    (t1 : PySem.W.typeIn K (.ref fI) = some (.type "function"))
    (kC : PySem.W.keepIn K (.ref C) = true)
    (eC : PySem.W.subIn K (.ref C) (.type "BaseException") = some true)
    (tC : PySem.W.typeIn K (.ref C) = some (.type "type"))
    (hB : PySem.W.subIn K (.ref C) (.type Bi) = some true)
    (sup : PySem.W.alongIn K "__init__" tl = some (some (.builtin initId)))
    (z1 : PySem.W.nsIn K mainGlobals "super" = some none)
    (ope : PySem.W.nsIn K cStatics "thirdparty.any" = some none)
    (l1 : K.lookup fI = some ⟨oc, od, .func (PySem.W.ksFn "__init__" qual (defArgs st) (defBody st) (defScope st) .none .none doc pm an (.ref cda) ct cc), osl⟩)
    (c1 : PySem.W.codeIn K (.ref cda) qual = true)
    (l2 : K.lookup cc = some ⟨cl, cld, .cell (some (.ref C)), csl⟩)
    (l3 : K.lookup cda = some ⟨ccl, cdd, .fields vs, ccs⟩)
    (v2 : vs[2]? = some (.str file tf)) (fe : ((theP.main.file : Str) == file) = true) : XTxt K theP mg C fI st x qual fld fld Bn newId bmB Bi initId tl :=
  ⟨ch, PySem.W.mg_of X G aC, ⟨nm, q, N, bs, sn, sub, ab, col, dd, k0, k1, k2, k3, k5, xL⟩, sa, nb, a1, t1, kC, eC, tC, hB, sup, PySem.W.mg_none_of X G z1, ope, S.top, ⟨cc, cda, oc, doc, pm, ct, cl, ccl, od, an, cld, cdd, osl, csl, ccs, vs, file, tf, l1, c1, l2, l3, v2, fe⟩, S.body, S.bnd, S.arg, S.sc, S.pn⟩
/-- a class with its __init__ -/
theorem mk_mk {st : Stmt} {qual : Str} {ps : List Str} {C f : Addr} {oc : Value} {od an : Option Addr} {osl : Array (Option Value)} {kV doc pm cdv ct : Value}
    (m : PySem.W.makesIn K C = true) (a : PySem.W.findIn K (.ref C) "__init__" = some (some (.ref f))) (i : PySem.W.isFn K (.ref f) = true) (kc : PySem.W.keepIn K (.ref C) = true)
    (l : K.lookup f = some ⟨oc, od, .func (PySem.W.fnOf "__init__" qual (defArgs st) (defBody st) (defScope st) .none kV doc pm an cdv ct), osl⟩) (c : PySem.W.codeIn K cdv qual = true) (k : PySem.W.keepIn K (.ref f) = true)
    (h : ∀ (kV doc pm : Value) (an : Option Addr) (cdv ct : Value) (us : List Value), us.length = ps.length → bindArgs (PySem.W.fnOf "__init__" qual (defArgs st) (defBody st) (defScope st) .none kV doc pm an cdv ct) ⟨us, []⟩ = pure (ps.zip us)) :
    ∃ f fd, Mk K C f ∧ Fun K "__init__" qual st f fd ∧ Binds K fd ps [] :=
  have F := fun_mk (st := st) l c k
  ⟨f, _, ⟨m, a, i, kc⟩, F, F.binds h⟩
theorem glob_mk (X : K.In h) (G : h.Ns mainGlobals mg) {x : Str} {v : V} {u : Value} (a : PySem.W.nsIn K mainGlobals x = some (some u)) (r : RelV v u) : ∃ u, mg x = some u ∧ RelV v u := ⟨u, PySem.W.mg_of X G a, r⟩
/-- a def whose code object has a table -/
theorem dfc_ex (X : K.In h) (G : h.Ns mainGlobals mg) {x : Str} {st : Stmt} {ps : List Str} {f c TP : Addr} {oc : Value} {od an : Option Addr} {osl : Array (Option Value)} {kV doc pm ct : Value}
    (a : PySem.W.nsIn K mainGlobals x = some (some (.ref f)))
    (l : K.lookup f = some ⟨oc, od, .func (PySem.W.fnOf x x (defArgs st) (defBody st) (defScope st) .none kV doc pm an (.ref c) ct), osl⟩)
    (cc : PySem.W.codeIn K (.ref c) x = true) (k : PySem.W.keepIn K (.ref f) = true) (hd : PySem.W.codeHdIn K c TP = true)
    (b : ∀ (kV doc pm : Value) (an : Option Addr) (cdv ct : Value) (us : List Value), us.length = ps.length → bindArgs (PySem.W.fnOf x x (defArgs st) (defBody st) (defScope st) .none kV doc pm an cdv ct) ⟨us, []⟩ = pure (ps.zip us)) :
    ∃ c, PySem.W.CodeHd h c TP ∧ DfC K mg x st ps c :=
  have F := fun_mk (st := st) l cc k
  ⟨c, PySem.W.codeHd_of_K X hd, ⟨f, oc, od, an, osl, kV, doc, pm, ct, l, cc, PySem.W.mg_of X G a, k, F.binds b⟩⟩
/-- the two classes -/
structure TxC (K : PySem.W.Frag) (mg : Str → Option Value) (a : Ad) : Prop where
  gY : mg "Yard" = some (.ref a.Y)
  clY : Cls K a.Y
  mkY : ∃ f fd, Mk K a.Y f ∧ Fun K "__init__" "Yard.__init__" sYardInit f fd ∧ Binds K fd ["self", "heights"] []
  naY : NoAttr K a.Y "heights"
  gC : mg "Crowd" = some (.ref a.C)
  clC : Cls K a.C
  mkC : ∃ f fd, Mk K a.C f ∧ Fun K "__init__" "Crowd.__init__" sCrowdInit f fd ∧ Binds K fd ["self", "first", "end", "boxes"] []
  naC1 : NoAttr K a.C "first"
  naC2 : NoAttr K a.C "end"
  naC3 : NoAttr K a.C "boxes"
  isC : InsK K a.C
  nisC : ∀ t ∈ (["NoneType", "int", "list", "tuple", "str", "bool"] : List String), PySem.W.kitOne K (.type t) (.ref a.C) = some false
  eq : CrEq K a
/-- where the two classes stand, some way -/
abbrev ExC (_ : K.In h) (mg : Str → Option Value) : Prop := ∃ a : Ad, TxC K mg a
theorem txc_ex (X : K.In h) (G : h.Ns mainGlobals mg) {Y C fq : Addr} {oc : Value} {od an : Option Addr} {osl : Array (Option Value)} {kV doc pm cdv ct : Value}
    (aY : PySem.W.nsIn K mainGlobals "Yard" = some (some (.ref Y))) (aC : PySem.W.nsIn K mainGlobals "Crowd" = some (some (.ref C)))
    (clY : Cls K Y) (mkY : ∃ f fd, Mk K Y f ∧ Fun K "__init__" "Yard.__init__" sYardInit f fd ∧ Binds K fd ["self", "heights"] []) (naY : PySem.W.findIn K (.ref Y) "heights" = some none)
    (clC : Cls K C) (mkC : ∃ f fd, Mk K C f ∧ Fun K "__init__" "Crowd.__init__" sCrowdInit f fd ∧ Binds K fd ["self", "first", "end", "boxes"] [])
    (n1 : PySem.W.findIn K (.ref C) "first" = some none) (n2 : PySem.W.findIn K (.ref C) "end" = some none) (n3 : PySem.W.findIn K (.ref C) "boxes" = some none)
    (ha : PySem.W.findIn K (.ref C) "__class__" = some (some (.builtin "object.__class__"))) (hn : PySem.W.specialIn K (.builtin "object.__class__") "__get__" = some (some (.builtin "getset_descriptor.__get__")))
    (ht : PySem.W.takesIn K (.builtin "object.__class__") = some true) (hm : PySem.W.mroIn K C (.type "object") = some true) (me : PySem.W.kitOne K (.ref C) (.ref C) = some true)
    (k1 : PySem.W.kitOne K (.type "NoneType") (.ref C) = some false) (k2 : PySem.W.kitOne K (.type "int") (.ref C) = some false) (k3 : PySem.W.kitOne K (.type "list") (.ref C) = some false)
    (k4 : PySem.W.kitOne K (.type "tuple") (.ref C) = some false) (k5 : PySem.W.kitOne K (.type "str") (.ref C) = some false) (k6 : PySem.W.kitOne K (.type "bool") (.ref C) = some false)
    (q1 : PySem.W.findIn K (.ref C) "__eq__" = some (some (.ref fq))) (q2 : PySem.W.isFn K (.ref fq) = true)
    (q3 : K.lookup fq = some ⟨oc, od, .func (PySem.W.fnOf "__eq__" "Crowd.__eq__" (defArgs sCrowdEq) (defBody sCrowdEq) (defScope sCrowdEq) .none kV doc pm an cdv ct), osl⟩) (q4 : PySem.W.codeIn K cdv "Crowd.__eq__" = true) (q5 : PySem.W.keepIn K (.ref fq) = true) :
    ExC X mg := by
  have F := fun_mk (st := sCrowdEq) q3 q4 q5
  refine ⟨⟨Y, C⟩, ⟨PySem.W.mg_of X G aY, clY, mkY, naY, PySem.W.mg_of X G aC, clC, mkC, n1, n2, n3, ⟨clC, ha, hn, ht, hm, me⟩, fun t ht => ?_, ⟨fq, _, q1, q2, F, F.binds fun _ _ _ _ _ _ us hl => match us, hl with | [_, _], _ => rfl⟩⟩⟩
  simp only [List.mem_cons, List.not_mem_nil, or_false] at ht
  rcases ht with rfl | rfl | rfl | rfl | rfl | rfl
  · exact k1
  · exact k2
  · exact k3
  · exact k4
  · exact k5
  · exact k6
/-- an error's own fields are read plainly -/
theorem xfc_mk (_ : K.In h) {C : Addr} (a : PySem.W.findIn K (.ref C) "__getattribute__" = some (some (.builtin "BaseException.__getattribute__"))) (b : PySem.W.findIn K (.ref C) "__getattr__" = some none) (c : PySem.W.subIn K (.ref C) (.type "BaseException") = some true) (d : PySem.W.hasDictIn K C = true) : XfC K C := ⟨a, b, c, d⟩
/-- an exception's facts, wherever it stands -/
abbrev XOwY (Y : Addr) (K : PySem.W.Frag) (mg : Str → Option Value) (C : Addr) (st : Stmt) (x qual fld : Str) : Prop := ∃ fI : Addr, XTxt K theP mg C fI st x qual fld fld "Exception" "Exception.__new__" excB "Exception" "Exception.__init__" (ownTl Y)
structure XAll (Y : Addr) (K : PySem.W.Frag) (mg : Str → Option Value) (C : Addr) (st : Stmt) (x qual fld : Str) : Prop where
  own : XOwY Y K mg C st x qual fld
  fc : XfC K C
/-- where the exceptions stand, some way -/
abbrev Ex2 (_ : K.In h) (mg : Str → Option Value) : Prop := ∃ e : Ae, Tx2 theP K mg e
theorem tx2_ex (X : K.In h) {Y S O Z R N : Addr} (_ : PySem.W.nsIn K mainGlobals "YardError" = some (some (.ref Y))) (_ : PySem.W.nsIn K mainGlobals "InvalidStanding" = some (some (.ref S))) (_ : PySem.W.nsIn K mainGlobals "InvalidOrder" = some (some (.ref O))) (_ : PySem.W.nsIn K mainGlobals "InvalidSize" = some (some (.ref Z)))
    (_ : PySem.W.nsIn K mainGlobals "Refused" = some (some (.ref R))) (_ : PySem.W.nsIn K mainGlobals "NoName" = some (some (.ref N)))
    (xS : XAll Y K mg S sInvalidStandingInit "InvalidStanding" "InvalidStanding.__init__" "at") (xO : XOwY Y K mg O sInvalidOrderInit "InvalidOrder" "InvalidOrder.__init__" "at")
    (xZ : XAll Y K mg Z sInvalidSizeInit "InvalidSize" "InvalidSize.__init__" "word") (xR : XAll Y K mg R sRefusedInit "Refused" "Refused.__init__" "word")
    (xN : ∃ fI : Addr, XTxt K theP mg N fI sNoNameInit "NoName" "NoName.__init__" "name" "name" "LookupError" "LookupError.__new__" lookB "KeyError" "KeyError.__init__" keyTl) (fN : XfC K N)
    (mSS : PySem.W.exmOne K (.ref S) (.ref S) = some true) (mNS : PySem.W.exmOne K (.ref N) (.ref S) = some false) (mNN : PySem.W.exmOne K (.ref N) (.ref N) = some true)
    (mZS : PySem.W.exmOne K (.ref Z) (.ref S) = some false) (mZN : PySem.W.exmOne K (.ref Z) (.ref N) = some false) (mZZ : PySem.W.exmOne K (.ref Z) (.ref Z) = some true)
    (mRS : PySem.W.exmOne K (.ref R) (.ref S) = some false) (mRN : PySem.W.exmOne K (.ref R) (.ref N) = some false) (mRZ : PySem.W.exmOne K (.ref R) (.ref Z) = some false)
    (mRR : PySem.W.exmOne K (.ref R) (.ref R) = some true) (mOO : PySem.W.exmOne K (.ref O) (.ref O) = some true) : Ex2 X mg :=
  ⟨⟨S, O, Z, R, N⟩, ⟨Y, xS.own⟩, ⟨Y, xO⟩, ⟨Y, xZ.own⟩, ⟨Y, xR.own⟩, xN, mSS, mNS, mNN, mZS, mZN, mZZ, mRS, mRN, mRZ, mRR, mOO, xS.fc, fN, xZ.fc, xR.fc⟩
end
end K34
end
section
open PySem PySem.W PyProof.Rows
set_option maxRecDepth 100000
set_option maxHeartbeats 0
open_top hd for PySem.Challenge.rw_staysdeep_k34_whole_dues_and_crowds
end
section
set_option linter.all false
set_option maxRecDepth 100000
namespace K34
open PySem PySem.Spec PyProof.Rows L2 LamX
abbrev spTop (K : PySem.W.Frag) (TP : Addr) : Sp := fun vs H Q _ => ∃ (s : Addr) (ns : List Int), vs = [.ref s] ∧ SqL K H s (ns.map V.int) ∧ ns.length ≤ 63 ∧ H TP = some (.tbl #[]) ∧ ∀ H', Q (.bl true) H'
theorem caG_imp {P : Program} {w : World} {K : PySem.W.Frag} {mg : Str → Option Value} {base : Heap} {k : Nat} {x : Str} {sp sp' : Sp} (c : CaG P w K mg base k x sp) (i : ∀ vs H Q E, sp' vs H Q E → sp vs H Q E) : CaG P w K mg base k x sp' := by
  obtain ⟨f, fd, ps, len, run, m, kp, b⟩ := c.ex
  exact ⟨f, fd, ps, fun vs H Q E h => len vs H Q E (i _ _ _ _ h), fun A outer s H args us vs Q E hg hr e0 hb r h => run A outer s H args us vs Q E hg hr e0 hb r (i _ _ _ _ h), m, kp, b⟩
theorem law_top {P : Program} {w : World} {K : PySem.W.Frag} {mg : Str → Option Value} {base : Heap} {a : Ad} {e : Ae} (T : Tx K mg a) (T2 : Tx2 P K mg e) (C : CrEq K a) {c TP : Addr} (D : DfC K mg "urgent_order" sUrgentOrder ["waits", "table"] c) (TB : TabB base mg c TP) : CaG P w K mg base 9 "law" (spTop K TP) :=
  caG_imp (ok_Law T T2 C D TB) fun vs H Q E ⟨s, ns, h1, h2, h3, h4, h5⟩ => ⟨s, ns, h1, h2, h3, fun q hq => by
    rw [List.mem_singleton.mp hq]
    exact TabS.nil h4, h5⟩
end K34
open PySem PySem.W PyProof.Rows
set_option maxHeartbeats 0 in
theorem PySem.Challenge.cw_staysdeep_k34_whole_dues_and_crowds_holds : PySem.Challenge.rw_staysdeep_k34_whole_dues_and_crowds.Holds := by
  refine hd ?_
  k_fill
  refine K34.walk_G (l := PySem.Challenge.rw_staysdeep_k34_whole_dues_and_crowds) (k := 9) rfl rfl rfl ⟨rfl, by decide, by decide⟩ (fun w h Y => ⟨PySem.W.km_in_of Y, PySem.W.km_tabs_of Y _ List.mem_cons_self⟩) ?F
  case F =>
    intro w mg h KX G
    have m_isinstance : mg "isinstance" = none := PySem.W.mg_none_of KX G (by k_is)
    have m_int : mg "int" = none := PySem.W.mg_none_of KX G (by k_is)
    have m_bool : mg "bool" = none := PySem.W.mg_none_of KX G (by k_is)
    have m_str : mg "str" = none := PySem.W.mg_none_of KX G (by k_is)
    have m_list : mg "list" = none := PySem.W.mg_none_of KX G (by k_is)
    have m_tuple : mg "tuple" = none := PySem.W.mg_none_of KX G (by k_is)
    have m_len : mg "len" = none := PySem.W.mg_none_of KX G (by k_is)
    have m_all : mg "all" = none := PySem.W.mg_none_of KX G (by k_is)
    have m_sorted : mg "sorted" = none := PySem.W.mg_none_of KX G (by k_is)
    have m_set : mg "set" = none := PySem.W.mg_none_of KX G (by k_is)
    have m_enumerate : mg "enumerate" = none := PySem.W.mg_none_of KX G (by k_is)
    have m_sum : mg "sum" = none := PySem.W.mg_none_of KX G (by k_is)
    have m_max : mg "max" = none := PySem.W.mg_none_of KX G (by k_is)
    have m_min : mg "min" = none := PySem.W.mg_none_of KX G (by k_is)
    have m_range : mg "range" = none := PySem.W.mg_none_of KX G (by k_is)
    have m_abs : mg "abs" = none := PySem.W.mg_none_of KX G (by k_is)
    have m_repr : mg "repr" = none := PySem.W.mg_none_of KX G (by k_is)
    have dIsInteger : K34.Df (L2.KOf KX) mg "is_integer" K34.sIsInteger ["value"] := by
      refine' K34.df_mk KX G ?a1 ?l1 ?c1 ?k1 ?h1
      (case a1 => k_is); (case l1 => k_is); (case c1 => k_is); (case k1 => k_is); (case h1 => exact fun _ _ _ _ _ _ us hl => match us, hl with | [_], _ => rfl)
    have dIsNumber : K34.Df (L2.KOf KX) mg "is_number" K34.sIsNumber ["value"] := by
      refine' K34.df_mk KX G ?a1 ?l1 ?c1 ?k1 ?h1
      (case a1 => k_is); (case l1 => k_is); (case c1 => k_is); (case k1 => k_is); (case h1 => exact fun _ _ _ _ _ _ us hl => match us, hl with | [_], _ => rfl)
    have dIsBelow : K34.Df (L2.KOf KX) mg "is_below" K34.sIsBelow ["value", "bound"] := by
      refine' K34.df_mk KX G ?a1 ?l1 ?c1 ?k1 ?h1
      (case a1 => k_is); (case l1 => k_is); (case c1 => k_is); (case k1 => k_is); (case h1 => exact fun _ _ _ _ _ _ us hl => match us, hl with | [_, _], _ => rfl)
    have dIsText : K34.Df (L2.KOf KX) mg "is_text" K34.sIsText ["value"] := by
      refine' K34.df_mk KX G ?a1 ?l1 ?c1 ?k1 ?h1
      (case a1 => k_is); (case l1 => k_is); (case c1 => k_is); (case k1 => k_is); (case h1 => exact fun _ _ _ _ _ _ us hl => match us, hl with | [_], _ => rfl)
    have dIsSequence : K34.Df (L2.KOf KX) mg "is_sequence" K34.sIsSequence ["value"] := by
      refine' K34.df_mk KX G ?a1 ?l1 ?c1 ?k1 ?h1
      (case a1 => k_is); (case l1 => k_is); (case c1 => k_is); (case k1 => k_is); (case h1 => exact fun _ _ _ _ _ _ us hl => match us, hl with | [_], _ => rfl)
    have dIsName : K34.Df (L2.KOf KX) mg "is_name" K34.sIsName ["value"] := by
      refine' K34.df_mk KX G ?a1 ?l1 ?c1 ?k1 ?h1
      (case a1 => k_is); (case l1 => k_is); (case c1 => k_is); (case k1 => k_is); (case h1 => exact fun _ _ _ _ _ _ us hl => match us, hl with | [_], _ => rfl)
    have dNeedNumber : K34.Df (L2.KOf KX) mg "need_number" K34.sNeedNumber ["value", "bound", "word"] := by
      refine' K34.df_mk KX G ?a1 ?l1 ?c1 ?k1 ?h1
      (case a1 => k_is); (case l1 => k_is); (case c1 => k_is); (case k1 => k_is); (case h1 => exact fun _ _ _ _ _ _ us hl => match us, hl with | [_, _, _], _ => rfl)
    have dLotOf : K34.Df (L2.KOf KX) mg "lot_of" K34.sLotOf ["things"] := by
      refine' K34.df_mk KX G ?a1 ?l1 ?c1 ?k1 ?h1
      (case a1 => k_is); (case l1 => k_is); (case c1 => k_is); (case k1 => k_is); (case h1 => exact fun _ _ _ _ _ _ us hl => match us, hl with | [_], _ => rfl)
    have dPlaces : K34.Df (L2.KOf KX) mg "places" K34.sPlaces ["yard"] := by
      refine' K34.df_mk KX G ?a1 ?l1 ?c1 ?k1 ?h1
      (case a1 => k_is); (case l1 => k_is); (case c1 => k_is); (case k1 => k_is); (case h1 => exact fun _ _ _ _ _ _ us hl => match us, hl with | [_], _ => rfl)
    have dCoverOf : K34.Df (L2.KOf KX) mg "cover_of" K34.sCoverOf ["yard", "stack", "level"] := by
      refine' K34.df_mk KX G ?a1 ?l1 ?c1 ?k1 ?h1
      (case a1 => k_is); (case l1 => k_is); (case c1 => k_is); (case k1 => k_is); (case h1 => exact fun _ _ _ _ _ _ us hl => match us, hl with | [_, _, _], _ => rfl)
    have dNeedStanding : K34.Df (L2.KOf KX) mg "need_standing" K34.sNeedStanding ["yard", "value"] := by
      refine' K34.df_mk KX G ?a1 ?l1 ?c1 ?k1 ?h1
      (case a1 => k_is); (case l1 => k_is); (case c1 => k_is); (case k1 => k_is); (case h1 => exact fun _ _ _ _ _ _ us hl => match us, hl with | [_, _], _ => rfl)
    have dFreePlaces : K34.Df (L2.KOf KX) mg "free_places" K34.sFreePlaces ["yard", "standing"] := by
      refine' K34.df_mk KX G ?a1 ?l1 ?c1 ?k1 ?h1
      (case a1 => k_is); (case l1 => k_is); (case c1 => k_is); (case k1 => k_is); (case h1 => exact fun _ _ _ _ _ _ us hl => match us, hl with | [_, _], _ => rfl)
    have dBoxesOf : K34.Df (L2.KOf KX) mg "boxes_of" K34.sBoxesOf ["standing"] := by
      refine' K34.df_mk KX G ?a1 ?l1 ?c1 ?k1 ?h1
      (case a1 => k_is); (case l1 => k_is); (case c1 => k_is); (case k1 => k_is); (case h1 => exact fun _ _ _ _ _ _ us hl => match us, hl with | [_], _ => rfl)
    have dNeedGoings : K34.Df (L2.KOf KX) mg "need_goings" K34.sNeedGoings ["yard", "standing", "value"] := by
      refine' K34.df_mk KX G ?a1 ?l1 ?c1 ?k1 ?h1
      (case a1 => k_is); (case l1 => k_is); (case c1 => k_is); (case k1 => k_is); (case h1 => exact fun _ _ _ _ _ _ us hl => match us, hl with | [_, _, _], _ => rfl)
    have dWaitTable : K34.Df (L2.KOf KX) mg "wait_table" K34.sWaitTable ["yard", "standing"] := by
      refine' K34.df_mk KX G ?a1 ?l1 ?c1 ?k1 ?h1
      (case a1 => k_is); (case l1 => k_is); (case c1 => k_is); (case k1 => k_is); (case h1 => exact fun _ _ _ _ _ _ us hl => match us, hl with | [_, _], _ => rfl)
    have dDueTable : K34.Df (L2.KOf KX) mg "due_table" K34.sDueTable ["yard", "standing", "dues"] := by
      refine' K34.df_mk KX G ?a1 ?l1 ?c1 ?k1 ?h1
      (case a1 => k_is); (case l1 => k_is); (case c1 => k_is); (case k1 => k_is); (case h1 => exact fun _ _ _ _ _ _ us hl => match us, hl with | [_, _, _], _ => rfl)
    have dUrgentOrder : K34.Df (L2.KOf KX) mg "urgent_order" K34.sUrgentOrder ["waits", "table"] := by
      refine' K34.df_mk KX G ?a1 ?l1 ?c1 ?k1 ?h1
      (case a1 => k_is); (case l1 => k_is); (case c1 => k_is); (case k1 => k_is); (case h1 => exact fun _ _ _ _ _ _ us hl => match us, hl with | [_, _], _ => rfl)
    have dInTime : K34.Df (L2.KOf KX) mg "in_time" K34.sInTime ["order", "table"] := by
      refine' K34.df_mk KX G ?a1 ?l1 ?c1 ?k1 ?h1
      (case a1 => k_is); (case l1 => k_is); (case c1 => k_is); (case k1 => k_is); (case h1 => exact fun _ _ _ _ _ _ us hl => match us, hl with | [_, _], _ => rfl)
    have dCrowded : K34.Df (L2.KOf KX) mg "crowded" K34.sCrowded ["waits", "table", "first", "end"] := by
      refine' K34.df_mk KX G ?a1 ?l1 ?c1 ?k1 ?h1
      (case a1 => k_is); (case l1 => k_is); (case c1 => k_is); (case k1 => k_is); (case h1 => exact fun _ _ _ _ _ _ us hl => match us, hl with | [_, _, _, _], _ => rfl)
    have dFirstCrowd : K34.Df (L2.KOf KX) mg "first_crowd" K34.sFirstCrowd ["waits", "table"] := by
      refine' K34.df_mk KX G ?a1 ?l1 ?c1 ?k1 ?h1
      (case a1 => k_is); (case l1 => k_is); (case c1 => k_is); (case k1 => k_is); (case h1 => exact fun _ _ _ _ _ _ us hl => match us, hl with | [_, _], _ => rfl)
    have dDueOrder : K34.Df (L2.KOf KX) mg "due_order" K34.sDueOrder ["yard", "standing", "dues"] := by
      refine' K34.df_mk KX G ?a1 ?l1 ?c1 ?k1 ?h1
      (case a1 => k_is); (case l1 => k_is); (case c1 => k_is); (case k1 => k_is); (case h1 => exact fun _ _ _ _ _ _ us hl => match us, hl with | [_, _, _], _ => rfl)
    have dIsOrder : K34.Df (L2.KOf KX) mg "is_order" K34.sIsOrder ["yard", "standing", "value"] := by
      refine' K34.df_mk KX G ?a1 ?l1 ?c1 ?k1 ?h1
      (case a1 => k_is); (case l1 => k_is); (case c1 => k_is); (case k1 => k_is); (case h1 => exact fun _ _ _ _ _ _ us hl => match us, hl with | [_, _, _], _ => rfl)
    have dCheckDues : K34.Df (L2.KOf KX) mg "check_dues" K34.sCheckDues ["yard", "standing", "dues", "value"] := by
      refine' K34.df_mk KX G ?a1 ?l1 ?c1 ?k1 ?h1
      (case a1 => k_is); (case l1 => k_is); (case c1 => k_is); (case k1 => k_is); (case h1 => exact fun _ _ _ _ _ _ us hl => match us, hl with | [_, _, _, _], _ => rfl)
    have dLSource : K34.Df (L2.KOf KX) mg "_law_source" K34.sLSource ["_law_script", "_law_base"] := by
      refine' K34.df_mk KX G ?a1 ?l1 ?c1 ?k1 ?h1
      (case a1 => k_is); (case l1 => k_is); (case c1 => k_is); (case k1 => k_is); (case h1 => exact fun _ _ _ _ _ _ us hl => match us, hl with | [_, _], _ => rfl)
    have dLNumber : K34.Df (L2.KOf KX) mg "_law_number" K34.sLNumber ["_law_source_here", "_law_bound"] := by
      refine' K34.df_mk KX G ?a1 ?l1 ?c1 ?k1 ?h1
      (case a1 => k_is); (case l1 => k_is); (case c1 => k_is); (case k1 => k_is); (case h1 => exact fun _ _ _ _ _ _ us hl => match us, hl with | [_, _], _ => rfl)
    have dLOf : K34.Df (L2.KOf KX) mg "_law_of" K34.sLOf ["_law_source_here", "_law_some"] := by
      refine' K34.df_mk KX G ?a1 ?l1 ?c1 ?k1 ?h1
      (case a1 => k_is); (case l1 => k_is); (case c1 => k_is); (case k1 => k_is); (case h1 => exact fun _ _ _ _ _ _ us hl => match us, hl with | [_, _], _ => rfl)
    have dLMixed : K34.Df (L2.KOf KX) mg "_law_mixed" K34.sLMixed ["_law_source_here", "_law_some"] := by
      refine' K34.df_mk KX G ?a1 ?l1 ?c1 ?k1 ?h1
      (case a1 => k_is); (case l1 => k_is); (case c1 => k_is); (case k1 => k_is); (case h1 => exact fun _ _ _ _ _ _ us hl => match us, hl with | [_, _], _ => rfl)
    have dLNames : K34.Df (L2.KOf KX) mg "_law_names" K34.sLNames ["_law_source_here", "_law_many"] := by
      refine' K34.df_mk KX G ?a1 ?l1 ?c1 ?k1 ?h1
      (case a1 => k_is); (case l1 => k_is); (case c1 => k_is); (case k1 => k_is); (case h1 => exact fun _ _ _ _ _ _ us hl => match us, hl with | [_, _], _ => rfl)
    have dLHeights : K34.Df (L2.KOf KX) mg "_law_heights" K34.sLHeights ["_law_source_here", "_law_many", "_law_tall", "_law_most"] := by
      refine' K34.df_mk KX G ?a1 ?l1 ?c1 ?k1 ?h1
      (case a1 => k_is); (case l1 => k_is); (case c1 => k_is); (case k1 => k_is); (case h1 => exact fun _ _ _ _ _ _ us hl => match us, hl with | [_, _, _, _], _ => rfl)
    have dLFilled : K34.Df (L2.KOf KX) mg "_law_filled" K34.sLFilled ["_law_source_here", "_law_heights_here", "_law_boxes"] := by
      refine' K34.df_mk KX G ?a1 ?l1 ?c1 ?k1 ?h1
      (case a1 => k_is); (case l1 => k_is); (case c1 => k_is); (case k1 => k_is); (case h1 => exact fun _ _ _ _ _ _ us hl => match us, hl with | [_, _, _], _ => rfl)
    have dLBent : K34.Df (L2.KOf KX) mg "_law_bent" K34.sLBent ["_law_source_here", "_law_one"] := by
      refine' K34.df_mk KX G ?a1 ?l1 ?c1 ?k1 ?h1
      (case a1 => k_is); (case l1 => k_is); (case c1 => k_is); (case k1 => k_is); (case h1 => exact fun _ _ _ _ _ _ us hl => match us, hl with | [_, _], _ => rfl)
    have dLWaits : K34.Df (L2.KOf KX) mg "_law_waits" K34.sLWaits ["_law_heights_here", "_law_one"] := by
      refine' K34.df_mk KX G ?a1 ?l1 ?c1 ?k1 ?h1
      (case a1 => k_is); (case l1 => k_is); (case c1 => k_is); (case k1 => k_is); (case h1 => exact fun _ _ _ _ _ _ us hl => match us, hl with | [_, _], _ => rfl)
    have dLOrder : K34.Df (L2.KOf KX) mg "_law_order" K34.sLOrder ["_law_source_here", "_law_waits_here"] := by
      refine' K34.df_mk KX G ?a1 ?l1 ?c1 ?k1 ?h1
      (case a1 => k_is); (case l1 => k_is); (case c1 => k_is); (case k1 => k_is); (case h1 => exact fun _ _ _ _ _ _ us hl => match us, hl with | [_, _], _ => rfl)
    have dLDues : K34.Df (L2.KOf KX) mg "_law_dues" K34.sLDues ["_law_source_here", "_law_waits_here", "_law_order_here", "_law_slack"] := by
      refine' K34.df_mk KX G ?a1 ?l1 ?c1 ?k1 ?h1
      (case a1 => k_is); (case l1 => k_is); (case c1 => k_is); (case k1 => k_is); (case h1 => exact fun _ _ _ _ _ _ us hl => match us, hl with | [_, _, _, _], _ => rfl)
    have dLUrgent : K34.Df (L2.KOf KX) mg "_law_urgent" K34.sLUrgent ["_law_waits_here", "_law_dues_here"] := by
      refine' K34.df_mk KX G ?a1 ?l1 ?c1 ?k1 ?h1
      (case a1 => k_is); (case l1 => k_is); (case c1 => k_is); (case k1 => k_is); (case h1 => exact fun _ _ _ _ _ _ us hl => match us, hl with | [_, _], _ => rfl)
    have dLKeeps : K34.Df (L2.KOf KX) mg "_law_keeps" K34.sLKeeps ["_law_waits_here", "_law_dues_here", "_law_order_here"] := by
      refine' K34.df_mk KX G ?a1 ?l1 ?c1 ?k1 ?h1
      (case a1 => k_is); (case l1 => k_is); (case c1 => k_is); (case k1 => k_is); (case h1 => exact fun _ _ _ _ _ _ us hl => match us, hl with | [_, _, _], _ => rfl)
    have dLLot : K34.Df (L2.KOf KX) mg "_law_lot" K34.sLLot ["_law_waits_here", "_law_dues_here", "_law_first_here", "_law_end"] := by
      refine' K34.df_mk KX G ?a1 ?l1 ?c1 ?k1 ?h1
      (case a1 => k_is); (case l1 => k_is); (case c1 => k_is); (case k1 => k_is); (case h1 => exact fun _ _ _ _ _ _ us hl => match us, hl with | [_, _, _, _], _ => rfl)
    have dLFirst : K34.Df (L2.KOf KX) mg "_law_first" K34.sLFirst ["_law_waits_here", "_law_dues_here"] := by
      refine' K34.df_mk KX G ?a1 ?l1 ?c1 ?k1 ?h1
      (case a1 => k_is); (case l1 => k_is); (case c1 => k_is); (case k1 => k_is); (case h1 => exact fun _ _ _ _ _ _ us hl => match us, hl with | [_, _], _ => rfl)
    have dLOrders : K34.Df (L2.KOf KX) mg "_law_orders" K34.sLOrders ["_law_source_here", "_law_waits_here", "_law_dues_here", "_law_order_here", "_law_yard", "_law_one", "_law_told"] := by
      refine' K34.df_mk KX G ?a1 ?l1 ?c1 ?k1 ?h1
      (case a1 => k_is); (case l1 => k_is); (case c1 => k_is); (case k1 => k_is); (case h1 => exact fun _ _ _ _ _ _ us hl => match us, hl with | [_, _, _, _, _, _, _], _ => rfl)
    have dLCrowds : K34.Df (L2.KOf KX) mg "_law_crowds" K34.sLCrowds ["_law_source_here", "_law_waits_here", "_law_dues_here", "_law_yard", "_law_one", "_law_told"] := by
      refine' K34.df_mk KX G ?a1 ?l1 ?c1 ?k1 ?h1
      (case a1 => k_is); (case l1 => k_is); (case c1 => k_is); (case k1 => k_is); (case h1 => exact fun _ _ _ _ _ _ us hl => match us, hl with | [_, _, _, _, _, _], _ => rfl)
    have dLWrong : K34.Df (L2.KOf KX) mg "_law_wrong" K34.sLWrong ["_law_turn", "_law_yard", "_law_one", "_law_dues_here"] := by
      refine' K34.df_mk KX G ?a1 ?l1 ?c1 ?k1 ?h1
      (case a1 => k_is); (case l1 => k_is); (case c1 => k_is); (case k1 => k_is); (case h1 => exact fun _ _ _ _ _ _ us hl => match us, hl with | [_, _, _, _], _ => rfl)
    have dLErrors : K34.Df (L2.KOf KX) mg "_law_errors" K34.sLErrors ["_law_source_here", "_law_yard", "_law_one", "_law_lot_here", "_law_stranger"] := by
      refine' K34.df_mk KX G ?a1 ?l1 ?c1 ?k1 ?h1
      (case a1 => k_is); (case l1 => k_is); (case c1 => k_is); (case k1 => k_is); (case h1 => exact fun _ _ _ _ _ _ us hl => match us, hl with | [_, _, _, _, _], _ => rfl)
    have dLaw : K34.Df (L2.KOf KX) mg "law" K34.sLaw ["_law_script"] := by
      refine' K34.df_mk KX G ?a1 ?l1 ?c1 ?k1 ?h1
      (case a1 => k_is); (case l1 => k_is); (case c1 => k_is); (case k1 => k_is); (case h1 => exact fun _ _ _ _ _ _ us hl => match us, hl with | [_], _ => rfl)
    have gLetters : ∃ u, mg "LETTERS" = some u ∧ L2.RelV (.str "abcdefghijklmnopqrstuvwxyz") u := by
      refine' K34.glob_mk KX G ?a1 ?r1
      (case a1 => k_is); (case r1 => exact ⟨_, rfl⟩)
    have gLongest : ∃ u, mg "LONGEST" = some u ∧ L2.RelV (.int 8) u := by
      refine' K34.glob_mk KX G ?a1 ?r1
      (case a1 => k_is); (case r1 => exact ⟨_, rfl⟩)
    have gFewest : ∃ u, mg "FEWEST" = some u ∧ L2.RelV (.int 3) u := by
      refine' K34.glob_mk KX G ?a1 ?r1
      (case a1 => k_is); (case r1 => exact ⟨_, rfl⟩)
    have gMost : ∃ u, mg "MOST" = some u ∧ L2.RelV (.int 12) u := by
      refine' K34.glob_mk KX G ?a1 ?r1
      (case a1 => k_is); (case r1 => exact ⟨_, rfl⟩)
    have eC : K34.ExC KX mg := by
      refine' K34.txc_ex KX G ?aY ?aC ?clY ?mkY ?naY ?clC ?mkC ?n1 ?n2 ?n3 ?ha ?hn ?ht ?hm ?me ?k1 ?k2 ?k3 ?k4 ?k5 ?k6 ?q1 ?q2 ?q3 ?q4 ?q5
      (case aY => k_is); (case aC => k_is); (case clY => (refine' ⟨?p1, ?p2, ?p3, ?p4⟩; (case p1 => k_is); (case p2 => k_is); (case p3 => k_is); (case p4 => k_is))); (case mkY => (refine' K34.mk_mk ?i1 ?i2 ?i3 ?i4 ?i5 ?i6 ?i7 ?i8; (case i1 => k_is); (case i2 => k_is); (case i3 => k_is); (case i4 => k_is); (case i5 => k_is); (case i6 => k_is); (case i7 => k_is); (case i8 => exact fun _ _ _ _ _ _ us hl => match us, hl with | [_, _], _ => rfl))); (case naY => k_is); (case clC => (refine' ⟨?p1, ?p2, ?p3, ?p4⟩; (case p1 => k_is); (case p2 => k_is); (case p3 => k_is); (case p4 => k_is))); (case mkC => (refine' K34.mk_mk ?i1 ?i2 ?i3 ?i4 ?i5 ?i6 ?i7 ?i8; (case i1 => k_is); (case i2 => k_is); (case i3 => k_is); (case i4 => k_is); (case i5 => k_is); (case i6 => k_is); (case i7 => k_is); (case i8 => exact fun _ _ _ _ _ _ us hl => match us, hl with | [_, _, _, _], _ => rfl))); (case n1 => k_is); (case n2 => k_is); (case n3 => k_is); (case ha => k_is); (case hn => k_is); (case ht => k_is); (case hm => k_is); (case me => kernel_rfl); (case k1 => kernel_rfl); (case k2 => kernel_rfl); (case k3 => kernel_rfl); (case k4 => kernel_rfl); (case k5 => kernel_rfl); (case k6 => kernel_rfl); (case q1 => k_is); (case q2 => k_is); (case q3 => k_is); (case q4 => k_is); (case q5 => k_is)
    have eX : K34.Ex2 KX mg := by
      refine' K34.tx2_ex KX ?aY ?aS ?aO ?aZ ?aR ?aN ?xS ?xO ?xZ ?xR ?xN ?fN ?mSS ?mNS ?mNN ?mZS ?mZN ?mZZ ?mRS ?mRN ?mRZ ?mRR ?mOO
      (case aY => k_is); (case aS => k_is); (case aO => k_is); (case aZ => k_is); (case aR => k_is); (case aN => k_is); (case xS => (refine' ⟨⟨_, ?own⟩, ?fc⟩; (case own => (refine' K34.xtxt_mk KX G K34.xst_S (K34.chn_Own _) ?aC ?xL ?sa ?nb ?b1 ?t1 ?kC ?eC ?tC ?hB ?sup ?z1 ?ope ?l1 ?c1 ?l2 ?l3 ?v2 ?fe; (case aC => k_is); (case xL => k_is); (case sa => k_is); (case nb => k_is); (case b1 => k_is); (case t1 => k_is); (case kC => k_is); (case eC => k_is); (case tC => k_is); (case hB => k_is); (case sup => kernel_rfl); (case z1 => k_is); (case ope => k_is); (case l1 => k_is); (case c1 => k_is); (case l2 => k_is); (case l3 => k_is); (case v2 => rfl); (case fe => kernel_rfl))); (case fc => (refine' K34.xfc_mk KX ?f1 ?f2 ?f3 ?f4; (case f1 => k_is); (case f2 => k_is); (case f3 => k_is); (case f4 => k_is))))); (case xO => (refine' ⟨_, ?own⟩; (case own => (refine' K34.xtxt_mk KX G K34.xst_O (K34.chn_Own _) ?aC ?xL ?sa ?nb ?b1 ?t1 ?kC ?eC ?tC ?hB ?sup ?z1 ?ope ?l1 ?c1 ?l2 ?l3 ?v2 ?fe; (case aC => k_is); (case xL => k_is); (case sa => k_is); (case nb => k_is); (case b1 => k_is); (case t1 => k_is); (case kC => k_is); (case eC => k_is); (case tC => k_is); (case hB => k_is); (case sup => kernel_rfl); (case z1 => k_is); (case ope => k_is); (case l1 => k_is); (case c1 => k_is); (case l2 => k_is); (case l3 => k_is); (case v2 => rfl); (case fe => kernel_rfl))))); (case xZ => (refine' ⟨⟨_, ?own⟩, ?fc⟩; (case own => (refine' K34.xtxt_mk KX G K34.xst_Z (K34.chn_Own _) ?aC ?xL ?sa ?nb ?b1 ?t1 ?kC ?eC ?tC ?hB ?sup ?z1 ?ope ?l1 ?c1 ?l2 ?l3 ?v2 ?fe; (case aC => k_is); (case xL => k_is); (case sa => k_is); (case nb => k_is); (case b1 => k_is); (case t1 => k_is); (case kC => k_is); (case eC => k_is); (case tC => k_is); (case hB => k_is); (case sup => kernel_rfl); (case z1 => k_is); (case ope => k_is); (case l1 => k_is); (case c1 => k_is); (case l2 => k_is); (case l3 => k_is); (case v2 => rfl); (case fe => kernel_rfl))); (case fc => (refine' K34.xfc_mk KX ?f1 ?f2 ?f3 ?f4; (case f1 => k_is); (case f2 => k_is); (case f3 => k_is); (case f4 => k_is))))); (case xR => (refine' ⟨⟨_, ?own⟩, ?fc⟩; (case own => (refine' K34.xtxt_mk KX G K34.xst_R (K34.chn_Own _) ?aC ?xL ?sa ?nb ?b1 ?t1 ?kC ?eC ?tC ?hB ?sup ?z1 ?ope ?l1 ?c1 ?l2 ?l3 ?v2 ?fe; (case aC => k_is); (case xL => k_is); (case sa => k_is); (case nb => k_is); (case b1 => k_is); (case t1 => k_is); (case kC => k_is); (case eC => k_is); (case tC => k_is); (case hB => k_is); (case sup => kernel_rfl); (case z1 => k_is); (case ope => k_is); (case l1 => k_is); (case c1 => k_is); (case l2 => k_is); (case l3 => k_is); (case v2 => rfl); (case fe => kernel_rfl))); (case fc => (refine' K34.xfc_mk KX ?f1 ?f2 ?f3 ?f4; (case f1 => k_is); (case f2 => k_is); (case f3 => k_is); (case f4 => k_is))))); (case xN => (refine' ⟨_, ?own⟩; (case own => (refine' K34.xtxt_mk KX G K34.xst_N K34.chn_Key ?aC ?xL ?sa ?nb ?b1 ?t1 ?kC ?eC ?tC ?hB ?sup ?z1 ?ope ?l1 ?c1 ?l2 ?l3 ?v2 ?fe; (case aC => k_is); (case xL => k_is); (case sa => k_is); (case nb => k_is); (case b1 => k_is); (case t1 => k_is); (case kC => k_is); (case eC => k_is); (case tC => k_is); (case hB => k_is); (case sup => kernel_rfl); (case z1 => k_is); (case ope => k_is); (case l1 => k_is); (case c1 => k_is); (case l2 => k_is); (case l3 => k_is); (case v2 => rfl); (case fe => kernel_rfl))))); (case fN => (refine' K34.xfc_mk KX ?f1 ?f2 ?f3 ?f4; (case f1 => k_is); (case f2 => k_is); (case f3 => k_is); (case f4 => k_is))); (case mSS => kernel_rfl); (case mNS => kernel_rfl); (case mNN => kernel_rfl); (case mZS => kernel_rfl); (case mZN => kernel_rfl); (case mZZ => kernel_rfl); (case mRS => kernel_rfl); (case mRN => kernel_rfl); (case mRZ => kernel_rfl); (case mRR => kernel_rfl); (case mOO => kernel_rfl)
    have eD : ∃ c, PySem.W.CodeHd h c 318 ∧ K34.DfC (L2.KOf KX) mg "urgent_order" K34.sUrgentOrder ["waits", "table"] c := by
      refine' K34.dfc_ex KX G ?a1 ?l1 ?c1 ?k1 ?hd ?h1
      (case a1 => k_is); (case l1 => k_is); (case c1 => k_is); (case k1 => k_is); (case hd => kernel_rfl); (case h1 => exact fun _ _ _ _ _ _ us hl => match us, hl with | [_, _], _ => rfl)
    obtain ⟨a, cA⟩ := eC
    obtain ⟨e, T2⟩ := eX
    obtain ⟨c, hc, D⟩ := eD
    have TX : K34.Tx (L2.KOf KX) mg a := { m_isinstance := m_isinstance, m_int := m_int, m_bool := m_bool, m_str := m_str, m_list := m_list, m_tuple := m_tuple, m_len := m_len, m_all := m_all, m_sorted := m_sorted, m_set := m_set, m_enumerate := m_enumerate, m_sum := m_sum, m_max := m_max, m_min := m_min, m_range := m_range, m_abs := m_abs, m_repr := m_repr, dIsInteger := dIsInteger, dIsNumber := dIsNumber, dIsBelow := dIsBelow, dIsText := dIsText, dIsSequence := dIsSequence, dIsName := dIsName, dNeedNumber := dNeedNumber, dLotOf := dLotOf, dPlaces := dPlaces, dCoverOf := dCoverOf, dNeedStanding := dNeedStanding, dFreePlaces := dFreePlaces, dBoxesOf := dBoxesOf, dNeedGoings := dNeedGoings, dWaitTable := dWaitTable, dDueTable := dDueTable, dUrgentOrder := dUrgentOrder, dInTime := dInTime, dCrowded := dCrowded, dFirstCrowd := dFirstCrowd, dDueOrder := dDueOrder, dIsOrder := dIsOrder, dCheckDues := dCheckDues, dLSource := dLSource, dLNumber := dLNumber, dLOf := dLOf, dLMixed := dLMixed, dLNames := dLNames, dLHeights := dLHeights, dLFilled := dLFilled, dLBent := dLBent, dLWaits := dLWaits, dLOrder := dLOrder, dLDues := dLDues, dLUrgent := dLUrgent, dLKeeps := dLKeeps, dLLot := dLLot, dLFirst := dLFirst, dLOrders := dLOrders, dLCrowds := dLCrowds, dLWrong := dLWrong, dLErrors := dLErrors, dLaw := dLaw, gLetters := gLetters, gLongest := gLongest, gFewest := gFewest, gMost := gMost, gY := cA.gY, clY := cA.clY, mkY := cA.mkY, naY := cA.naY, gC := cA.gC, clC := cA.clC, mkC := cA.mkC, naC1 := cA.naC1, naC2 := cA.naC2, naC3 := cA.naC3, isC := cA.isC, nisC := cA.nisC }
    exact ⟨by kernel_rfl, c, hc, fun base TB => K34.law_top TX T2 cA.eq D TB⟩
end
