import PyProof.Rows.All
import Wide.All
import OpenK.AllK
import Wide.FinOn
import KE.KStateDown
import Lean
import Open.SpecLaws
import KE.OsGo
import HandS.ForSpec
import HandS.ExcInit
import HandS.ExcField
import HandS.Defaults
import HandS.Head0
import HandS.Head1
import HandS.Head2
import HandS.HeadHook1
import HandS.HeadHook2
import HandS.HeadHook3
import HandS.HeadHook4
import PyVbpoag
import VbpoagNeutral
import KE.SortData
import HandS.Comp
import HandS.Dict
import HandS.Iter
import HandS.Text
import HandS.Walk
import HandS.Codes
import HandS.Conv
import HandS.Deep
import HandS.Flow
import HandS.Set
import HandS.Strs
import HandS.TupSets
import HandS.SortInts
import HandS.DictTup
import KE.GoesRaise
import PySem.Challenge.RW_scanplaces_s01_answers
set_option Elab.async false
set_option linter.all false
set_option maxRecDepth 100000
set_option maxHeartbeats 0
namespace Sc
open PySem PySem.Spec PyProof.Rows L2
/-! ### the program by places; its tables -/
def top (i : Nat) : Stmt := PySem.Challenge.pw_scanplaces_s01_answers.main.body.getD i (.Pass ⟨0, 0, 0, 0⟩)
abbrev s_is_from : Stmt := top 21
abbrev s_is_right_head : Stmt := top 22
abbrev s_is_right : Stmt := top 23
abbrev s_wanted : Stmt := top 24
abbrev s_is_good : Stmt := top 25
abbrev s_looks_of : Stmt := top 26
abbrev s_put_right : Stmt := top 27
abbrev s_time_of : Stmt := top 28
abbrev s_scans_of : Stmt := top 29
abbrev s_items_of : Stmt := top 30
abbrev s_clashes_of : Stmt := top 31
abbrev s_need : Stmt := top 46
abbrev s_codes : Stmt := top 47
abbrev s_parted : Stmt := top 48
abbrev s_are_digits : Stmt := top 49
abbrev s_worth : Stmt := top 50
abbrev s_number_behind : Stmt := top 51
abbrev s_place_among : Stmt := top 52
abbrev s_right_fact : Stmt := top 53
abbrev s_read_worded : Stmt := top 54
abbrev s_plain_number : Stmt := top 55
abbrev s_values_of : Stmt := top 56
abbrev s_read_named : Stmt := top 57
abbrev s_read_line : Stmt := top 58
abbrev s_read_facts : Stmt := top 59
abbrev s_padded : Stmt := top 60
abbrev s_worded : Stmt := top 61
abbrev s_named : Stmt := top 62
abbrev s_written : Stmt := top 63
abbrev s_history_of : Stmt := top 82
abbrev s_Standing_init : Stmt := inClass (top 83) 0
abbrev s_Standing_is_over : Stmt := inClass (top 83) 1
abbrev s_Standing_does_fit : Stmt := inClass (top 83) 2
abbrev s_Standing_is_odd : Stmt := inClass (top 83) 3
abbrev s_Standing_believe : Stmt := inClass (top 83) 4
abbrev s_Standing_go_on : Stmt := inClass (top 83) 5
abbrev s_Standing_told : Stmt := inClass (top 83) 6
abbrev s_standing_of : Stmt := top 84
abbrev s_Refused_init : Stmt := inClass (top 94) 0
abbrev s_want : Stmt := top 95
abbrev s_want_within : Stmt := top 96
abbrev s_want_text : Stmt := top 97
abbrev s_listed : Stmt := top 98
abbrev s_flat : Stmt := top 99
abbrev s_Desk_init : Stmt := inClass (top 100) 0
abbrev s_Desk_facts : Stmt := inClass (top 100) 1
abbrev s_Desk_clear : Stmt := inClass (top 100) 2
abbrev s_Desk_learn : Stmt := inClass (top 100) 3
abbrev s_Desk_tell : Stmt := inClass (top 100) 4
abbrev s_Desk_send : Stmt := inClass (top 100) 5
abbrev s_Desk_standing : Stmt := inClass (top 100) 6
abbrev s_Desk_state_told : Stmt := inClass (top 100) 7
abbrev s_Desk_history : Stmt := inClass (top 100) 8
abbrev s_Desk_time : Stmt := inClass (top 100) 9
abbrev s_Desk_clashes : Stmt := inClass (top 100) 10
abbrev s_Desk_since : Stmt := inClass (top 100) 11
abbrev s_Desk_export : Stmt := inClass (top 100) 12
abbrev s_Desk_import_text : Stmt := inClass (top 100) 13
abbrev s_Desk_convert : Stmt := inClass (top 100) 14
abbrev s_Desk_same : Stmt := inClass (top 100) 15
abbrev s_Desk_signed : Stmt := inClass (top 100) 16
abbrev s_Desk_missing : Stmt := inClass (top 100) 17
abbrev s_Desk_at : Stmt := inClass (top 100) 18
abbrev s_Desk_sign : Stmt := inClass (top 100) 19
abbrev s_Desk_differ : Stmt := inClass (top 100) 20
abbrev s_Desk_counts : Stmt := inClass (top 100) 21
abbrev s_Desk_of_facts : Stmt := inClass (top 100) 22
abbrev s_Desk_of_places : Stmt := inClass (top 100) 23
abbrev s_Desk_answer : Stmt := inClass (top 100) 24
abbrev s_rows_at : Stmt := top 101
abbrev s_answers : Stmt := top 102
def dKINDS : PyData := .tuple [.str "PST", .str "ARR", .str "LFT", .str "OUT", .str "ATT", .str "HLD", .str "DLV", .str "RET", .str "CIN", .str "COT"]
def dNAMES : PyData := .tuple [.str "EVT", .str "DEV", .str "SEQ", .str "EPO", .str "CLK", .str "OFF", .str "ITM", .str "SIG", .str "TRU"]
def dSCAN_NAMES : PyData := .tuple [.str "CLK", .str "DEV", .str "EPO", .str "EVT", .str "ITM", .str "OFF", .str "SEQ"]
def dLOOK_NAMES : PyData := .tuple [.str "CLK", .str "DEV", .str "EPO", .str "EVT", .str "SEQ", .str "TRU"]
def dFITS : PyData := .tuple [.tuple [.int 0], .tuple [.int 0, .int 2], .tuple [.int 1], .tuple [.int 1, .int 4], .tuple [.int 3], .tuple [.int 3, .int 1], .tuple [.int 1, .int 3, .int 4], .tuple [.int 1, .int 4], .tuple [.int 1], .tuple [.int 7]]
def dBEHIND : PyData := .tuple [.int 1, .int 1, .int 2, .int 3, .int 3, .int 4, .int 5, .int 8, .int 7, .int 1]
def dSHAPES : PyData := .tuple [.tuple [.int 0, .int 0], .tuple [.int 9, .int 0], .tuple [.int 6, .int 0], .tuple [.int 3, .int 0], .tuple [.int 2, .int 0], .tuple [.int 2, .int 0], .tuple [.int 4, .int 0], .tuple [.int 1, .int 0], .tuple [.int 2, .int 0], .tuple [.int 3, .int 0], .tuple [.int 2, .int 1], .tuple [.int 1, .int 1], .tuple [.int 2, .int 0], .tuple [.int 2, .int 0], .tuple [.int 2, .int 0], .tuple [.int 2, .int 0], .tuple [.int 3, .int 0], .tuple [.int 2, .int 0], .tuple [.int 1, .int 0]]
end Sc
namespace Sc
open PySem PySem.Spec PyProof.Rows L2
/-! ### a table of the module, as the written part holds it -/
mutual
def tabU (K : PySem.W.Frag) : PyData → Value → Bool
  | .int i, .int k _ => decide (i = k)
  | .str x, .str z _ => decide (x = z)
  | .tuple ds, .ref a => (match K.lookup a with
    | some ⟨.type c, _, .seq its _, _⟩ => decide (c = "tuple") && (decide (its.size ≤ sizeLine) && tabUs K ds its.toList)
    | _ => false)
  | _, _ => false
def tabUs (K : PySem.W.Frag) : List PyData → List Value → Bool
  | [], [] => true
  | d :: ds, u :: us => tabU K d u && tabUs K ds us
  | _, _ => false
end
mutual
theorem tabU_ok {K : PySem.W.Frag} : ∀ (d : PyData) (u : Value), tabU K d u = true → ∃ v, RelV v u ∧ ∀ H, Dp K H v d
  | .int i, u, h => by
    cases u with
    | int j t =>
      unfold tabU at h
      have e : i = j := (of_decide_eq_true h)
      exact ⟨.int i, ⟨t, by rw [e]⟩, fun _ => .int i⟩
    | _ => simp [tabU] at h
  | .str x, u, h => by
    cases u with
    | str y t =>
      unfold tabU at h
      have e : x = y := (of_decide_eq_true h)
      exact ⟨.str x, ⟨t, by rw [e]⟩, fun _ => .str x⟩
    | _ => simp [tabU] at h
  | .tuple ds, u, h => by
    cases u with
    | ref a =>
      unfold tabU at h
      cases q : K.lookup a with
      | none => rw [q] at h; cases h
      | some o =>
        obtain ⟨oc, od, dt, osl⟩ := o
        rw [q] at h
        cases oc with
        | type c =>
          cases dt with
          | seq its n =>
            rw [Bool.and_eq_true, Bool.and_eq_true] at h
            obtain ⟨h1, h2, h3⟩ := h
            obtain ⟨vs, rv, dv⟩ := tabUs_ok ds its.toList h3
            exact ⟨.ref a, rfl, fun H => .tup (.inr ⟨_, its, n, q, congrArg Value.type (of_decide_eq_true h1), rfl, of_decide_eq_true h2, rv⟩) (dv H)⟩
          | _ => simp at h
        | _ => simp at h
    | _ => simp [tabU] at h
  | .none, u, h => by simp [tabU] at h
  | .bool _, u, h => by simp [tabU] at h
  | .list _, u, h => by simp [tabU] at h
  | .dict _, u, h => by simp [tabU] at h
theorem tabUs_ok {K : PySem.W.Frag} : ∀ (ds : List PyData) (us : List Value), tabUs K ds us = true → ∃ vs, Vals vs us ∧ ∀ H, DpAll K H vs ds
  | [], us, h => by
    cases us with
    | nil => exact ⟨[], .nil, fun _ => .nil⟩
    | cons _ _ => simp [tabUs] at h
  | d :: ds, us, h => by
    cases us with
    | nil => simp [tabUs] at h
    | cons u us =>
      unfold tabUs at h
      obtain ⟨h1, h2⟩ := Bool.and_eq_true_iff.mp h
      obtain ⟨v, rv, dv⟩ := tabU_ok d u h1
      obtain ⟨vs, rvs, dvs⟩ := tabUs_ok ds us h2
      exact ⟨v :: vs, .cons rv rvs, fun H => .cons (dv H) (dvs H)⟩
end
/-! ### Refused, as its class stands -/
def refB (K : PySem.W.Frag) (C : Addr) : Bool := (match K.lookup C with
  | some ⟨.type t, _, .cls cd, sl⟩ => decide (t = "type") && (match cd.mro, sl.toList with
    | .ref C' :: bm, [_, _, _, _, some (.builtin n), _] => decide (C' = C) && (decide (n = "ValueError.__new__") && (!cd.hasDel && (cd.hasDict && PySem.HandSPX.refsVE bm)))
    | _, _ => false)
  | _ => false) && (decide (PySem.W.findIn K (.ref C) "__setattr__" = some (some (.builtin "object.__setattr__"))) && (decide (PySem.W.subIn K (.ref C) (.type "BaseException") = some true) && (decide (PySem.W.typeIn K (.ref C) = some (.type "type")) && PySem.W.keepIn K (.ref C))))
theorem refB_ok {K : PySem.W.Frag} {C : Addr} (h : refB K C = true) : OexC K C := by
  unfold refB at h
  simp only [decide_eq_true_eq, Bool.and_eq_true] at h
  obtain ⟨h1, h2, h3, h4, h5⟩ := h
  refine ⟨?_, h2, h3, h4, h5⟩
  cases lk : K.lookup C with
  | none => rw [lk] at h1; cases h1
  | some o =>
    obtain ⟨oc, dd, dt, sl⟩ := o
    rw [lk] at h1
    cases oc with
    | type t =>
      cases dt with
      | cls cd =>
        obtain ⟨nm, bs, mro, ns, qn, hd, sn, sb, ab, co, dl⟩ := cd
        obtain ⟨ht, hm⟩ := Bool.and_eq_true_iff.mp h1
        have e0 := of_decide_eq_true ht
        clear h1 ht
        subst e0
        dsimp only at hm
        split at hm
        · rename_i C' bm k0 k1 k2 k3 n k5 hs
          simp only [Bool.and_eq_true, decide_eq_true_eq, Bool.not_eq_true'] at hm
          obtain ⟨e1, e2, e3, e4, e5⟩ := hm
          have esl : sl = #[k0, k1, k2, k3, some (.builtin n), k5] := by cases sl; exact congrArg Array.mk hs
          subst e1 e2 e3 e4 esl
          exact ⟨nm, qn, ns, bs, bm, sn, sb, ab, co, dd, k0, k1, k2, k3, k5, rfl, e5⟩
        · cases hm
      | _ => simp at h1
    | _ => simp at h1
def tabs : List (Str × PyData) := [("KINDS", dKINDS), ("NAMES", dNAMES), ("SCAN_NAMES", dSCAN_NAMES), ("LOOK_NAMES", dLOOK_NAMES), ("FITS", dFITS), ("BEHIND", dBEHIND), ("SHAPES", dSHAPES)]
/-- what the facts by names leave out -/
def more (K : PySem.W.Frag) : Bool := (tabs.all fun q => tabU K q.2 (.ref (He.ga K q.1))) && (refB K (He.ga K "Refused") && (xfB K (He.ga K "Refused") &&
  ((match PySem.W.findCls K (.type "ValueError") (.type "type") "__init__" with
    | some (.val (.builtin n)) => decide (n = "ValueError.__init__")
    | _ => false) &&
  (decide (PySem.W.findIn K (.ref (He.ga K "Refused")) "__init__" = some (some (.ref (He.ma K (He.ga K "Refused") "__init__")))) && decide (PySem.W.typeIn K (.ref (He.ma K (He.ga K "Refused") "__init__")) = some (.type "function"))))))
def names0 : List PySem.Str := ["SCAN", "LOOK", "DEVICE", "NUMBER", "SETTING", "CLOCK", "ITEM", "KIND", "OFFICE", "SIGNATURE", "TIME", "MOST_DEVICE", "MOST_NUMBER", "MOST_SETTING", "MOST_CLOCK", "MOST_ITEM", "MOST_KIND", "MOST_OFFICE", "MOST_SIGNATURE", "ROUND", "is_from", "is_right_head", "is_right", "wanted", "is_good", "looks_of", "put_right", "time_of", "scans_of", "items_of"]
def names1 : List PySem.Str := ["clashes_of", "KINDS", "LOOK_NAME", "OFFICES", "LINE_END", "BLANK", "SEMICOLON", "COLON", "ZERO", "WORDED", "NAMES", "SCAN_NAMES", "LOOK_NAMES", "WrongLine", "need", "codes", "parted", "are_digits", "worth", "number_behind", "place_among", "right_fact", "read_worded", "plain_number", "values_of", "read_named", "read_line", "read_facts", "padded", "worded"]
def names2 : List PySem.Str := ["named", "written", "NOTHING", "AT_OFFICE", "UNDER_WAY", "OUT_histories", "HELD", "DELIVERED", "SIGNED", "CUSTOMS", "RETURNED", "RETURNED_SIGNED", "POSTED_KIND", "COME_KIND", "ATTEMPT_KIND", "DELIVERED_KIND", "RETURNED_KIND", "FITS", "BEHIND", "history_of", "Standing", "standing_of", "OUT_places", "NO_TEXT", "FULL", "PLACES", "MOST_FACTS", "MOST_TEXT", "FIRST_MISSING", "SHAPES"]
def names3 : List PySem.Str := ["Refused", "want", "want_within", "want_text", "listed", "flat", "Desk", "rows_at"]
def names : List PySem.Str := names0 ++ names1 ++ names2 ++ names3
def d_is_from : He.DefD := ⟨("is_from", none), "is_from", "is_from", defArgs s_is_from, defBody s_is_from, defScope s_is_from, [], []⟩
def d_is_right_head : He.DefD := ⟨("is_right_head", none), "is_right_head", "is_right_head", defArgs s_is_right_head, defBody s_is_right_head, defScope s_is_right_head, [], []⟩
def d_is_right : He.DefD := ⟨("is_right", none), "is_right", "is_right", defArgs s_is_right, defBody s_is_right, defScope s_is_right, [], []⟩
def d_wanted : He.DefD := ⟨("wanted", none), "wanted", "wanted", defArgs s_wanted, defBody s_wanted, defScope s_wanted, [], []⟩
def d_is_good : He.DefD := ⟨("is_good", none), "is_good", "is_good", defArgs s_is_good, defBody s_is_good, defScope s_is_good, [], []⟩
def d_looks_of : He.DefD := ⟨("looks_of", none), "looks_of", "looks_of", defArgs s_looks_of, defBody s_looks_of, defScope s_looks_of, [], []⟩
def d_put_right : He.DefD := ⟨("put_right", none), "put_right", "put_right", defArgs s_put_right, defBody s_put_right, defScope s_put_right, [], []⟩
def d_time_of : He.DefD := ⟨("time_of", none), "time_of", "time_of", defArgs s_time_of, defBody s_time_of, defScope s_time_of, [], []⟩
def d_scans_of : He.DefD := ⟨("scans_of", none), "scans_of", "scans_of", defArgs s_scans_of, defBody s_scans_of, defScope s_scans_of, [], []⟩
def d_items_of : He.DefD := ⟨("items_of", none), "items_of", "items_of", defArgs s_items_of, defBody s_items_of, defScope s_items_of, [], []⟩
def d_clashes_of : He.DefD := ⟨("clashes_of", none), "clashes_of", "clashes_of", defArgs s_clashes_of, defBody s_clashes_of, defScope s_clashes_of, [], []⟩
def d_need : He.DefD := ⟨("need", none), "need", "need", defArgs s_need, defBody s_need, defScope s_need, [], []⟩
def d_codes : He.DefD := ⟨("codes", none), "codes", "codes", defArgs s_codes, defBody s_codes, defScope s_codes, [], []⟩
def d_parted : He.DefD := ⟨("parted", none), "parted", "parted", defArgs s_parted, defBody s_parted, defScope s_parted, [], []⟩
def d_are_digits : He.DefD := ⟨("are_digits", none), "are_digits", "are_digits", defArgs s_are_digits, defBody s_are_digits, defScope s_are_digits, [], []⟩
def d_worth : He.DefD := ⟨("worth", none), "worth", "worth", defArgs s_worth, defBody s_worth, defScope s_worth, [], []⟩
def d_number_behind : He.DefD := ⟨("number_behind", none), "number_behind", "number_behind", defArgs s_number_behind, defBody s_number_behind, defScope s_number_behind, [], []⟩
def d_place_among : He.DefD := ⟨("place_among", none), "place_among", "place_among", defArgs s_place_among, defBody s_place_among, defScope s_place_among, [], []⟩
def d_right_fact : He.DefD := ⟨("right_fact", none), "right_fact", "right_fact", defArgs s_right_fact, defBody s_right_fact, defScope s_right_fact, [], []⟩
def d_read_worded : He.DefD := ⟨("read_worded", none), "read_worded", "read_worded", defArgs s_read_worded, defBody s_read_worded, defScope s_read_worded, [], []⟩
def d_plain_number : He.DefD := ⟨("plain_number", none), "plain_number", "plain_number", defArgs s_plain_number, defBody s_plain_number, defScope s_plain_number, [], []⟩
def d_values_of : He.DefD := ⟨("values_of", none), "values_of", "values_of", defArgs s_values_of, defBody s_values_of, defScope s_values_of, [], []⟩
def d_read_named : He.DefD := ⟨("read_named", none), "read_named", "read_named", defArgs s_read_named, defBody s_read_named, defScope s_read_named, [], []⟩
def d_read_line : He.DefD := ⟨("read_line", none), "read_line", "read_line", defArgs s_read_line, defBody s_read_line, defScope s_read_line, [], []⟩
def d_read_facts : He.DefD := ⟨("read_facts", none), "read_facts", "read_facts", defArgs s_read_facts, defBody s_read_facts, defScope s_read_facts, [], []⟩
def d_padded : He.DefD := ⟨("padded", none), "padded", "padded", defArgs s_padded, defBody s_padded, defScope s_padded, [], []⟩
def d_worded : He.DefD := ⟨("worded", none), "worded", "worded", defArgs s_worded, defBody s_worded, defScope s_worded, [], []⟩
def d_named : He.DefD := ⟨("named", none), "named", "named", defArgs s_named, defBody s_named, defScope s_named, [], []⟩
def d_written : He.DefD := ⟨("written", none), "written", "written", defArgs s_written, defBody s_written, defScope s_written, [], []⟩
def d_history_of : He.DefD := ⟨("history_of", none), "history_of", "history_of", defArgs s_history_of, defBody s_history_of, defScope s_history_of, [], []⟩
def d_Standing_init : He.DefD := ⟨("Standing", some "__init__"), "__init__", "Standing.__init__", defArgs s_Standing_init, defBody s_Standing_init, defScope s_Standing_init, [], []⟩
def d_Standing_is_over : He.DefD := ⟨("Standing", some "is_over"), "is_over", "Standing.is_over", defArgs s_Standing_is_over, defBody s_Standing_is_over, defScope s_Standing_is_over, [], []⟩
def d_Standing_does_fit : He.DefD := ⟨("Standing", some "does_fit"), "does_fit", "Standing.does_fit", defArgs s_Standing_does_fit, defBody s_Standing_does_fit, defScope s_Standing_does_fit, [], []⟩
def d_Standing_is_odd : He.DefD := ⟨("Standing", some "is_odd"), "is_odd", "Standing.is_odd", defArgs s_Standing_is_odd, defBody s_Standing_is_odd, defScope s_Standing_is_odd, [], []⟩
def d_Standing_believe : He.DefD := ⟨("Standing", some "believe"), "believe", "Standing.believe", defArgs s_Standing_believe, defBody s_Standing_believe, defScope s_Standing_believe, [], []⟩
def d_Standing_go_on : He.DefD := ⟨("Standing", some "go_on"), "go_on", "Standing.go_on", defArgs s_Standing_go_on, defBody s_Standing_go_on, defScope s_Standing_go_on, [], []⟩
def d_Standing_told : He.DefD := ⟨("Standing", some "told"), "told", "Standing.told", defArgs s_Standing_told, defBody s_Standing_told, defScope s_Standing_told, [], []⟩
def d_standing_of : He.DefD := ⟨("standing_of", none), "standing_of", "standing_of", defArgs s_standing_of, defBody s_standing_of, defScope s_standing_of, [], []⟩
def d_Refused_init : He.DefD := ⟨("Refused", some "__init__"), "__init__", "Refused.__init__", defArgs s_Refused_init, defBody s_Refused_init, defScope s_Refused_init, [], []⟩
def d_want : He.DefD := ⟨("want", none), "want", "want", defArgs s_want, defBody s_want, defScope s_want, [], []⟩
def d_want_within : He.DefD := ⟨("want_within", none), "want_within", "want_within", defArgs s_want_within, defBody s_want_within, defScope s_want_within, [], []⟩
def d_want_text : He.DefD := ⟨("want_text", none), "want_text", "want_text", defArgs s_want_text, defBody s_want_text, defScope s_want_text, [], []⟩
def d_listed : He.DefD := ⟨("listed", none), "listed", "listed", defArgs s_listed, defBody s_listed, defScope s_listed, [], []⟩
def d_flat : He.DefD := ⟨("flat", none), "flat", "flat", defArgs s_flat, defBody s_flat, defScope s_flat, [], []⟩
def d_Desk_init : He.DefD := ⟨("Desk", some "__init__"), "__init__", "Desk.__init__", defArgs s_Desk_init, defBody s_Desk_init, defScope s_Desk_init, [], []⟩
def d_Desk_facts : He.DefD := ⟨("Desk", some "facts"), "facts", "Desk.facts", defArgs s_Desk_facts, defBody s_Desk_facts, defScope s_Desk_facts, [], []⟩
def d_Desk_clear : He.DefD := ⟨("Desk", some "clear"), "clear", "Desk.clear", defArgs s_Desk_clear, defBody s_Desk_clear, defScope s_Desk_clear, [], []⟩
def d_Desk_learn : He.DefD := ⟨("Desk", some "learn"), "learn", "Desk.learn", defArgs s_Desk_learn, defBody s_Desk_learn, defScope s_Desk_learn, [], []⟩
def d_Desk_tell : He.DefD := ⟨("Desk", some "tell"), "tell", "Desk.tell", defArgs s_Desk_tell, defBody s_Desk_tell, defScope s_Desk_tell, [], []⟩
def d_Desk_send : He.DefD := ⟨("Desk", some "send"), "send", "Desk.send", defArgs s_Desk_send, defBody s_Desk_send, defScope s_Desk_send, [], []⟩
def d_Desk_standing : He.DefD := ⟨("Desk", some "standing"), "standing", "Desk.standing", defArgs s_Desk_standing, defBody s_Desk_standing, defScope s_Desk_standing, [], []⟩
def d_Desk_state_told : He.DefD := ⟨("Desk", some "state_told"), "state_told", "Desk.state_told", defArgs s_Desk_state_told, defBody s_Desk_state_told, defScope s_Desk_state_told, [], []⟩
def d_Desk_history : He.DefD := ⟨("Desk", some "history"), "history", "Desk.history", defArgs s_Desk_history, defBody s_Desk_history, defScope s_Desk_history, [], []⟩
def d_Desk_time : He.DefD := ⟨("Desk", some "time"), "time", "Desk.time", defArgs s_Desk_time, defBody s_Desk_time, defScope s_Desk_time, [], []⟩
def d_Desk_clashes : He.DefD := ⟨("Desk", some "clashes"), "clashes", "Desk.clashes", defArgs s_Desk_clashes, defBody s_Desk_clashes, defScope s_Desk_clashes, [], []⟩
def d_Desk_since : He.DefD := ⟨("Desk", some "since"), "since", "Desk.since", defArgs s_Desk_since, defBody s_Desk_since, defScope s_Desk_since, [], []⟩
def d_Desk_export : He.DefD := ⟨("Desk", some "export"), "export", "Desk.export", defArgs s_Desk_export, defBody s_Desk_export, defScope s_Desk_export, [], []⟩
def d_Desk_import_text : He.DefD := ⟨("Desk", some "import_text"), "import_text", "Desk.import_text", defArgs s_Desk_import_text, defBody s_Desk_import_text, defScope s_Desk_import_text, [], []⟩
def d_Desk_convert : He.DefD := ⟨("Desk", some "convert"), "convert", "Desk.convert", defArgs s_Desk_convert, defBody s_Desk_convert, defScope s_Desk_convert, [], []⟩
def d_Desk_same : He.DefD := ⟨("Desk", some "same"), "same", "Desk.same", defArgs s_Desk_same, defBody s_Desk_same, defScope s_Desk_same, [], []⟩
def d_Desk_signed : He.DefD := ⟨("Desk", some "signed"), "signed", "Desk.signed", defArgs s_Desk_signed, defBody s_Desk_signed, defScope s_Desk_signed, [], []⟩
def d_Desk_missing : He.DefD := ⟨("Desk", some "missing"), "missing", "Desk.missing", defArgs s_Desk_missing, defBody s_Desk_missing, defScope s_Desk_missing, [], []⟩
def d_Desk_at : He.DefD := ⟨("Desk", some "at"), "at", "Desk.at", defArgs s_Desk_at, defBody s_Desk_at, defScope s_Desk_at, [], []⟩
def d_Desk_sign : He.DefD := ⟨("Desk", some "sign"), "sign", "Desk.sign", defArgs s_Desk_sign, defBody s_Desk_sign, defScope s_Desk_sign, [], []⟩
def d_Desk_differ : He.DefD := ⟨("Desk", some "differ"), "differ", "Desk.differ", defArgs s_Desk_differ, defBody s_Desk_differ, defScope s_Desk_differ, [], []⟩
def d_Desk_counts : He.DefD := ⟨("Desk", some "counts"), "counts", "Desk.counts", defArgs s_Desk_counts, defBody s_Desk_counts, defScope s_Desk_counts, [], []⟩
def d_Desk_of_facts : He.DefD := ⟨("Desk", some "of_facts"), "of_facts", "Desk.of_facts", defArgs s_Desk_of_facts, defBody s_Desk_of_facts, defScope s_Desk_of_facts, [], []⟩
def d_Desk_of_places : He.DefD := ⟨("Desk", some "of_places"), "of_places", "Desk.of_places", defArgs s_Desk_of_places, defBody s_Desk_of_places, defScope s_Desk_of_places, [], []⟩
def d_Desk_answer : He.DefD := ⟨("Desk", some "answer"), "answer", "Desk.answer", defArgs s_Desk_answer, defBody s_Desk_answer, defScope s_Desk_answer, [], []⟩
def d_rows_at : He.DefD := ⟨("rows_at", none), "rows_at", "rows_at", defArgs s_rows_at, defBody s_rows_at, defScope s_rows_at, [], []⟩
def d_answers : He.DefD := ⟨("answers", none), "answers", "answers", defArgs s_answers, defBody s_answers, defScope s_answers, [], []⟩
def fn0 : List He.DefD := [d_is_from, d_is_right_head, d_is_right, d_wanted, d_is_good, d_looks_of, d_put_right, d_time_of, d_scans_of, d_items_of, d_clashes_of, d_need, d_codes, d_parted, d_are_digits, d_worth, d_number_behind, d_place_among, d_right_fact, d_read_worded, d_plain_number, d_values_of, d_read_named, d_read_line, d_read_facts]
def fn1 : List He.DefD := [d_padded, d_worded, d_named, d_written, d_history_of, d_Standing_init, d_Standing_is_over, d_Standing_does_fit, d_Standing_is_odd, d_Standing_believe, d_Standing_go_on, d_Standing_told, d_standing_of, d_Refused_init, d_want, d_want_within, d_want_text, d_listed, d_flat, d_Desk_init, d_Desk_facts, d_Desk_clear, d_Desk_learn, d_Desk_tell, d_Desk_send]
def fn2 : List He.DefD := [d_Desk_standing, d_Desk_state_told, d_Desk_history, d_Desk_time, d_Desk_clashes, d_Desk_since, d_Desk_export, d_Desk_import_text, d_Desk_convert, d_Desk_same, d_Desk_signed, d_Desk_missing, d_Desk_at, d_Desk_sign, d_Desk_differ, d_Desk_counts, d_Desk_of_facts, d_Desk_of_places, d_Desk_answer, d_rows_at, d_answers]
def fn : List He.DefD := fn0 ++ fn1 ++ fn2
def fa0 : List He.Fa := [.glo "is_from", .glo "is_right_head", .glo "is_right", .glo "wanted", .glo "is_good", .glo "looks_of", .glo "put_right", .glo "time_of", .glo "scans_of", .glo "items_of", .glo "clashes_of", .glo "WrongLine", .glo "need", .glo "codes", .glo "parted", .glo "are_digits", .glo "worth", .glo "number_behind", .glo "place_among", .glo "right_fact", .glo "read_worded", .glo "plain_number", .glo "values_of", .glo "read_named", .glo "read_line"]
def fa1 : List He.Fa := [.glo "read_facts", .glo "padded", .glo "worded", .glo "named", .glo "written", .glo "history_of", .glo "Standing", .glo "standing_of", .glo "Refused", .glo "want", .glo "want_within", .glo "want_text", .glo "listed", .glo "flat", .glo "Desk", .glo "rows_at", .glo "answers", .int "SCAN" (0), .int "LOOK" (1), .int "DEVICE" (1), .int "NUMBER" (2), .int "SETTING" (3), .int "CLOCK" (4), .int "ITEM" (5), .int "KIND" (6)]
def fa2 : List He.Fa := [.int "OFFICE" (7), .int "SIGNATURE" (8), .int "TIME" (5), .int "MOST_DEVICE" (7), .int "MOST_NUMBER" (9999), .int "MOST_SETTING" (9), .int "MOST_CLOCK" (99999), .int "MOST_ITEM" (99), .int "MOST_KIND" (9), .int "MOST_OFFICE" (5), .int "MOST_SIGNATURE" (999999), .int "ROUND" (97), .int "LINE_END" (10), .int "BLANK" (32), .int "SEMICOLON" (59), .int "COLON" (58), .int "ZERO" (48), .int "WORDED" (0), .int "NOTHING" (0), .int "AT_OFFICE" (1), .int "UNDER_WAY" (2), .int "OUT_histories" (3), .int "HELD" (4), .int "DELIVERED" (5), .int "SIGNED" (6)]
def fa3 : List He.Fa := [.int "CUSTOMS" (7), .int "RETURNED" (8), .int "RETURNED_SIGNED" (9), .int "POSTED_KIND" (0), .int "COME_KIND" (1), .int "ATTEMPT_KIND" (4), .int "DELIVERED_KIND" (6), .int "RETURNED_KIND" (7), .int "OUT_places" (-1), .int "NO_TEXT" (-2), .int "FULL" (-3), .int "PLACES" (3), .int "MOST_FACTS" (100), .int "MOST_TEXT" (4000), .int "FIRST_MISSING" (50), .str "LOOK_NAME" "SYN", .str "OFFICES" "ABCDEF", .free "sorted", .free "set", .free "enumerate", .free "len", .free "all", .free "range", .free "max", .free "int"]
def fa4 : List He.Fa := [.free "list", .free "tuple", .free "str", .free "ord", .free "ValueError", .cls "Standing", .mkr "Standing", .meth "Standing" "__init__", .meth "Standing" "is_over", .meth "Standing" "does_fit", .meth "Standing" "is_odd", .meth "Standing" "believe", .meth "Standing" "go_on", .meth "Standing" "told", .cls "Desk", .mkr "Desk", .meth "Desk" "__init__", .meth "Desk" "facts", .meth "Desk" "clear", .meth "Desk" "learn", .meth "Desk" "tell", .meth "Desk" "send", .meth "Desk" "standing", .meth "Desk" "state_told", .meth "Desk" "history"]
def fa5 : List He.Fa := [.meth "Desk" "time", .meth "Desk" "clashes", .meth "Desk" "since", .meth "Desk" "export", .meth "Desk" "import_text", .meth "Desk" "convert", .meth "Desk" "same", .meth "Desk" "signed", .meth "Desk" "missing", .meth "Desk" "at", .meth "Desk" "sign", .meth "Desk" "differ", .meth "Desk" "counts", .meth "Desk" "of_facts", .meth "Desk" "of_places", .meth "Desk" "answer", .noat "Standing" "state", .noat "Standing" "office", .noat "Standing" "attempts", .noat "Standing" "odd", .noat "Standing" "signer", .noat "Desk" "known", .exc "WrongLine", .exm "WrongLine" "WrongLine" true, .exm "Refused" "Refused" true]
def fa6 : List He.Fa := [.keep "Refused", .noat "Refused" "number", .glo "KINDS", .glo "NAMES", .glo "SCAN_NAMES", .glo "LOOK_NAMES", .glo "FITS", .glo "BEHIND", .glo "SHAPES"]
def fa : List He.Fa := fa0 ++ fa1 ++ fa2 ++ fa3 ++ fa4 ++ fa5 ++ fa6
abbrev RS : PySem.W.OpenSpec := PySem.Challenge.rw_scanplaces_s01_answers
abbrev qv : Program := PySem.W.view RS.prog [102]
/-! ### the part of the heap that is looked at: what the names reach, the classes' names, the defs' code -/
def outO (o : Obj) : List Addr := match o.data with
  | .func fd => He.refV fd.code
  | .cls cd => [cd.ns]
  | .seq its _ => its.toList.flatMap He.refV
  | .dict es _ => es.toList.flatMap fun q => He.refV q.val
  | _ => []
def outA (g : Addr → Option Obj) (as : List Addr) : List Addr := as.flatMap fun a => (g a).elim [] outO
def near (g : Addr → Option Obj) : Nat → List Addr → List Addr
  | 0, as => as
  | n + 1, as => as ++ near g n (outA g as)
abbrev Seen1 : Type := He.AlD × Bool
def lookZ (g : Addr → Option Obj) : Seen1 := (fun K => (He.obsD fa fn K, more K)) (He.frG g (near g 4 [mainGlobals]))
def hk : PySem.W.Hook where
  α := Seen1
  obs := fun s => lookZ s.heap.get?
  val := fun _ => (He.valD fn, true)
  says := fun _ h => ∃ K : PySem.W.Frag, K.In h ∧ He.SaysD fa fn K ∧ more K = true
  of := fun _ _ e => ⟨_, He.frG_in, congrArg Prod.fst e, congrArg Prod.snd e⟩
  keeps := fun _ _ _ ⟨K, kin, c⟩ k => ⟨K, kin.keeps k, c⟩
def ob (s : PySem.W.SharedT) : Seen1 := lookZ (HandSHeadRun.getT s)
theorem ob_eq (s : PySem.W.SharedT) : ob s = hk.obs s.abs := congrArg lookZ (funext (HandSHeadRun.getT_eq s))
/-! ### what the kernel looks at, each by itself: so the memory stays small -/
open PySem.W in
theorem h_said : RS.wellSaid = true := by
  unfold OpenSpec.wellSaid looksOpen
  repeat' (with_reducible refine Bool.and_eq_true_iff.mpr ⟨?_, ?_⟩)
  all_goals decide +kernel
theorem h_bare : RS.prog.bare := ⟨rfl, rfl, rfl, rfl, rfl, by decide +kernel⟩
open PySem.W HandSHeadRun PySem.Calls in
theorem run_a (w : World) (os : OsState) : (endF (stepQ (denQ tabQ) RS.prog w) 4000 RS.prog w os).map (fun s => (looksF RS.prog (boot_heap w.params) s.abs, seenQ qv names (importedModules RS.prog.main.body) (fun s => xlAt qv [] s && recOk [] s) s.abs)) = some (true, openGood qv names) := by
  kernel_rfl
open PySem.W HandSHeadRun PySem.Calls in
theorem run_b (w : World) (os : OsState) : (endF (stepQ (denQ tabQ) RS.prog w) 4000 RS.prog w os).map ob = some (hk.val w) := by
  kernel_rfl
theorem both {A B C D : Type} {o : Option A} {f : A → B × C} {g : A → D} {b : B} {c : C} {d : D} (h1 : o.map f = some (b, c)) (h2 : o.map g = some d) : o.map (fun s => ((f s).1, (f s).2, g s)) = some (b, c, d) := by
  cases o with
  | none => cases h1
  | some s =>
    have e1 : f s = (b, c) := Option.some.inj h1
    have e2 : g s = d := Option.some.inj h2
    show some ((f s).1, (f s).2, g s) = _
    rw [e1, e2]
open PySem.W HandSHeadRun PySem.Calls in
theorem run (w : World) (os : OsState) : (endF (stepQ (denQ tabQ) RS.prog w) 4000 RS.prog w os).map (fun s => (looksF RS.prog (boot_heap w.params) s.abs, seenQ qv names (importedModules RS.prog.main.body) (fun s => xlAt qv [] s && recOk [] s) s.abs, ob s)) = some (true, openGood qv names, hk.val w) := by
  have h1 := run_a w os
  have h2 := run_b w os
  revert h1 h2
  generalize endF (stepQ (denQ tabQ) RS.prog w) 4000 RS.prog w os = o
  intro h1 h2
  have h := both h1 h2
  exact h
end Sc
namespace Sc
open Vbpoag
/-! ### strictly rising lists are told by their members -/
theorem rising_ext {α : Type} {R : α → α → Prop} (irr : ∀ a, ¬ R a a) (asym : ∀ a b, R a b → ¬ R b a) : ∀ {l m : List α}, l.Pairwise R → m.Pairwise R → (∀ x, x ∈ l ↔ x ∈ m) → l = m
  | [], [], _, _, _ => rfl
  | [], b :: m, _, _, h => absurd ((h b).mpr (List.mem_cons_self ..)) (by simp)
  | a :: l, [], _, _, h => absurd ((h a).mp (List.mem_cons_self ..)) (by simp)
  | a :: l, b :: m, hl, hm, h => by
    obtain ⟨h1, h2⟩ := List.pairwise_cons.mp hl
    obtain ⟨k1, k2⟩ := List.pairwise_cons.mp hm
    have e : a = b := by
      rcases List.mem_cons.mp ((h a).mp (List.mem_cons_self ..)) with e | e
      · exact e
      · rcases List.mem_cons.mp ((h b).mpr (List.mem_cons_self ..)) with z | z
        · exact z.symm
        · exact absurd (h1 b z) (asym _ _ (k1 a e))
    subst e
    refine congrArg (a :: ·) (rising_ext irr asym h2 k2 fun x => ⟨fun hx => ?_, fun hx => ?_⟩)
    · rcases List.mem_cons.mp ((h x).mp (List.mem_cons_of_mem _ hx)) with e | e
      · exact absurd (e ▸ h1 x hx) (irr _)
      · exact e
    · rcases List.mem_cons.mp ((h x).mpr (List.mem_cons_of_mem _ hx)) with e | e
      · exact absurd (e ▸ k1 x hx) (irr _)
      · exact e
/-! ### pairs -/
def ltP (a b : Nat × Nat) : Prop := a.1 < b.1 ∨ (a.1 = b.1 ∧ a.2 < b.2)
theorem ltP_irr (a : Nat × Nat) : ¬ ltP a a := fun h => by unfold ltP at h; omega
theorem ltP_asym (a b : Nat × Nat) (h : ltP a b) : ¬ ltP b a := fun k => by unfold ltP at h k; omega
theorem before2_iff (a b : Nat × Nat) : before2 a b = true ↔ ltP a b := by
  unfold before2 ltP
  simp only [Bool.or_eq_true, Bool.and_eq_true, decide_eq_true_eq, beq_iff_eq]
theorem mem_putPair (x p : Nat × Nat) : ∀ l, p ∈ putPair x l ↔ p = x ∨ p ∈ l
  | [] => by simp [putPair]
  | y :: r => by
    unfold putPair
    split
    · simp
    · split
      · rename_i e; subst e; simp
      · rw [List.mem_cons, mem_putPair x p r, List.mem_cons]
        constructor
        · rintro (h | h | h) <;> simp [h]
        · rintro (h | h | h) <;> simp [h]
theorem putPair_sorted (x : Nat × Nat) : ∀ l, l.Pairwise ltP → (putPair x l).Pairwise ltP
  | [], _ => by simp [putPair]
  | y :: r, h => by
    obtain ⟨h1, h2⟩ := (List.pairwise_cons.mp h)
    unfold putPair
    split
    · rename_i b
      have b := (before2_iff _ _).mp b
      refine List.pairwise_cons.mpr ⟨fun z hz => ?_, h⟩
      rcases List.mem_cons.mp hz with e | e
      · exact e ▸ b
      · have := h1 z e
        unfold ltP at *; omega
    · rename_i b
      split
      · exact h
      · rename_i ne
        refine List.pairwise_cons.mpr ⟨fun z hz => ?_, putPair_sorted x r h2⟩
        rcases (mem_putPair x z r).mp hz with e | e
        · subst e
          have b : ¬ ltP z y := fun q => b ((before2_iff _ _).mpr q)
          have : ¬ (z.1 = y.1 ∧ z.2 = y.2) := fun q => ne (Prod.ext q.1 q.2)
          unfold ltP at *; omega
        · exact h1 z e
/-! ### the looks of a device -/
def isLookOf (d e : Nat) (f : Fact) : Bool := match f.body with
  | .sync _ => f.device == d && f.epoch == e
  | _ => false
def lookPair (f : Fact) : Nat × Nat := match f.body with
  | .sync t => (f.clock, t)
  | .scan _ => (0, 0)
theorem syncs_fold (d e : Nat) : ∀ (fs : List Fact) (acc : List (Nat × Nat)), acc.Pairwise ltP →
    (fs.foldl (fun l f => match f.body with | .sync t => if f.device = d ∧ f.epoch = e then putPair (f.clock, t) l else l | _ => l) acc).Pairwise ltP ∧
    ∀ p, p ∈ (fs.foldl (fun l f => match f.body with | .sync t => if f.device = d ∧ f.epoch = e then putPair (f.clock, t) l else l | _ => l) acc) ↔ p ∈ acc ∨ ∃ f ∈ fs, isLookOf d e f = true ∧ lookPair f = p
  | [], acc, h => ⟨h, fun p => by simp⟩
  | f :: fs, acc, h => by
    rw [List.foldl_cons]
    cases hb : f.body with
    | scan x =>
      obtain ⟨a1, a2⟩ := syncs_fold d e fs acc h
      refine ⟨by simpa only [hb] using a1, fun p => ?_⟩
      have := a2 p
      simp only [hb] at this ⊢
      rw [this]
      constructor
      · rintro (z | ⟨g, hg, z⟩)
        · exact .inl z
        · exact .inr ⟨g, List.mem_cons_of_mem _ hg, z⟩
      · rintro (z | ⟨g, hg, z1, z2⟩)
        · exact .inl z
        · rcases List.mem_cons.mp hg with e | e
          · subst e; simp [isLookOf, hb] at z1
          · exact .inr ⟨g, e, z1, z2⟩
    | sync t =>
      by_cases c : f.device = d ∧ f.epoch = e
      · obtain ⟨a1, a2⟩ := syncs_fold d e fs (putPair (f.clock, t) acc) (putPair_sorted _ _ h)
        refine ⟨by simpa only [hb, if_pos c] using a1, fun p => ?_⟩
        have := a2 p
        simp only [hb, if_pos c] at this ⊢
        rw [this, mem_putPair]
        have hl : isLookOf d e f = true := by simp [isLookOf, hb, c.1, c.2]
        have hp : lookPair f = (f.clock, t) := by simp [lookPair, hb]
        constructor
        · rintro ((z | z) | ⟨g, hg, z⟩)
          · exact .inr ⟨f, List.mem_cons_self .., hl, by rw [hp, z]⟩
          · exact .inl z
          · exact .inr ⟨g, List.mem_cons_of_mem _ hg, z⟩
        · rintro (z | ⟨g, hg, z1, z2⟩)
          · exact .inl (.inr z)
          · rcases List.mem_cons.mp hg with e | e
            · subst e; exact .inl (.inl (by rw [← z2, hp]))
            · exact .inr ⟨g, e, z1, z2⟩
      · obtain ⟨a1, a2⟩ := syncs_fold d e fs acc h
        refine ⟨by simpa only [hb, if_neg c] using a1, fun p => ?_⟩
        have := a2 p
        simp only [hb, if_neg c] at this ⊢
        rw [this]
        constructor
        · rintro (z | ⟨g, hg, z⟩)
          · exact .inl z
          · exact .inr ⟨g, List.mem_cons_of_mem _ hg, z⟩
        · rintro (z | ⟨g, hg, z1, z2⟩)
          · exact .inl z
          · rcases List.mem_cons.mp hg with e | e
            · subst e
              simp [isLookOf, hb] at z1
              exact absurd z1 c
            · exact .inr ⟨g, e, z1, z2⟩
theorem syncs_sorted (fs : List Fact) (d e : Nat) : (syncsOf fs d e).Pairwise ltP := (syncs_fold d e fs [] List.Pairwise.nil).1
theorem mem_syncs (fs : List Fact) (d e : Nat) (p : Nat × Nat) : p ∈ syncsOf fs d e ↔ ∃ f ∈ fs, isLookOf d e f = true ∧ lookPair f = p := by
  refine Iff.trans (show p ∈ syncsOf fs d e ↔ _ from (syncs_fold d e fs [] List.Pairwise.nil).2 p) ?_
  simp
/-- what sorted(set([..])) of the looks is -/
theorem syncs_eq {fs : List Fact} {d e : Nat} {L : List (Nat × Nat)} (h : L.Pairwise ltP) (hm : ∀ p, p ∈ L ↔ p ∈ (fs.filter (isLookOf d e)).map lookPair) : L = syncsOf fs d e := by
  refine rising_ext ltP_irr ltP_asym h (syncs_sorted fs d e) fun p => ?_
  rw [hm, mem_syncs, List.mem_map]
  constructor
  · rintro ⟨f, hf, e⟩
    obtain ⟨h1, h2⟩ := List.mem_filter.mp hf
    exact ⟨f, h1, h2, e⟩
  · rintro ⟨f, h1, h2, e⟩
    exact ⟨f, List.mem_filter.mpr ⟨h1, h2⟩, e⟩
/-! ### the items -/
def itemOf (f : Fact) : Nat := match f.body with
  | .scan x => x.item
  | .sync _ => 0
def isScan (f : Fact) : Bool := match f.body with
  | .scan _ => true
  | .sync _ => false
theorem mem_items (fs : List Fact) (hr : ∀ f ∈ fs, itemOf f ≤ 99) (i : Nat) : i ∈ itemsOf fs ↔ ∃ f ∈ fs, isScan f = true ∧ itemOf f = i := by
  unfold itemsOf
  rw [List.mem_filter, List.mem_range, List.any_eq_true]
  constructor
  · rintro ⟨_, f, hf, h⟩
    refine ⟨f, hf, ?_⟩
    cases hb : f.body with
    | scan x => rw [hb] at h; simpa [isScan, itemOf, hb] using h
    | sync t => rw [hb] at h; simp at h
  · rintro ⟨f, hf, h, e⟩
    have := hr f hf
    refine ⟨by unfold ITEMS; omega, f, hf, ?_⟩
    cases hb : f.body with
    | scan x => simpa [itemOf, hb] using e
    | sync t => simp [isScan, hb] at h
theorem items_sorted (fs : List Fact) : (itemsOf fs).Pairwise (· < ·) := List.Pairwise.filter _ List.pairwise_lt_range
theorem items_eq {fs : List Fact} (hr : ∀ f ∈ fs, itemOf f ≤ 99) {L : List Nat} (h : L.Pairwise (· < ·)) (hm : ∀ i, i ∈ L ↔ i ∈ (fs.filter isScan).map itemOf) : L = itemsOf fs := by
  refine rising_ext (fun a => Nat.lt_irrefl a) (fun a b h k => Nat.lt_asymm h k) h (items_sorted fs) fun p => ?_
  rw [hm, mem_items fs hr, List.mem_map]
  constructor
  · rintro ⟨f, hf, e⟩
    obtain ⟨h1, h2⟩ := List.mem_filter.mp hf
    exact ⟨f, h1, h2, e⟩
  · rintro ⟨f, h1, h2, e⟩
    exact ⟨f, List.mem_filter.mpr ⟨h1, h2⟩, e⟩
/-! ### the clashes -/
def dn (f : Fact) : Nat × Nat := (f.device, f.number)
def clashB (l : List Fact) (f : Fact) : Bool := l.any fun g => g.device == f.device && (g.number == f.number && g != f)
theorem clash_fold (l : List Fact) : ∀ (fs : List Fact) (acc : List (Nat × Nat)), acc.Pairwise ltP →
    (fs.foldl (fun acc f => if (l.any fun g => g.device == f.device && (g.number == f.number && g != f)) = true ∧ acc.contains (f.device, f.number) = false then putPair (f.device, f.number) acc else acc) acc).Pairwise ltP ∧
    ∀ p, p ∈ (fs.foldl (fun acc f => if (l.any fun g => g.device == f.device && (g.number == f.number && g != f)) = true ∧ acc.contains (f.device, f.number) = false then putPair (f.device, f.number) acc else acc) acc) ↔ p ∈ acc ∨ ∃ f ∈ fs, clashB l f = true ∧ dn f = p
  | [], acc, h => ⟨h, fun p => by simp⟩
  | f :: fs, acc, h => by
    rw [List.foldl_cons]
    by_cases c : (l.any fun g => g.device == f.device && (g.number == f.number && g != f)) = true ∧ acc.contains (f.device, f.number) = false
    · rw [if_pos c]
      obtain ⟨a1, a2⟩ := clash_fold l fs (putPair (f.device, f.number) acc) (putPair_sorted _ _ h)
      refine ⟨a1, fun p => ?_⟩
      rw [a2 p, mem_putPair]
      constructor
      · rintro ((z | z) | ⟨g, hg, z⟩)
        · exact .inr ⟨f, List.mem_cons_self .., c.1, z.symm⟩
        · exact .inl z
        · exact .inr ⟨g, List.mem_cons_of_mem _ hg, z⟩
      · rintro (z | ⟨g, hg, z1, z2⟩)
        · exact .inl (.inr z)
        · rcases List.mem_cons.mp hg with e | e
          · subst e; exact .inl (.inl z2.symm)
          · exact .inr ⟨g, e, z1, z2⟩
    · rw [if_neg c]
      obtain ⟨a1, a2⟩ := clash_fold l fs acc h
      refine ⟨a1, fun p => ?_⟩
      rw [a2 p]
      constructor
      · rintro (z | ⟨g, hg, z⟩)
        · exact .inl z
        · exact .inr ⟨g, List.mem_cons_of_mem _ hg, z⟩
      · rintro (z | ⟨g, hg, z1, z2⟩)
        · exact .inl z
        · rcases List.mem_cons.mp hg with e | e
          · subst e
            by_cases k : acc.contains (g.device, g.number) = false
            · exact absurd ⟨z1, k⟩ c
            · have k : acc.contains (g.device, g.number) = true := by simpa using k
              have k := List.contains_iff_mem.mp k
              exact .inl (z2 ▸ k)
          · exact .inr ⟨g, e, z1, z2⟩
theorem clash_sorted (fs : List Fact) : (clashesIn fs).Pairwise ltP := (clash_fold fs fs [] List.Pairwise.nil).1
theorem mem_clash (fs : List Fact) (p : Nat × Nat) : p ∈ clashesIn fs ↔ ∃ f ∈ fs, clashB fs f = true ∧ dn f = p := by
  have := (clash_fold fs fs [] List.Pairwise.nil).2 p
  simpa [clashesIn] using this
/-- how many facts bear a device's number -/
def tally (fs : List Fact) (p : Nat × Nat) : Nat := (fs.filter fun f => decide (dn f = p)).length
theorem tally_clash {fs : List Fact} (nd : fs.Nodup) (p : Nat × Nat) : 1 < tally fs p ↔ ∃ f ∈ fs, clashB fs f = true ∧ dn f = p := by
  unfold tally
  have hn : (fs.filter fun f => decide (dn f = p)).Nodup := nd.sublist List.filter_sublist
  have mem : ∀ f, f ∈ (fs.filter fun f => decide (dn f = p)) ↔ f ∈ fs ∧ dn f = p := fun f => by rw [List.mem_filter]; simp
  constructor
  · intro h
    match hl : fs.filter fun f => decide (dn f = p) with
    | [] => rw [hl] at h; simp at h
    | [_] => rw [hl] at h; simp at h
    | a :: b :: r =>
      rw [hl] at hn
      have ha := (mem a).mp (by rw [hl]; simp)
      have hb := (mem b).mp (by rw [hl]; simp)
      have ne : b ≠ a := fun e => by subst e; simp at hn
      refine ⟨a, ha.1, ?_, ha.2⟩
      unfold clashB
      rw [List.any_eq_true]
      refine ⟨b, hb.1, ?_⟩
      have e1 : dn b = dn a := hb.2.trans ha.2.symm
      have e2 : b.device = a.device := congrArg Prod.fst e1
      have e3 : b.number = a.number := congrArg Prod.snd e1
      simp [e2, e3, ne]
  · rintro ⟨f, hf, c, e⟩
    unfold clashB at c
    obtain ⟨g, hg, q⟩ := List.any_eq_true.mp c
    simp only [Bool.and_eq_true, beq_iff_eq, bne_iff_ne] at q
    have hgp : dn g = p := by rw [← e]; exact Prod.ext q.1 q.2.1
    have m1 := (mem f).mpr ⟨hf, e⟩
    have m2 := (mem g).mpr ⟨hg, hgp⟩
    match hl : fs.filter fun f => decide (dn f = p) with
    | [] => rw [hl] at m1; simp at m1
    | [x] =>
      rw [hl] at m1 m2
      simp only [List.mem_singleton] at m1 m2
      exact absurd (m2.trans m1.symm) q.2.2
    | a :: b :: r => simp
theorem clash_eq {fs : List Fact} (nd : fs.Nodup) {L : List (Nat × Nat)} (h : L.Pairwise ltP) (hm : ∀ p, p ∈ L ↔ 1 < tally fs p) : L = clashesIn fs := by
  refine rising_ext ltP_irr ltP_asym h (clash_sorted fs) fun p => ?_
  rw [hm, mem_clash, tally_clash nd]
end Sc
namespace Sc
open Vbpoag
/-! ### the time put right -/
theorem along_first : ∀ {L : List (Nat × Nat)} {a : Nat × Nat} {c : Nat}, L[0]? = some a → c < a.1 → along L c = (c : Int) + ((a.2 : Int) - (a.1 : Int))
  | [], a, c, h, _ => by simp at h
  | [x], a, c, h, _ => by
    have e : x = a := by simpa using h
    subst e
    rfl
  | x :: y :: r, a, c, h, hc => by
    have e : x = a := by simpa using h
    subst e
    show (if c < x.1 then _ else _) = _
    rw [if_pos hc]
theorem along_last : ∀ {L : List (Nat × Nat)} {z : Nat × Nat} {c : Nat}, L[L.length - 1]? = some z → (∀ p ∈ L, p.1 ≤ c) → along L c = (c : Int) + ((z.2 : Int) - (z.1 : Int))
  | [], a, c, h, _ => by simp at h
  | [x], a, c, h, _ => by
    have e : x = a := by simpa using h
    subst e
    rfl
  | x :: y :: r, a, c, h, hc => by
    show (if c < x.1 then _ else if c < y.1 then _ else along (y :: r) c) = _
    have h1 := hc x (by simp)
    have h2 := hc y (by simp)
    rw [if_neg (by omega)]; rw [if_neg (by omega)]
    refine along_last (L := y :: r) ?_ fun p hp => hc p (List.mem_cons_of_mem _ hp)
    simpa using h
theorem along_mid : ∀ {L : List (Nat × Nat)} {k : Nat} {a b : Nat × Nat} {c : Nat}, (∀ j p, j < k + 1 → L[j]? = some p → p.1 ≤ c) → L[k]? = some a → L[k + 1]? = some b → c < b.1 → along L c = between a b c
  | [], k, a, b, c, _, h, _, _ => by simp at h
  | [x], k, a, b, c, _, _, h, _ => by simp at h
  | x :: y :: r, 0, a, b, c, hj, ha, hb, hc => by
    have e1 : x = a := by simpa using ha
    have e2 : y = b := by simpa using hb
    subst e1 e2
    show (if c < x.1 then _ else if c < y.1 then _ else along (y :: r) c) = _
    have h1 := hj 0 x (by omega) rfl
    rw [if_neg (by omega), if_pos hc]
  | x :: y :: r, k + 1, a, b, c, hj, ha, hb, hc => by
    show (if c < x.1 then _ else if c < y.1 then _ else along (y :: r) c) = _
    have h1 := hj 0 x (by omega) rfl
    have h2 := hj 1 y (by omega) rfl
    rw [if_neg (by omega)]; rw [if_neg (by omega)]
    refine along_mid (L := y :: r) (k := k) (fun j p hjk hp => hj (j + 1) p (by omega) (by simpa using hp)) (by simpa using ha) (by simpa using hb) hc
theorem sorted_le_last {L : List (Nat × Nat)} (h : L.Pairwise ltP) {z : Nat × Nat} (hz : L[L.length - 1]? = some z) : ∀ p ∈ L, p.1 ≤ z.1 := by
  intro p hp
  obtain ⟨i, hi, e⟩ := List.mem_iff_getElem.mp hp
  obtain ⟨hl, ez⟩ := List.getElem?_eq_some_iff.mp hz
  by_cases c : i = L.length - 1
  · subst c
    rw [← e, ← ez]; exact Nat.le_refl _
  · have := List.pairwise_iff_getElem.mp h i (L.length - 1) hi hl (by omega)
    rw [e, ez] at this
    unfold ltP at this
    omega
/-- the first look behind c -/
theorem first_above {L : List (Nat × Nat)} {a z : Nat × Nat} {c : Nat} (ha : L[0]? = some a) (h1 : a.1 ≤ c) (hz : L[L.length - 1]? = some z) (h2 : c < z.1) :
    ∃ (k : Nat) (x y : Nat × Nat), L[k]? = some x ∧ L[k + 1]? = some y ∧ x.1 ≤ c ∧ c < y.1 ∧ (∀ j p, j < k + 1 → L[j]? = some p → p.1 ≤ c) := by
  have step : ∀ n, n < L.length → (∀ j p, j ≤ n → L[j]? = some p → p.1 ≤ c) ∨ ∃ (k : Nat) (x y : Nat × Nat), L[k]? = some x ∧ L[k + 1]? = some y ∧ x.1 ≤ c ∧ c < y.1 ∧ (∀ j p, j < k + 1 → L[j]? = some p → p.1 ≤ c) := by
    intro n
    induction n with
    | zero =>
      intro _
      refine .inl fun j p hj hp => ?_
      have : j = 0 := by omega
      subst this
      rw [ha] at hp; cases hp; exact h1
    | succ n ih =>
      intro hn
      rcases ih (by omega) with h | h
      · have hx : L[n]? = some L[n] := List.getElem?_eq_getElem (by omega)
        have hy : L[n + 1]? = some L[n + 1] := List.getElem?_eq_getElem hn
        by_cases q : c < L[n + 1].1
        · exact .inr ⟨n, _, _, hx, hy, h n _ (Nat.le_refl _) hx, q, fun j p hj hp => h j p (by omega) hp⟩
        · refine .inl fun j p hj hp => ?_
          by_cases e : j = n + 1
          · subst e
            rw [hy] at hp; cases hp; omega
          · exact h j p (by omega) hp
      · exact .inr h
  obtain ⟨hl, _⟩ := List.getElem?_eq_some_iff.mp hz
  rcases step (L.length - 1) hl with h | h
  · have := h _ _ (Nat.le_refl _) hz
    omega
  · exact h
theorem sync_bounds {fs : List Fact} {B : Nat} (hb : ∀ f ∈ fs, f.clock ≤ B ∧ ∀ t, f.body = .sync t → t ≤ B) {d e : Nat} : ∀ p ∈ syncsOf fs d e, p.1 ≤ B ∧ p.2 ≤ B := by
  intro p hp
  obtain ⟨f, hf, h1, h2⟩ := (mem_syncs fs d e p).mp hp
  obtain ⟨b1, b2⟩ := hb f hf
  cases hbd : f.body with
  | scan x => simp [isLookOf, hbd] at h1
  | sync t =>
    have e2 : lookPair f = (f.clock, t) := by simp [lookPair, hbd]
    rw [← h2, e2]
    exact ⟨b1, b2 t hbd⟩
/-! ### histories -/
theorem less_iff : ∀ xs ys : List Int, less xs ys = decide (xs < ys)
  | [], [] => by simp [less]
  | [], _ :: _ => by simp [less]
  | _ :: _, [] => by simp [less]
  | a :: r, b :: t => by
    unfold less
    rw [less_iff r t]
    by_cases h1 : a < b
    · simp [h1, List.cons_lt_cons_iff]
    · by_cases h2 : a = b
      · subst h2; simp [List.cons_lt_cons_iff]
      · simp [h1, h2, List.cons_lt_cons_iff]
theorem lt_irr : ∀ xs : List Int, ¬ xs < xs := fun xs h => absurd h (List.lt_irrefl xs)
theorem lt_tri : ∀ xs ys : List Int, xs < ys ∨ xs = ys ∨ ys < xs
  | [], [] => .inr (.inl rfl)
  | [], _ :: _ => .inl (by simp)
  | _ :: _, [] => .inr (.inr (by simp))
  | a :: r, b :: t => by
    simp only [List.cons_lt_cons_iff, List.cons.injEq]
    rcases Int.lt_trichotomy a b with q | q | q
    · exact .inl (.inl q)
    · rcases lt_tri r t with h | h | h
      · exact .inl (.inr ⟨q, h⟩)
      · exact .inr (.inl ⟨q, h⟩)
      · exact .inr (.inr (.inr ⟨q.symm, h⟩))
    · exact .inr (.inr (.inl q))
theorem lt_asym' : ∀ xs ys : List Int, xs < ys → ¬ ys < xs
  | [], [], h, _ => by simp at h
  | [], _ :: _, _, h => by simp at h
  | _ :: _, [], h, _ => (by simp at h)
  | a :: r, b :: t, h, k => by
    simp only [List.cons_lt_cons_iff] at h k
    have ih := lt_asym' r t
    rcases h with h | ⟨h1, h2⟩
    · omega
    · rcases k with k | ⟨k1, k2⟩
      · omega
      · exact ih h2 k2
theorem lt_trans' : ∀ {xs ys zs : List Int}, xs < ys → ys < zs → xs < zs
  | [], [], _, h, _ => by simp at h
  | _ :: _, [], _, h, _ => by simp at h
  | _, _ :: _, [], _, h => by simp at h
  | [], _ :: _, _ :: _, _, _ => by simp
  | a :: r, b :: t, c :: u, h, k => by
    simp only [List.cons_lt_cons_iff] at h k ⊢
    rcases h with h | ⟨h1, h2⟩
    · rcases k with k | ⟨k1, k2⟩ <;> (left; omega)
    · rcases k with k | ⟨k1, k2⟩
      · left; omega
      · exact .inr ⟨by omega, lt_trans' h2 k2⟩
theorem key_inj {a b : Event} (h : key a = key b) : a = b := by
  obtain ⟨a1, a2, a3, a4, a5, a6, a7, a8⟩ := a
  obtain ⟨b1, b2, b3, b4, b5, b6, b7, b8⟩ := b
  simp only [key, List.cons.injEq, and_true] at h
  obtain ⟨h1, h2, h3, h4, h5, h6, h7, h8⟩ := h
  have h2 := Int.ofNat.inj h2
  have h3 := Int.ofNat.inj h3
  have h4 := Int.ofNat.inj h4
  have h5 := Int.ofNat.inj h5
  have h6 := Int.ofNat.inj h6
  have h7 := Int.ofNat.inj h7
  have h8 := Int.ofNat.inj h8
  subst h1 h2 h3 h4 h5 h6 h7 h8
  rfl
def ltE (a b : Event) : Prop := key a < key b
theorem ltE_irr (a : Event) : ¬ ltE a a := lt_irr _
theorem ltE_asym (a b : Event) (h : ltE a b) : ¬ ltE b a := lt_asym' _ _ h
theorem mem_putEvent (x p : Event) : ∀ l, p ∈ putEvent x l ↔ p = x ∨ p ∈ l
  | [] => by simp [putEvent]
  | y :: r => by
    unfold putEvent
    split
    · simp
    · split
      · rename_i e; subst e; simp
      · rw [List.mem_cons, mem_putEvent x p r, List.mem_cons]
        constructor
        · rintro (h | h | h) <;> simp [h]
        · rintro (h | h | h) <;> simp [h]
theorem putEvent_sorted (x : Event) : ∀ l, l.Pairwise ltE → (putEvent x l).Pairwise ltE
  | [], _ => by simp [putEvent]
  | y :: r, h => by
    obtain ⟨h1, h2⟩ := (List.pairwise_cons.mp h)
    unfold putEvent
    rw [less_iff]
    split
    · rename_i b
      have b := of_decide_eq_true b
      refine List.pairwise_cons.mpr ⟨fun z hz => ?_, h⟩
      rcases List.mem_cons.mp hz with e | e
      · exact e ▸ b
      · exact lt_trans' b (h1 z e)
    · rename_i b
      split
      · exact h
      · rename_i ne
        refine List.pairwise_cons.mpr ⟨fun z hz => ?_, putEvent_sorted x r h2⟩
        rcases (mem_putEvent x z r).mp hz with e | e
        · subst e
          have b : ¬ key z < key y := fun q => b (decide_eq_true q)
          rcases lt_tri (key z) (key y) with q | q | q
          · exact absurd q b
          · exact absurd (key_inj q) ne
          · exact q
        · exact h1 z e
def isScanOf (i : Nat) (f : Fact) : Bool := match f.body with
  | .scan x => x.item == i
  | .sync _ => false
/-- a scan with the time put right by gs -/
def evOf (gs : List Fact) (f : Fact) : Event := match f.body with
  | .scan x => { time := rightTime gs f.device f.epoch f.clock, kind := x.kind, office := x.office, device := f.device, number := f.number, sign := x.sign, epoch := f.epoch, clock := f.clock }
  | .sync _ => { time := 0, kind := 0, office := 0, device := 0, number := 0, sign := 0, epoch := 0, clock := 0 }
theorem evOf_inj {gs : List Fact} {i : Nat} {f g : Fact} (hf : isScanOf i f = true) (hg : isScanOf i g = true) (e : evOf gs f = evOf gs g) : f = g := by
  obtain ⟨d, n, p, c, b⟩ := f
  obtain ⟨d', n', p', c', b'⟩ := g
  cases b with
  | sync t => simp [isScanOf] at hf
  | scan x =>
    cases b' with
    | sync t => simp [isScanOf] at hg
    | scan y =>
      obtain ⟨x1, x2, x3, x4⟩ := x
      obtain ⟨y1, y2, y3, y4⟩ := y
      simp only [isScanOf, beq_iff_eq] at hf hg
      simp only [evOf, Event.mk.injEq] at e
      obtain ⟨_, e2, e3, e4, e5, e6, e7, e8⟩ := e
      subst e2 e3 e4 e5 e6 e7 e8 hf
      subst hg
      rfl
theorem events_fold (gs : List Fact) (i : Nat) : ∀ (fs : List Fact) (acc : List Event), acc.Pairwise ltE →
    (fs.foldl (fun l f => match f.body with | .scan x => if x.item = i then putEvent { time := rightTime gs f.device f.epoch f.clock, kind := x.kind, office := x.office, device := f.device, number := f.number, sign := x.sign, epoch := f.epoch, clock := f.clock } l else l | _ => l) acc).Pairwise ltE ∧
    ∀ p, p ∈ (fs.foldl (fun l f => match f.body with | .scan x => if x.item = i then putEvent { time := rightTime gs f.device f.epoch f.clock, kind := x.kind, office := x.office, device := f.device, number := f.number, sign := x.sign, epoch := f.epoch, clock := f.clock } l else l | _ => l) acc) ↔ p ∈ acc ∨ ∃ f ∈ fs, isScanOf i f = true ∧ evOf gs f = p
  | [], acc, h => ⟨h, fun p => by simp⟩
  | f :: fs, acc, h => by
    rw [List.foldl_cons]
    cases hb : f.body with
    | sync t =>
      obtain ⟨a1, a2⟩ := events_fold gs i fs acc h
      refine ⟨by simpa only [hb] using a1, fun p => ?_⟩
      have := a2 p
      simp only at this ⊢
      rw [this]
      constructor
      · rintro (z | ⟨g, hg, z⟩)
        · exact .inl z
        · exact .inr ⟨g, List.mem_cons_of_mem _ hg, z⟩
      · rintro (z | ⟨g, hg, z1, z2⟩)
        · exact .inl z
        · rcases List.mem_cons.mp hg with e | e
          · subst e; simp [isScanOf, hb] at z1
          · exact .inr ⟨g, e, z1, z2⟩
    | scan x =>
      by_cases c : x.item = i
      · obtain ⟨a1, a2⟩ := events_fold gs i fs (putEvent (evOf gs f) acc) (putEvent_sorted _ _ h)
        have ee : evOf gs f = { time := rightTime gs f.device f.epoch f.clock, kind := x.kind, office := x.office, device := f.device, number := f.number, sign := x.sign, epoch := f.epoch, clock := f.clock } := by simp [evOf, hb]
        rw [ee] at a1 a2
        refine ⟨by simpa only [hb, if_pos c] using a1, fun p => ?_⟩
        have := a2 p
        simp only [if_pos c] at this ⊢
        rw [this, mem_putEvent, ← ee]
        have hl : isScanOf i f = true := by simp [isScanOf, hb, c]
        constructor
        · rintro ((z | z) | ⟨g, hg, z⟩)
          · exact .inr ⟨f, List.mem_cons_self .., hl, z.symm⟩
          · exact .inl z
          · exact .inr ⟨g, List.mem_cons_of_mem _ hg, z⟩
        · rintro (z | ⟨g, hg, z1, z2⟩)
          · exact .inl (.inr z)
          · rcases List.mem_cons.mp hg with e | e
            · subst e; exact .inl (.inl z2.symm)
            · exact .inr ⟨g, e, z1, z2⟩
      · obtain ⟨a1, a2⟩ := events_fold gs i fs acc h
        refine ⟨by simpa only [hb, if_neg c] using a1, fun p => ?_⟩
        have := a2 p
        simp only [if_neg c] at this ⊢
        rw [this]
        constructor
        · rintro (z | ⟨g, hg, z⟩)
          · exact .inl z
          · exact .inr ⟨g, List.mem_cons_of_mem _ hg, z⟩
        · rintro (z | ⟨g, hg, z1, z2⟩)
          · exact .inl z
          · rcases List.mem_cons.mp hg with e | e
            · subst e
              simp [isScanOf, hb] at z1
              exact absurd z1 c
            · exact .inr ⟨g, e, z1, z2⟩
theorem events_sorted (fs : List Fact) (i : Nat) : (eventsOf fs i).Pairwise ltE := (events_fold fs i fs [] List.Pairwise.nil).1
theorem mem_events (fs : List Fact) (i : Nat) (p : Event) : p ∈ eventsOf fs i ↔ ∃ f ∈ fs, isScanOf i f = true ∧ evOf fs f = p := by
  refine Iff.trans (show p ∈ eventsOf fs i ↔ _ from (events_fold fs i fs [] List.Pairwise.nil).2 p) ?_
  simp
/-- what sorted gives of an item's scans is its history -/
theorem events_eq {fs : List Fact} {i : Nat} {ms : List Fact} (nd : fs.Nodup) (pm : ms.Perm (fs.filter (isScanOf i))) (pw : ms.Pairwise fun a b => ¬ key (evOf fs b) < key (evOf fs a)) : ms.map (evOf fs) = eventsOf fs i := by
  have ndm : ms.Nodup := pm.nodup_iff.mpr (nd.sublist List.filter_sublist)
  have mm : ∀ f, f ∈ ms ↔ f ∈ fs ∧ isScanOf i f = true := fun f => by rw [pm.mem_iff, List.mem_filter]
  refine rising_ext ltE_irr ltE_asym ?_ (events_sorted fs i) fun p => ?_
  · rw [List.pairwise_map]
    refine List.Pairwise.imp_of_mem (fun {a b} ha hb h => ?_) (List.pairwise_and_iff.mpr ⟨pw, ndm⟩)
    rcases lt_tri (key (evOf fs a)) (key (evOf fs b)) with q | q | q
    · exact q
    · exact absurd (evOf_inj ((mm a).mp ha).2 ((mm b).mp hb).2 (key_inj q)) h.2
    · exact absurd q h.1
  · rw [mem_events, List.mem_map]
    constructor
    · rintro ⟨f, hf, e⟩
      exact ⟨f, ((mm f).mp hf).1, ((mm f).mp hf).2, e⟩
    · rintro ⟨f, h1, h2, e⟩
      exact ⟨f, (mm f).mpr ⟨h1, h2⟩, e⟩
end Sc
namespace Sc
open Vbpoag
/-! ### rows parted -/
theorem cut_ne (s : Nat) : ∀ l, cut s l ≠ []
  | [] => by simp [cut]
  | c :: r => by
    unfold cut
    split
    · simp
    · split <;> simp
theorem cut_cons_ne {s c : Nat} {r : Bytes} (h : c ≠ s) {x : Bytes} {l : List Bytes} (e : cut s r = x :: l) : cut s (c :: r) = (c :: x) :: l := by
  rw [cut, if_neg h, e]
theorem cut_snoc_sep (s : Nat) : ∀ pre, cut s (pre ++ [s]) = cut s pre ++ [[]]
  | [] => by simp [cut]
  | c :: r => by
    by_cases h : c = s
    · subst h
      rw [List.cons_append, cut, if_pos rfl, cut_snoc_sep, cut, if_pos rfl]
      rfl
    · cases e : cut s r with
      | nil => exact absurd e (cut_ne s r)
      | cons x l =>
        have ih := cut_snoc_sep s r
        rw [e] at ih
        rw [List.cons_append, cut_cons_ne h (by rw [ih]; rfl : cut s (r ++ [s]) = x :: (l ++ [[]])), cut_cons_ne h e]
        rfl
theorem cut_snoc {s c : Nat} (h : c ≠ s) : ∀ {pre : Bytes} {init : List Bytes} {last : Bytes}, cut s pre = init ++ [last] → cut s (pre ++ [c]) = init ++ [last ++ [c]]
  | [], init, last, e => by
    have e : [[]] = init ++ [last] := e
    cases init with
    | nil =>
      have e : [[]] = [last] := e
      cases e
      simp [cut, h]
    | cons x r => simp at e
  | b :: r, init, last, e => by
    by_cases hb : b = s
    · subst hb
      rw [cut, if_pos rfl] at e
      cases init with
      | nil =>
        have e := (List.cons.inj e).2
        exact absurd e (cut_ne b r)
      | cons x q =>
        obtain ⟨e1, e2⟩ := List.cons.inj e
        subst e1
        rw [List.cons_append, cut, if_pos rfl, cut_snoc h e2]
        rfl
    · cases er : cut s r with
      | nil => exact absurd er (cut_ne s r)
      | cons x l =>
        rw [cut_cons_ne hb er] at e
        cases init with
        | nil =>
          obtain ⟨e1, e2⟩ := List.cons.inj e
          subst e1 e2
          have := cut_snoc h (init := []) er
          rw [List.cons_append, cut_cons_ne hb this]
          rfl
        | cons y q =>
          obtain ⟨e1, e2⟩ := List.cons.inj e
          have := cut_snoc h (pre := r) (init := x :: q) (last := last) (by rw [er, e2]; rfl)
          rw [List.cons_append, cut_cons_ne hb this, ← e1]
          rfl
theorem cut_mem {s : Nat} : ∀ {l w : Bytes}, w ∈ cut s l → ∀ b ∈ w, b ∈ l ∧ b ≠ s
  | [], w, h, b, hb => by
    have h : w ∈ [([] : Bytes)] := h
    rw [List.mem_singleton.mp h] at hb
    simp at hb
  | c :: r, w, h, b, hb => by
    by_cases hc : c = s
    · subst hc
      rw [cut, if_pos rfl] at h
      rcases (List.mem_cons.mp h) with e | e
      · rw [e] at hb; simp at hb
      · have := cut_mem e b hb
        exact ⟨List.mem_cons_of_mem _ this.1, this.2⟩
    · cases er : cut s r with
      | nil => exact absurd er (cut_ne s r)
      | cons x l =>
        rw [cut_cons_ne hc er] at h
        rcases (List.mem_cons.mp h) with e | e
        · subst e
          rcases (List.mem_cons.mp hb) with z | z
          · subst z; exact ⟨List.mem_cons_self .., hc⟩
          · have := cut_mem (l := r) (w := x) (by rw [er]; simp) b z
            exact ⟨List.mem_cons_of_mem _ this.1, this.2⟩
        · have := cut_mem (l := r) (w := w) (by rw [er]; exact List.mem_cons_of_mem _ e) b hb
          exact ⟨List.mem_cons_of_mem _ this.1, this.2⟩
theorem cut_length (s : Nat) : ∀ l, (cut s l).length ≤ l.length + 1
  | [] => by simp [cut]
  | c :: r => by
    have ih := cut_length s r
    by_cases hc : c = s
    · subst hc
      rw [cut, if_pos rfl]
      simpa using ih
    · cases er : cut s r with
      | nil => exact absurd er (cut_ne s r)
      | cons x l =>
        rw [er] at ih
        rw [cut_cons_ne hc er]
        simp at ih ⊢
        omega
/-! ### bytes as numbers -/
def ofN (l : Bytes) : List Int := l.map fun (n : Nat) => (n : Int)
theorem ofN_inj : ∀ {l m : Bytes}, ofN l = ofN m → l = m
  | [], [], _ => rfl
  | [], _ :: _, h => by simp [ofN] at h
  | _ :: _, [], h => by simp [ofN] at h
  | a :: l, b :: m, h => by
    simp only [ofN, List.map_cons, List.cons.injEq] at h
    have e := Int.ofNat.inj h.1
    rw [e, ofN_inj (l := l) (m := m) h.2]
theorem number_snoc (l : Bytes) (c : Nat) : number (l ++ [c]) = 10 * number l + (c - 48) := by
  unfold number
  rw [List.foldl_append]
  rfl
/-! ### words -/
def letters : List Bytes := [[65], [66], [67], [68], [69], [70]]
theorem office_eq (w : Bytes) : office w = letters.findIdx? (fun c => c == w) := by
  match w with
  | [] => rfl
  | a :: b :: r =>
    show none = _
    simp [letters, List.findIdx?_cons]
  | [c] =>
    show (if 65 ≤ c ∧ c < 65 + 6 then some (c - 65) else none) = _
    by_cases h : 65 ≤ c ∧ c < 65 + 6
    · rw [if_pos h]
      have : c = 65 ∨ c = 66 ∨ c = 67 ∨ c = 68 ∨ c = 69 ∨ c = 70 := by omega
      rcases this with e | e | e | e | e | e <;> subst e <;> decide
    · rw [if_neg h]
      have h1 : ¬ 65 = c := by omega
      have h2 : ¬ 66 = c := by omega
      have h3 : ¬ 67 = c := by omega
      have h4 : ¬ 68 = c := by omega
      have h5 : ¬ 69 = c := by omega
      have h6 : ¬ 70 = c := by omega
      simp [letters, List.findIdx?_cons, h1, h2, h3, h4, h5, h6]
end Sc
namespace Sc
open Vbpoag
/-! ### numbers in digits -/
theorem number_lt : ∀ {w : Bytes}, w.all isDigit = true → number w < 10 ^ w.length := by
  intro w
  induction h : w.length generalizing w with
  | zero =>
    intro _
    have : w = [] := List.length_eq_zero_iff.mp h
    subst this
    decide
  | succ n ih =>
    intro hd
    have hne : w ≠ [] := fun e => by subst e; simp at h
    obtain ⟨l, c, rfl⟩ : ∃ l c, w = l ++ [c] := ⟨w.dropLast, w.getLast hne, (List.dropLast_concat_getLast hne).symm⟩
    rw [List.length_append, List.length_singleton] at h
    rw [List.all_append, Bool.and_eq_true] at hd
    have h1 := ih (w := l) (by omega) hd.1
    have h2 : c ≤ 57 := by
      have := hd.2
      simp [isDigit] at this
      exact this.2
    rw [number_snoc]
    have : 10 ^ (n + 1) = 10 * 10 ^ n := by rw [Nat.pow_succ, Nat.mul_comm]
    omega
theorem number_ge : ∀ {r : Bytes} {c : Nat}, (c :: r).all isDigit = true → c ≠ 48 → 10 ^ r.length ≤ number (c :: r) := by
  intro r
  induction h : r.length generalizing r with
  | zero =>
    intro c hd hc
    have : r = [] := List.length_eq_zero_iff.mp h
    subst this
    simp [isDigit] at hd
    show 1 ≤ 10 * 0 + (c - 48)
    omega
  | succ n ih =>
    intro c hd hc
    have hne : r ≠ [] := fun e => by subst e; simp at h
    obtain ⟨l, z, rfl⟩ : ∃ l z, r = l ++ [z] := ⟨r.dropLast, r.getLast hne, (List.dropLast_concat_getLast hne).symm⟩
    rw [List.length_append, List.length_singleton] at h
    rw [← List.cons_append, List.all_append, Bool.and_eq_true] at hd
    have h1 := ih (r := l) (by omega) hd.1 hc
    rw [← List.cons_append, number_snoc]
    have : 10 ^ (n + 1) = 10 * 10 ^ n := by rw [Nat.pow_succ, Nat.mul_comm]
    omega
theorem plain_none {k : Nat} {w : Bytes} (hk : k ≤ 6) (h : plain 6 w = none) : plain k w = none := by
  unfold plain at *
  split at h
  · cases h
  · rename_i c
    rw [if_neg]
    intro q
    apply c
    simp only [Bool.and_eq_true, decide_eq_true_eq] at q ⊢
    exact ⟨q.1, by omega, q.2.2⟩
theorem plain_some {k v : Nat} {w : Bytes} (h1 : 1 ≤ k) (hk : k ≤ 6) (h : plain 6 w = some v) : plain k w = if v < 10 ^ k then some v else none := by
  unfold plain at *
  split at h
  · rename_i c
    have e : number w = v := Option.some.inj h
    simp only [Bool.and_eq_true, decide_eq_true_eq] at c
    obtain ⟨c1, c2, c3, c4⟩ := c
    have u := number_lt c3
    by_cases q : w.length ≤ k
    · have : v < 10 ^ k := by
        have : 10 ^ w.length ≤ 10 ^ k := Nat.pow_le_pow_right (by decide) q
        omega
      rw [if_pos this, if_pos, e]
      simp only [decide_eq_true_eq, Bool.and_eq_true]
      exact ⟨c1, q, c3, c4⟩
    · have : ¬ v < 10 ^ k := by
        match w, c1, c3, c4, q, e with
        | c :: r, _, c3, c4, q, e =>
          have hr : r.length ≠ 0 := by simp at q; omega
          have hc : c ≠ 48 := by
            simp at c4
            rcases c4 with z | z
            · exact absurd (by rw [z]; rfl) hr
            · exact z
          have g := number_ge c3 hc
          have : 10 ^ k ≤ 10 ^ r.length := Nat.pow_le_pow_right (by decide) (by simp at q; omega)
          omega
      rw [if_neg this, if_neg]
      intro z
      simp only [Bool.and_eq_true, decide_eq_true_eq] at z
      exact q z.2.1
  · cases h
theorem plain_digits {k v : Nat} {w : Bytes} (h : plain k w = some v) : ∀ b ∈ w, 48 ≤ b ∧ b ≤ 57 := by
  unfold plain at h
  split at h
  · rename_i c
    simp only [Bool.and_eq_true] at c
    intro b hb
    have := List.all_eq_true.mp c.2.2.1 b hb
    simpa [isDigit] using this
  · cases h
/-! ### a line of names, as the program reads it -/
def keyNames : List Bytes := ["EVT", "DEV", "SEQ", "EPO", "CLK", "OFF", "ITM", "SIG", "TRU"].map text
def splitC (p : Bytes) : Option (Bytes × Bytes) := if 58 ∈ p then some (p.take (p.idxOf 58), p.drop (p.idxOf 58 + 1)) else none
def pyVals : List Bytes → List (Nat × Bytes) → Option (List (Nat × Bytes))
  | [], acc => some acc
  | p :: r, acc => match splitC p with
    | none => none
    | some (a, b) => match keyNames.findIdx? (fun c => c == a) with
      | none => none
      | some j => if (acc.any fun q => q.1 == j) = true then none else pyVals r (acc ++ [(j, b)])
def getV (l : List (Nat × Bytes)) (j : Nat) : Option Bytes := (l.find? fun q => q.1 == j).map fun q => q.2
def keysL (vs : List (Nat × Bytes)) : List Nat := (vs.map fun q => q.1).filter fun j => j != 7
def lookKeys : List Nat := [4, 1, 3, 0, 2, 8]
def scanKeys : List Nat := [4, 1, 3, 0, 6, 5, 2]
def gp (vs : List (Nat × Bytes)) (j : Nat) : Option Nat := (getV vs j).bind (plain 6)
/-- the head's numbers -/
def pyHead (vs : List (Nat × Bytes)) : Option (Nat × Nat × Nat × Nat) := do
  let d ← gp vs 1
  let n ← gp vs 2
  let p ← gp vs 3
  let c ← gp vs 4
  some (d, n, p, c)
def pySign (vs : List (Nat × Bytes)) : Option Nat := match getV vs 7 with
  | none => some 0
  | some w => (plain 6 w).bind fun s => if 0 < s then some s else none
def pyRest (vs : List (Nat × Bytes)) (isLook : Bool) (h : Nat × Nat × Nat × Nat) : Option Fact :=
  if isLook = true then
    (if getV vs 7 = none ∧ getV vs 0 = some (text "SYN") then (gp vs 8).bind fun t => checkedFact { device := h.1, number := h.2.1, epoch := h.2.2.1, clock := h.2.2.2, body := .sync t } else none)
  else do
    let i ← gp vs 6
    let k ← (getV vs 0).bind codeOf
    let s ← pySign vs
    let o ← (getV vs 5).bind office
    checkedFact { device := h.1, number := h.2.1, epoch := h.2.2.1, clock := h.2.2.2, body := .scan { item := i, kind := k, office := o, sign := s } }
def pyNamed (l : Bytes) : Option Fact := match pyVals (cut 59 l) [] with
  | none => none
  | some vs => if (keysL vs).isPerm scanKeys = true ∨ (keysL vs).isPerm lookKeys = true then (pyHead vs).bind (pyRest vs ((keysL vs).isPerm lookKeys)) else none
/-! ### it is the specification's -/
theorem cut_none {s : Nat} : ∀ {l : Bytes}, s ∉ l → cut s l = [l]
  | [], _ => rfl
  | c :: r, h => by
    have h1 : c ≠ s := fun e => h (by rw [e]; simp)
    have h2 : s ∉ r := fun e => h (List.mem_cons_of_mem _ e)
    exact cut_cons_ne h1 (cut_none h2)
theorem cut_some {s : Nat} : ∀ {l : Bytes}, s ∈ l → cut s l = l.take (l.idxOf s) :: cut s (l.drop (l.idxOf s + 1))
  | c :: r, h => by
    by_cases hc : c = s
    · subst hc
      rw [cut, if_pos rfl]
      simp [List.idxOf_cons]
    · have h2 : s ∈ r := by
        rcases (List.mem_cons.mp h) with e | e
        · exact absurd e.symm hc
        · exact e
      have ih := cut_some h2
      rw [cut_cons_ne hc ih]
      have e : (c :: r).idxOf s = r.idxOf s + 1 := by
        have q : (c == s) = false := by simpa using hc
        rw [List.idxOf_cons, q, cond_false]
      rw [e]
      rfl
theorem pairOf_eq (p : Bytes) : pairOf p = match splitC p with
    | none => none
    | some (a, b) => if 58 ∈ b then none else some (a, b) := by
  unfold splitC pairOf
  by_cases h : 58 ∈ p
  · rw [if_pos h, cut_some h]
    dsimp only
    by_cases q : 58 ∈ p.drop (p.idxOf 58 + 1)
    · rw [if_pos q, cut_some q]
      have := cut_ne 58 ((p.drop (p.idxOf 58 + 1)).drop ((p.drop (p.idxOf 58 + 1)).idxOf 58 + 1))
      cases e : cut 58 ((p.drop (p.idxOf 58 + 1)).drop ((p.drop (p.idxOf 58 + 1)).idxOf 58 + 1)) with
      | nil => exact absurd e this
      | cons x r => rfl
    · rw [if_neg q, cut_none q]
  · rw [if_neg h, cut_none h]
theorem mapM_pairs : ∀ pcs : List Bytes, pcs.mapM pairOf = match pcs.mapM splitC with
    | none => none
    | some abs => if (abs.any fun q => decide (58 ∈ q.2)) = true then none else some abs
  | [] => by simp
  | p :: r => by
    rw [List.mapM_cons, List.mapM_cons, pairOf_eq, mapM_pairs r]
    cases h1 : splitC p with
    | none => rfl
    | some ab =>
      obtain ⟨a, b⟩ := ab
      cases h2 : r.mapM splitC with
      | none =>
        by_cases q : 58 ∈ b
        · simp [q]
        · simp [q]
      | some abs =>
        by_cases q : 58 ∈ b
        · simp [q]
        · cases z : abs.any fun q => decide (58 ∈ q.2) with
          | true => simp [q, z]
          | false => simp [q, z]
theorem keysOnce_iff : ∀ ps : List (Bytes × Bytes), keysOnce ps = true ↔ (ps.map fun q => q.1).Nodup
  | [] => by simp [keysOnce]
  | p :: r => by
    unfold keysOnce
    rw [Bool.and_eq_true, keysOnce_iff r, List.map_cons, List.nodup_cons, Bool.not_eq_true']
    refine and_congr_left fun _ => ?_
    rw [← Bool.not_eq_true, List.any_eq_true, List.mem_map]
    refine not_congr ⟨fun ⟨q, h1, h2⟩ => ⟨q, h1, by simpa using h2⟩, fun ⟨q, h1, h2⟩ => ⟨q, h1, by simpa using h2⟩⟩
def specRest (ps : List (Bytes × Bytes)) : Option Fact := do
  let e ← valueOf ps "EVT"
  let d ← numberAt ps "DEV" 1
  let n ← numberAt ps "SEQ" 4
  let p ← numberAt ps "EPO" 1
  let c ← numberAt ps "CLK" 5
  if e = text "SYN" then do
    let t ← numberAt ps "TRU" 5
    if ps.length = 6 then checkedFact { device := d, number := n, epoch := p, clock := c, body := .sync t } else none
  else do
    let k ← codeOf e
    let o ← (valueOf ps "OFF").bind office
    let i ← numberAt ps "ITM" 2
    match valueOf ps "SIG" with
    | none => if ps.length = 7 then checkedFact { device := d, number := n, epoch := p, clock := c, body := .scan { item := i, kind := k, office := o, sign := 0 } } else none
    | some w => do
      let s ← plain 6 w
      if ps.length = 8 ∧ s ≠ 0 then checkedFact { device := d, number := n, epoch := p, clock := c, body := .scan { item := i, kind := k, office := o, sign := s } } else none
theorem otherRead_eq (l : Bytes) : otherRead l = match (cut 59 l).mapM splitC with
    | none => none
    | some abs => if (abs.any fun q => decide (58 ∈ q.2)) = true then none else if keysOnce abs = false then none else specRest abs := by
  unfold otherRead
  rw [mapM_pairs]
  cases h : (cut 59 l).mapM splitC with
  | none => rfl
  | some abs =>
    dsimp only
    by_cases z : (abs.any fun q => decide (58 ∈ q.2)) = true
    · rw [if_pos z, if_pos z]
      rfl
    · rw [if_neg z, if_neg z]
      rfl
end Sc
namespace Sc
open Vbpoag
def nm (j : Nat) : Bytes := keyNames.getD j []
theorem nm_inj : ∀ i, i < 9 → ∀ j, j < 9 → nm i = nm j → i = j := by decide
theorem find_nm {a : Bytes} {j : Nat} (h : keyNames.findIdx? (fun c => c == a) = some j) : j < 9 ∧ nm j = a := by
  obtain ⟨h1, h2, _⟩ := List.findIdx?_eq_some_iff_getElem.mp h
  refine ⟨h1, ?_⟩
  unfold nm
  rw [List.getD_eq_getElem?_getD, List.getElem?_eq_getElem h1]
  simpa using h2
theorem find_none {a : Bytes} (h : keyNames.findIdx? (fun c => c == a) = none) : a ∉ keyNames := by
  intro hm
  have := List.findIdx?_eq_none_iff.mp h a hm
  simp at this
theorem any_key {acc : List (Nat × Bytes)} {j : Nat} : (acc.any fun q => q.1 == j) = true ↔ j ∈ acc.map fun q => q.1 := by
  rw [List.any_eq_true, List.mem_map]
  exact ⟨fun ⟨q, h1, h2⟩ => ⟨q, h1, by simpa using h2⟩, fun ⟨q, h1, h2⟩ => ⟨q, h1, by simpa using h2⟩⟩
theorem pyVals_some : ∀ (pcs : List Bytes) (acc vs : List (Nat × Bytes)), pyVals pcs acc = some vs → (acc.map fun q => q.1).Nodup → (∀ q ∈ acc, q.1 < 9) →
    ∃ new, vs = acc ++ new ∧ pcs.mapM splitC = some (new.map fun q => (nm q.1, q.2)) ∧ (vs.map fun q => q.1).Nodup ∧ ∀ q ∈ vs, q.1 < 9
  | [], acc, vs, h, nd, lt => by
    have e : acc = vs := Option.some.inj h
    subst e
    exact ⟨[], by simp, by simp, nd, lt⟩
  | p :: r, acc, vs, h, nd, lt => by
    unfold pyVals at h
    cases h1 : splitC p with
    | none => rw [h1] at h; simp at h
    | some ab =>
      obtain ⟨a, b⟩ := ab
      rw [h1] at h
      dsimp only at h
      cases h2 : keyNames.findIdx? (fun c => c == a) with
      | none => rw [h2] at h; simp at h
      | some j =>
        rw [h2] at h
        dsimp only at h
        obtain ⟨j9, jn⟩ := find_nm h2
        by_cases q : (acc.any fun q => q.1 == j) = true
        · rw [if_pos q] at h; cases h
        · rw [if_neg q] at h
          have nj : j ∉ acc.map fun q => q.1 := fun z => q (any_key.mpr z)
          obtain ⟨new, e1, e2, e3, e4⟩ := pyVals_some r _ vs h (by
            rw [List.map_append]; rw [List.nodup_append]
            refine ⟨nd, by simp, fun x hx y hy => ?_⟩
            have : y = j := by simpa using hy
            subst this
            exact fun e => nj (e ▸ hx)) (fun q hq => by
            rcases List.mem_append.mp hq with z | z
            · exact lt q z
            · rw [List.mem_singleton.mp z]; exact j9)
          refine ⟨(j, b) :: new, by rw [e1]; simp, ?_, e3, e4⟩
          rw [List.mapM_cons, h1, e2]
          show some ((a, b) :: _) = some ((nm j, b) :: _)
          rw [jn]
theorem pyVals_none : ∀ (pcs : List Bytes) (acc : List (Nat × Bytes)), pyVals pcs acc = none →
    pcs.mapM splitC = none ∨ ∃ abs, pcs.mapM splitC = some abs ∧ ((∃ ab ∈ abs, ab.1 ∉ keyNames) ∨ ¬ ((acc.map fun q => nm q.1) ++ abs.map fun q => q.1).Nodup)
  | [], acc, h => by cases h
  | p :: r, acc, h => by
    unfold pyVals at h
    rw [List.mapM_cons]
    cases h1 : splitC p with
    | none => exact .inl rfl
    | some ab =>
      obtain ⟨a, b⟩ := ab
      rw [h1] at h
      dsimp only at h
      cases h3 : r.mapM splitC with
      | none => exact .inl rfl
      | some abs =>
        refine .inr ⟨(a, b) :: abs, rfl, ?_⟩
        cases h2 : keyNames.findIdx? (fun c => c == a) with
        | none => exact .inl ⟨(a, b), by simp, find_none h2⟩
        | some j =>
          rw [h2] at h
          dsimp only at h
          obtain ⟨j9, jn⟩ := find_nm h2
          by_cases q : (acc.any fun q => q.1 == j) = true
          · refine .inr fun nd => ?_
            rw [List.nodup_append] at nd
            obtain ⟨x, hx, e⟩ := List.mem_map.mp (any_key.mp q)
            exact nd.2.2 (nm x.1) (List.mem_map.mpr ⟨x, hx, rfl⟩) a (by simp) (by rw [e, jn])
          · rw [if_neg q] at h
            rcases pyVals_none r _ h with z | ⟨abs', e, z⟩
            · rw [h3] at z; cases z
            · rw [h3] at e
              cases e
              rcases z with ⟨ab, hab, z⟩ | z
              · exact .inl ⟨ab, List.mem_cons_of_mem _ hab, z⟩
              · refine .inr fun nd => z ?_
                simpa [jn] using nd
/-! ### the values by their names -/
theorem getV_mem {vs : List (Nat × Bytes)} {j : Nat} {b : Bytes} (h : getV vs j = some b) : (j, b) ∈ vs := by
  unfold getV at h
  cases q : vs.find? fun q => q.1 == j with
  | none => rw [q] at h; cases h
  | some x =>
    rw [q] at h
    have e : x.2 = b := Option.some.inj h
    have m := List.mem_of_find?_eq_some q
    have z := List.find?_some q
    have z : x.1 = j := by simpa using z
    rw [← e, ← z]
    exact m
theorem getV_of {vs : List (Nat × Bytes)} (nd : (vs.map fun q => q.1).Nodup) {j : Nat} {b : Bytes} (h : (j, b) ∈ vs) : getV vs j = some b := by
  induction vs with
  | nil => cases h
  | cons x r ih =>
    rw [List.map_cons, List.nodup_cons] at nd
    unfold getV
    rw [List.find?_cons]
    rcases (List.mem_cons.mp h) with e | e
    · subst e
      simp
    · have ne : (x.1 == j) = false := by
        have : x.1 ≠ j := fun z => nd.1 (z ▸ List.mem_map.mpr ⟨(j, b), e, rfl⟩)
        simpa using this
      rw [ne]
      exact ih nd.2 e
theorem mem_keys {vs : List (Nat × Bytes)} (nd : (vs.map fun q => q.1).Nodup) {j : Nat} : (j ∈ vs.map fun q => q.1) ↔ (getV vs j).isSome = true := by
  constructor
  · intro h
    obtain ⟨x, hx, e⟩ := List.mem_map.mp h
    have := getV_of nd (j := x.1) (b := x.2) hx
    rw [← e, this]
    rfl
  · intro h
    cases q : getV vs j with
    | none => rw [q] at h; cases h
    | some b => exact List.mem_map.mpr ⟨_, getV_mem q, rfl⟩
theorem valueOf_nm {vs : List (Nat × Bytes)} (lt : ∀ q ∈ vs, q.1 < 9) {j : Nat} (hj : j < 9) {k : String} (hk : text k = nm j) : valueOf (vs.map fun q => (nm q.1, q.2)) k = getV vs j := by
  unfold valueOf getV
  rw [hk]
  induction vs with
  | nil => rfl
  | cons x r ih =>
    have lx := lt x (by simp)
    rw [List.map_cons, List.find?_cons, List.find?_cons]
    by_cases e : x.1 = j
    · rw [e]
      simp
    · have n1 : (x.1 == j) = false := by simpa using e
      have n2 : (nm x.1 == nm j) = false := by
        have : nm x.1 ≠ nm j := fun z => e (nm_inj _ lx _ hj z)
        simpa using this
      rw [n1]
      dsimp only
      rw [n2]
      exact ih fun q hq => lt q (List.mem_cons_of_mem _ hq)
theorem perm_of_mem {A B : List Nat} (ha : A.Nodup) (hb : B.Nodup) (h : ∀ j, j ∈ A ↔ j ∈ B) : A.isPerm B = true := List.isPerm_iff.mpr ((List.perm_ext_iff_of_nodup ha hb).mpr h)
theorem mem_keysL {vs : List (Nat × Bytes)} (nd : (vs.map fun q => q.1).Nodup) {j : Nat} : j ∈ keysL vs ↔ (getV vs j).isSome = true ∧ j ≠ 7 := by
  unfold keysL
  rw [List.mem_filter, mem_keys nd]
  simp
theorem keysL_nodup {vs : List (Nat × Bytes)} (nd : (vs.map fun q => q.1).Nodup) : (keysL vs).Nodup := nd.sublist List.filter_sublist
theorem isPerm_iff {vs : List (Nat × Bytes)} (nd : (vs.map fun q => q.1).Nodup) (lt : ∀ q ∈ vs, q.1 < 9) {B : List Nat} (hb : B.Nodup) (hB : ∀ j ∈ B, j < 9) : (keysL vs).isPerm B = true ↔ ∀ j, j < 9 → (((getV vs j).isSome = true ∧ j ≠ 7) ↔ j ∈ B) := by
  constructor
  · intro h j _
    rw [← mem_keysL nd]
    exact (List.isPerm_iff.mp h).mem_iff
  · intro h
    refine perm_of_mem (keysL_nodup nd) hb fun j => ?_
    rw [mem_keysL nd]
    by_cases hj : j < 9
    · exact h j hj
    · constructor
      · rintro ⟨h1, _⟩
        obtain ⟨x, hx, e⟩ := List.mem_map.mp ((mem_keys nd).mpr h1)
        exact absurd (e ▸ lt x hx) hj
      · exact fun z => absurd (hB j z) hj
theorem length_vs {vs : List (Nat × Bytes)} (nd : (vs.map fun q => q.1).Nodup) (lt : ∀ q ∈ vs, q.1 < 9) : vs.length = ((List.range 9).filter fun j => (getV vs j).isSome).length := by
  have p : (vs.map fun q => q.1).Perm ((List.range 9).filter fun j => (getV vs j).isSome) := by
    refine (List.perm_ext_iff_of_nodup nd (List.nodup_range.sublist List.filter_sublist)).mpr fun j => ?_
    rw [mem_keys nd, List.mem_filter, List.mem_range]
    constructor
    · intro h
      obtain ⟨x, hx, e⟩ := List.mem_map.mp ((mem_keys nd).mpr h)
      exact ⟨e ▸ lt x hx, h⟩
    · exact fun h => h.2
  rw [← p.length_eq, List.length_map]
/-! ### the two readings over nine options -/
def b2n (b : Bool) : Nat := if b = true then 1 else 0
def specO (x0 x1 x2 x3 x4 x5 x6 x7 x8 : Option Bytes) (len : Nat) : Option Fact := do
  let e ← x0
  let d ← x1.bind (plain 1)
  let n ← x2.bind (plain 4)
  let p ← x3.bind (plain 1)
  let c ← x4.bind (plain 5)
  if e = text "SYN" then do
    let t ← x8.bind (plain 5)
    if len = 6 then checkedFact { device := d, number := n, epoch := p, clock := c, body := .sync t } else none
  else do
    let k ← codeOf e
    let o ← x5.bind office
    let i ← x6.bind (plain 2)
    match x7 with
    | none => if len = 7 then checkedFact { device := d, number := n, epoch := p, clock := c, body := .scan { item := i, kind := k, office := o, sign := 0 } } else none
    | some w => do
      let s ← plain 6 w
      if len = 8 ∧ s ≠ 0 then checkedFact { device := d, number := n, epoch := p, clock := c, body := .scan { item := i, kind := k, office := o, sign := s } } else none
theorem specRest_eq {vs : List (Nat × Bytes)} (lt : ∀ q ∈ vs, q.1 < 9) : specRest (vs.map fun q => (nm q.1, q.2)) = specO (getV vs 0) (getV vs 1) (getV vs 2) (getV vs 3) (getV vs 4) (getV vs 5) (getV vs 6) (getV vs 7) (getV vs 8) vs.length := by
  unfold specRest specO numberAt
  rw [valueOf_nm lt (j := 0) (by decide) rfl, valueOf_nm lt (j := 1) (by decide) rfl, valueOf_nm lt (j := 2) (by decide) rfl, valueOf_nm lt (j := 3) (by decide) rfl, valueOf_nm lt (j := 4) (by decide) rfl,
    valueOf_nm lt (j := 5) (by decide) rfl, valueOf_nm lt (j := 6) (by decide) rfl, valueOf_nm lt (j := 7) (by decide) rfl, valueOf_nm lt (j := 8) (by decide) rfl, List.length_map]
  all_goals rfl
def lookB (x0 x1 x2 x3 x4 x5 x6 x8 : Option Bytes) : Bool := x0.isSome && (x1.isSome && (x2.isSome && (x3.isSome && (x4.isSome && (!x5.isSome && (!x6.isSome && x8.isSome))))))
def scanB (x0 x1 x2 x3 x4 x5 x6 x8 : Option Bytes) : Bool := x0.isSome && (x1.isSome && (x2.isSome && (x3.isSome && (x4.isSome && (x5.isSome && (x6.isSome && !x8.isSome))))))
theorem nine {P : Nat → Prop} : (∀ j, j < 9 → P j) ↔ P 0 ∧ P 1 ∧ P 2 ∧ P 3 ∧ P 4 ∧ P 5 ∧ P 6 ∧ P 7 ∧ P 8 := by
  constructor
  · exact fun h => ⟨h 0 (by omega), h 1 (by omega), h 2 (by omega), h 3 (by omega), h 4 (by omega), h 5 (by omega), h 6 (by omega), h 7 (by omega), h 8 (by omega)⟩
  · rintro ⟨h0, h1, h2, h3, h4, h5, h6, h7, h8⟩ j hj
    match j, hj with
    | 0, _ => exact h0
    | 1, _ => exact h1
    | 2, _ => exact h2
    | 3, _ => exact h3
    | 4, _ => exact h4
    | 5, _ => exact h5
    | 6, _ => exact h6
    | 7, _ => exact h7
    | 8, _ => exact h8
    | n + 9, h => omega
theorem bool_eq_of_iff {a b : Bool} (h : a = true ↔ b = true) : a = b := by
  cases a <;> cases b <;> simp at h ⊢
def nineB (B : List Nat) (b0 b1 b2 b3 b4 b5 b6 b7 b8 : Bool) : Prop := ((b0 = true ∧ 0 ≠ 7) ↔ 0 ∈ B) ∧ ((b1 = true ∧ 1 ≠ 7) ↔ 1 ∈ B) ∧ ((b2 = true ∧ 2 ≠ 7) ↔ 2 ∈ B) ∧ ((b3 = true ∧ 3 ≠ 7) ↔ 3 ∈ B) ∧ ((b4 = true ∧ 4 ≠ 7) ↔ 4 ∈ B) ∧ ((b5 = true ∧ 5 ≠ 7) ↔ 5 ∈ B) ∧ ((b6 = true ∧ 6 ≠ 7) ↔ 6 ∈ B) ∧ ((b7 = true ∧ 7 ≠ 7) ↔ 7 ∈ B) ∧ ((b8 = true ∧ 8 ≠ 7) ↔ 8 ∈ B)
instance (B : List Nat) (b0 b1 b2 b3 b4 b5 b6 b7 b8 : Bool) : Decidable (nineB B b0 b1 b2 b3 b4 b5 b6 b7 b8) := by unfold nineB; infer_instance
theorem look_bits : ∀ b0 b1 b2 b3 b4 b5 b6 b7 b8 : Bool, nineB lookKeys b0 b1 b2 b3 b4 b5 b6 b7 b8 ↔ (b0 && (b1 && (b2 && (b3 && (b4 && (!b5 && (!b6 && b8))))))) = true := by decide +kernel
theorem scan_bits : ∀ b0 b1 b2 b3 b4 b5 b6 b7 b8 : Bool, nineB scanKeys b0 b1 b2 b3 b4 b5 b6 b7 b8 ↔ (b0 && (b1 && (b2 && (b3 && (b4 && (b5 && (b6 && !b8))))))) = true := by decide +kernel
theorem look_eq {vs : List (Nat × Bytes)} (nd : (vs.map fun q => q.1).Nodup) (lt : ∀ q ∈ vs, q.1 < 9) : (keysL vs).isPerm lookKeys = lookB (getV vs 0) (getV vs 1) (getV vs 2) (getV vs 3) (getV vs 4) (getV vs 5) (getV vs 6) (getV vs 8) := by
  refine bool_eq_of_iff ?_
  rw [isPerm_iff nd lt (by decide) (by decide), nine]
  exact look_bits _ _ _ _ _ _ _ _ _
theorem scan_eq {vs : List (Nat × Bytes)} (nd : (vs.map fun q => q.1).Nodup) (lt : ∀ q ∈ vs, q.1 < 9) : (keysL vs).isPerm scanKeys = scanB (getV vs 0) (getV vs 1) (getV vs 2) (getV vs 3) (getV vs 4) (getV vs 5) (getV vs 6) (getV vs 8) := by
  refine bool_eq_of_iff ?_
  rw [isPerm_iff nd lt (by decide) (by decide), nine]
  exact scan_bits _ _ _ _ _ _ _ _ _
theorem length_eq {vs : List (Nat × Bytes)} (nd : (vs.map fun q => q.1).Nodup) (lt : ∀ q ∈ vs, q.1 < 9) : vs.length = b2n (getV vs 0).isSome + b2n (getV vs 1).isSome + b2n (getV vs 2).isSome + b2n (getV vs 3).isSome + b2n (getV vs 4).isSome + b2n (getV vs 5).isSome + b2n (getV vs 6).isSome + b2n (getV vs 7).isSome + b2n (getV vs 8).isSome := by
  rw [length_vs nd lt]
  have e : List.range 9 = [0, 1, 2, 3, 4, 5, 6, 7, 8] := by decide
  rw [e]
  have step : ∀ (p : Nat → Bool) (a : Nat) (l : List Nat), ((a :: l).filter p).length = b2n (p a) + (l.filter p).length := by
    intro p a l
    rw [List.filter_cons]
    cases p a <;> simp [b2n, Nat.add_comm]
  simp only [step, List.filter_nil, List.length_nil]
  omega
end Sc
namespace Sc
open Vbpoag
def fitsL : List (List Nat) := [[0], [0, 2], [1], [1, 4], [3], [3, 1], [1, 3, 4], [1, 4], [1], [7]]
def behindL : List Nat := [1, 1, 2, 3, 3, 4, 5, 8, 7, 1]
theorem fits_eq (x : Standing) (o : Nat) {k : Nat} (hk : k < 10) : fits x k o = ((fitsL.getD k []).contains x.state && (k == 0 || (k == 1 || o == x.office))) := by
  have ho : (o == x.office) = (x.office == o) := by
    refine bool_eq_of_iff ?_
    simp only [beq_iff_eq]
    exact ⟨fun h => h.symm, fun h => h.symm⟩
  rw [ho]
  obtain ⟨s, off, at', od, sg⟩ := x
  rcases k with _ | _ | _ | _ | _ | _ | _ | _ | _ | _ | k
  all_goals first
    | (exfalso; omega)
    | (simp only [fits, fitsL, List.getD_eq_getElem?_getD, List.getElem?_cons_zero, List.getElem?_cons_succ, Option.getD_some, List.contains_cons, List.contains_nil, Bool.or_false]
       generalize (off == o) = h
       cases h <;> simp)
theorem behind_eq {k : Nat} (hk : k < 10) (g : Bool) : stateBehind k g = behindL.getD k 0 + if ((k == 6 || k == 7) && g) = true then 1 else 0 := by
  rcases k with _ | _ | _ | _ | _ | _ | _ | _ | _ | _ | k
  all_goals first
    | (exfalso; omega)
    | (cases g <;> rfl)
def oddB (x : Standing) (k o s : Nat) (g : Bool) : Bool := ended x || (!fits x k o || (s != 0 && !g))
def believe (x : Standing) (k o d n s : Nat) (g : Bool) : Standing := { state := stateBehind k g, office := o, attempts := if k = 4 then x.attempts + 1 else x.attempts, odd := x.odd, signed := if ((k == 6 || k == 7) && g) = true then some (d, n, s) else x.signed }
def goOn (x : Standing) (p k o d n s : Nat) (g : Bool) : Standing :=
  let x1 : Standing := if oddB x k o s g = true then { x with odd := x.odd ++ [p] } else x
  if ended x1 = true then x1 else believe x1 k o d n s g
theorem goOn_eq (item : Nat) (x : Standing) (p : Nat) (e : Event) : behind item x p e = goOn x p e.kind e.office e.device e.number e.sign (goodSign item e.device e.number e.sign) := by
  unfold behind goOn
  generalize hg : goodSign item e.device e.number e.sign = g
  by_cases he : ended x = true
  · have ho : oddB x e.kind e.office e.sign g = true := by unfold oddB; rw [he]; rfl
    rw [if_pos he]
    simp only [ho, if_true]
    have : ended { x with odd := x.odd ++ [p] } = true := he
    rw [if_pos this]
  · rw [if_neg he]
    have he' : ended x = false := by simpa using he
    have ho : oddB x e.kind e.office e.sign g = !(fits x e.kind e.office && (e.sign == 0 || g)) := by
      unfold oddB
      rw [he']
      have : (e.sign != 0) = !(e.sign == 0) := rfl
      rw [this]
      cases fits x e.kind e.office <;> cases e.sign == 0 <;> cases g <;> rfl
    simp only [ho]
    have hsig : ∀ y : Option (Nat × Nat × Nat), (if g = true ∧ (e.kind = 6 ∨ e.kind = 7) then some (e.device, e.number, e.sign) else y) = if ((e.kind == 6 || e.kind == 7) && g) = true then some (e.device, e.number, e.sign) else y := fun y => by
      have : (g = true ∧ (e.kind = 6 ∨ e.kind = 7)) ↔ ((e.kind == 6 || e.kind == 7) && g) = true := by
        simp only [Bool.and_eq_true, Bool.or_eq_true, beq_iff_eq]
        exact And.comm
      by_cases c : g = true ∧ (e.kind = 6 ∨ e.kind = 7)
      · rw [if_pos c, if_pos (this.mp c)]
      · rw [if_neg c, if_neg fun z => c (this.mpr z)]
    cases hf : (fits x e.kind e.office && (e.sign == 0 || g)) with
    | true =>
      simp only [if_false, Bool.not_true, Bool.false_eq_true]
      rw [if_neg he]
      simp only [believe, hf, if_true, hsig]
    | false =>
      simp only [if_true, Bool.not_false]
      have : ¬ ended { x with odd := x.odd ++ [p] } = true := he
      rw [if_neg this]
      simp only [believe, hf, Bool.false_eq_true, if_false, hsig]
theorem standIn_snoc (item : Nat) : ∀ (l : List Event) (x : Standing) (n : Nat) (e : Event), standIn item x n (l ++ [e]) = behind item (standIn item x n l) (n + l.length) e
  | [], x, n, e => rfl
  | a :: l, x, n, e => by
    show standIn item (behind item x n a) (n + 1) (l ++ [e]) = _
    rw [standIn_snoc item l]
    show _ = behind item (standIn item (behind item x n a) (n + 1) l) _ e
    rw [List.length_cons, show n + 1 + l.length = n + (l.length + 1) by omega]
theorem standIn_odd (item : Nat) (l : List Event) : ∀ x n, (standIn item x n l).odd.length ≤ x.odd.length + l.length := by
  induction l with
  | nil => intro x n; simp [standIn]
  | cons a l ih =>
    intro x n
    show (standIn item (behind item x n a) (n + 1) l).odd.length ≤ _
    refine Nat.le_trans (ih _ _) ?_
    have : (behind item x n a).odd.length ≤ x.odd.length + 1 := by
      unfold behind
      split
      · simp
      · simp only []
        split <;> simp
    rw [List.length_cons]
    omega
end Sc
namespace Sc
open Vbpoag
theorem cut_piece_len {s : Nat} : ∀ {l w : Bytes}, w ∈ cut s l → w.length ≤ l.length
  | [], w, h => by
    have : w = [] := by simpa [cut] using h
    subst this; simp
  | c :: r, w, h => by
    unfold cut at h
    by_cases e : c = s
    · rw [if_pos e] at h
      rcases List.mem_cons.mp h with h | h
      · subst h; simp
      · have := cut_piece_len h; rw [List.length_cons]; omega
    · rw [if_neg e] at h
      cases hc : cut s r with
      | nil => exact absurd hc (cut_ne s r)
      | cons x l =>
        rw [hc] at h
        rcases List.mem_cons.mp h with h | h
        · subst h
          have : x ∈ cut s r := by rw [hc]; simp
          have := cut_piece_len this
          (simp only [List.length_cons]; omega)
        · have : w ∈ cut s r := by rw [hc]; exact List.mem_cons_of_mem _ h
          have := cut_piece_len this
          rw [List.length_cons]; omega
end Sc
namespace Sc
open Vbpoag
theorem first_other {l : Bytes} (h6 : (cut 32 l).length ≠ 6) (h8 : (cut 32 l).length ≠ 8) : firstRead l = none := by
  unfold firstRead
  split
  · rename_i d n e t r h
    rw [h] at h6 h8
    simp only [List.length_cons] at h6 h8
    have key : ∀ (x : Option Fact), x = none → (field 68 1 d).bind (fun d => (field 78 4 n).bind fun n => (field 69 1 e).bind fun e => (field 84 5 t).bind fun t => x) = none := by
      intro x hx
      subst hx
      cases field 68 1 d <;> cases field 78 4 n <;> cases field 69 1 e <;> cases field 84 5 t <;> rfl
    cases hd : field 68 1 d with
    | none => rfl
    | some d' =>
      cases hn : field 78 4 n with
      | none => rfl
      | some n' =>
        cases he : field 69 1 e with
        | none => rfl
        | some e' =>
          cases ht : field 84 5 t with
          | none => rfl
          | some t' =>
            simp only [bind, Option.bind]
            split
            · simp at h8
            · simp at h6
            · rfl
  · rfl
theorem first_look {l d n e t q u : Bytes} (h : cut 32 l = [d, n, e, t, q, u]) : firstRead l = (field 68 1 d).bind fun d => (field 78 4 n).bind fun n => (field 69 1 e).bind fun e => (field 84 5 t).bind fun t => if q = [61] then (field 84 5 u).bind fun u => checkedFact { device := d, number := n, epoch := e, clock := t, body := .sync u } else none := by
  unfold firstRead
  rw [h]
  rfl
theorem first_scan {l d n e t i c o s : Bytes} (h : cut 32 l = [d, n, e, t, i, c, o, s]) : firstRead l = (field 68 1 d).bind fun d => (field 78 4 n).bind fun n => (field 69 1 e).bind fun e => (field 84 5 t).bind fun t => (field 73 2 i).bind fun i => (codeOf c).bind fun c => (office o).bind fun o => (field 83 6 s).bind fun s => checkedFact { device := d, number := n, epoch := e, clock := t, body := .scan { item := i, kind := c, office := o, sign := s } } := by
  unfold firstRead
  rw [h]
  rfl
theorem six_of {α : Type} {l : List α} (h : l.length = 6) : ∃ a b c d e f, l = [a, b, c, d, e, f] := by
  match l, h with
  | [a, b, c, d, e, f], _ => exact ⟨a, b, c, d, e, f, rfl⟩
theorem eight_of {α : Type} {l : List α} (h : l.length = 8) : ∃ a b c d e f g i, l = [a, b, c, d, e, f, g, i] := by
  match l, h with
  | [a, b, c, d, e, f, g, i], _ => exact ⟨a, b, c, d, e, f, g, i, rfl⟩
end Sc
namespace Sc
open Vbpoag
def plB (w : Bytes) : Bool := (!w.isEmpty && w.all isDigit) && ((w.head? != some 48 || w.length == 1) && decide (w.length ≤ 6))
theorem plain_eq (w : Bytes) : Vbpoag.plain 6 w = if plB w = true then some (number w) else none := by
  unfold Vbpoag.plain plB
  have : (!w.isEmpty && (decide (w.length ≤ 6) && (w.all isDigit && (w.length == 1 || w.head? != some 48)))) = ((!w.isEmpty && w.all isDigit) && ((w.head? != some 48 || w.length == 1) && decide (w.length ≤ 6))) := by
    cases w.isEmpty <;> cases decide (w.length ≤ 6) <;> cases w.all isDigit <;> cases w.length == 1 <;> cases w.head? != some 48 <;> rfl
  rw [this]
end Sc
namespace Sc
open Vbpoag
theorem head_none {ps : List (Nat × Bytes)} {j : Nat} (hj : j ∈ [1, 2, 3, 4]) (h : gp ps j = none) : pyHead ps = none := by
  unfold pyHead
  simp only [List.mem_cons, List.not_mem_nil, or_false] at hj
  rcases hj with e | e | e | e <;> subst e <;> simp [h]
theorem head_some {ps : List (Nat × Bytes)} {d n p c : Nat} (h1 : gp ps 1 = some d) (h2 : gp ps 2 = some n) (h3 : gp ps 3 = some p) (h4 : gp ps 4 = some c) : pyHead ps = some (d, n, p, c) := by
  unfold pyHead
  simp [h1, h2, h3, h4]
theorem pyNamed_none {w : Bytes} (h : pyVals (cut 59 w) [] = none) : pyNamed w = none := by
  unfold pyNamed; rw [h]
theorem pyNamed_some {w : Bytes} {ps : List (Nat × Bytes)} (h : pyVals (cut 59 w) [] = some ps) : pyNamed w = if (keysL ps).isPerm scanKeys = true ∨ (keysL ps).isPerm lookKeys = true then (pyHead ps).bind (pyRest ps ((keysL ps).isPerm lookKeys)) else none := by
  unfold pyNamed; rw [h]
theorem ps_le {ps : List (Nat × Bytes)} (nd : (ps.map fun q => q.1).Nodup) (lt : ∀ q ∈ ps, q.1 < 9) : ps.length ≤ 9 := by
  rw [length_vs nd lt]
  exact Nat.le_trans (List.length_filter_le ..) (by simp)
theorem present {ps : List (Nat × Bytes)} (nd : (ps.map fun q => q.1).Nodup) (lt : ∀ q ∈ ps, q.1 < 9) (h : (keysL ps).isPerm scanKeys = true ∨ (keysL ps).isPerm lookKeys = true) : ∀ j ∈ [0, 1, 2, 3, 4], ∃ w, getV ps j = some w := by
  rw [scan_eq nd lt, look_eq nd lt] at h
  unfold scanB lookB at h
  simp only [Bool.and_eq_true, Option.isSome_iff_exists] at h
  intro j hj
  simp only [List.mem_cons, List.not_mem_nil, or_false] at hj
  rcases h with ⟨h0, h1, h2, h3, h4, _⟩ | ⟨h0, h1, h2, h3, h4, _⟩ <;> rcases hj with e | e | e | e | e <;> subst e <;> assumption
theorem present_look {ps : List (Nat × Bytes)} (nd : (ps.map fun q => q.1).Nodup) (lt : ∀ q ∈ ps, q.1 < 9) (h : (keysL ps).isPerm lookKeys = true) : ∃ w, getV ps 8 = some w := by
  rw [look_eq nd lt] at h
  unfold lookB at h
  simp only [Bool.and_eq_true, Option.isSome_iff_exists] at h
  exact h.2.2.2.2.2.2.2
theorem present_scan {ps : List (Nat × Bytes)} (nd : (ps.map fun q => q.1).Nodup) (lt : ∀ q ∈ ps, q.1 < 9) (h : (keysL ps).isPerm scanKeys = true) : (∃ w, getV ps 5 = some w) ∧ ∃ w, getV ps 6 = some w := by
  rw [scan_eq nd lt] at h
  unfold scanB at h
  simp only [Bool.and_eq_true, Option.isSome_iff_exists] at h
  exact ⟨h.2.2.2.2.2.1, h.2.2.2.2.2.2.1⟩
theorem rest_look {ps : List (Nat × Bytes)} {d n p c : Nat} : pyRest ps true (d, n, p, c) = if getV ps 7 = none ∧ getV ps 0 = some (text "SYN") then (gp ps 8).bind fun t => checkedFact { device := d, number := n, epoch := p, clock := c, body := .sync t } else none := rfl
theorem rest_scan {ps : List (Nat × Bytes)} {d n p c : Nat} : pyRest ps false (d, n, p, c) = (gp ps 6).bind fun i => ((getV ps 0).bind codeOf).bind fun k => (pySign ps).bind fun s => ((getV ps 5).bind office).bind fun o => checkedFact { device := d, number := n, epoch := p, clock := c, body := .scan { item := i, kind := k, office := o, sign := s } } := rfl
end Sc
namespace Sc
open Vbpoag
theorem digit_char : ∀ n, n < 10 → (Nat.digitChar n).toNat = 48 + n := by decide
theorem decimal_lt {n : Nat} (h : n < 10) : decimal n = [48 + n] := by
  unfold decimal
  show ((Nat.repr n).toList.map fun c => c.toNat) = _
  unfold Nat.repr
  rw [String.toList_ofList, Nat.toDigits_of_lt_base h]
  simp [digit_char n h]
theorem decimal_ge {n : Nat} (h : 10 ≤ n) : decimal n = decimal (n / 10) ++ [48 + n % 10] := by
  unfold decimal
  show ((Nat.repr n).toList.map fun c => c.toNat) = ((Nat.repr (n / 10)).toList.map fun c => c.toNat) ++ _
  unfold Nat.repr
  rw [String.toList_ofList, String.toList_ofList, Nat.toDigits_of_base_le (by decide) h, List.map_append]
  simp [digit_char (n % 10) (by omega)]
theorem digits_zero : ∀ m, digits m 0 = List.replicate m 48
  | 0 => rfl
  | m + 1 => by
    show digits m (0 / 10) ++ [48 + 0 % 10] = _
    rw [Nat.zero_div, digits_zero m, List.replicate_succ']
theorem digits_eq : ∀ (m n : Nat), 1 ≤ m → n < 10 ^ m → digits m n = List.replicate (m - (decimal n).length) 48 ++ decimal n
  | m + 1, n, _, h => by
    show digits m (n / 10) ++ [48 + n % 10] = _
    by_cases h10 : n < 10
    · rw [decimal_lt h10, Nat.div_eq_of_lt h10, digits_zero, Nat.mod_eq_of_lt h10]
      simp
    · have hge : 10 ≤ n := by omega
      rw [decimal_ge hge, List.length_append, List.length_singleton]
      cases m with
      | zero => simp at h; omega
      | succ m =>
        have hlt : n / 10 < 10 ^ (m + 1) := by
          rw [Nat.div_lt_iff_lt_mul (by decide)]
          rw [Nat.pow_succ] at h
          exact h
        rw [digits_eq (m + 1) (n / 10) (by omega) hlt, List.append_assoc]
        congr 2
        omega
theorem decimal_len {n : Nat} (m : Nat) (hm : 1 ≤ m) (h : n < 10 ^ m) : (decimal n).length ≤ m := by
  induction m generalizing n with
  | zero => omega
  | succ m ih =>
    by_cases h10 : n < 10
    · rw [decimal_lt h10]; simp
    · rw [decimal_ge (by omega), List.length_append, List.length_singleton]
      cases m with
      | zero => simp at h; omega
      | succ m =>
        have : n / 10 < 10 ^ (m + 1) := by
          rw [Nat.div_lt_iff_lt_mul (by decide)]
          rw [Nat.pow_succ] at h
          exact h
        have := ih (by omega) this
        omega
theorem digits_len : ∀ (m n : Nat), (digits m n).length = m
  | 0, _ => rfl
  | m + 1, n => by
    show (digits m (n / 10) ++ [48 + n % 10]).length = _
    rw [List.length_append, digits_len m]; rfl
theorem joined_cons2 (s : Nat) (w v : Bytes) (l : List Bytes) : joined s (w :: v :: l) = w ++ (s :: joined s (v :: l)) := rfl
theorem joined_len (s : Nat) : ∀ (l : List Bytes) (B : Nat), (∀ w ∈ l, w.length ≤ B) → (joined s l).length ≤ l.length * (B + 1)
  | [], B, _ => by simp [joined]
  | [w], B, h => by
    have := h w (by simp)
    show w.length ≤ _
    simp
    omega
  | w :: v :: l, B, h => by
    have h1 := h w (by simp)
    have h2 := joined_len s (v :: l) B fun x hx => h x (List.mem_cons_of_mem _ hx)
    rw [joined_cons2, List.length_append, List.length_cons]
    have e : (w :: v :: l).length * (B + 1) = (v :: l).length * (B + 1) + (B + 1) := Nat.succ_mul _ _
    rw [e]
    omega
end Sc
namespace Sc
open Vbpoag
/-! ### learning -/
def newOf (l fs : List Fact) : List Fact := fs.foldl (fun new f => if l.contains f = false ∧ new.contains f = false then new ++ [f] else new) []
theorem newOf_snoc (l fs : List Fact) (f : Fact) : newOf l (fs ++ [f]) = if l.contains f = false ∧ (newOf l fs).contains f = false then newOf l fs ++ [f] else newOf l fs := by
  unfold newOf
  rw [List.foldl_append]
  rfl
theorem snoc_indL {α : Type} {P : List α → Prop} (h0 : P []) (h1 : ∀ l a, P l → P (l ++ [a])) (l : List α) : P l := by
  have key : ∀ m : List α, P m.reverse := by
    intro m
    induction m with
    | nil => exact h0
    | cons a m ih => rw [List.reverse_cons]; exact h1 _ _ ih
  have := key l.reverse
  rwa [List.reverse_reverse] at this
theorem learnAll_eq (l fs : List Fact) : learnAll l fs = l ++ newOf l fs := by
  refine snoc_indL (P := fun fs => learnAll l fs = l ++ newOf l fs) (by simp [learnAll, newOf]) (fun fs f ih => ?_) fs
  unfold learnAll at ih ⊢
  rw [List.foldl_append, ih, newOf_snoc]
  show learn (l ++ newOf l fs) f = _
  unfold learn
  rw [List.contains_append]
  by_cases h1 : l.contains f = true
  · rw [h1, Bool.true_or, if_pos rfl, if_neg (fun z => by cases z.1)]
  · have h1 : l.contains f = false := by simpa using h1
    rw [h1, Bool.false_or]
    by_cases h2 : (newOf l fs).contains f = true
    · rw [if_pos h2, h2, if_neg (fun z => by cases z.2)]
    · have h2' : (newOf l fs).contains f = false := by simpa using h2
      rw [if_neg h2, h2', if_pos ⟨rfl, rfl⟩, List.append_assoc]
theorem newOf_sub (l fs : List Fact) : ∀ f ∈ newOf l fs, f ∈ fs := by
  refine snoc_indL (P := fun fs => ∀ f ∈ newOf l fs, f ∈ fs) (by simp [newOf]) (fun fs f ih => ?_) fs
  intro g hg
  rw [newOf_snoc] at hg
  split at hg
  · rcases List.mem_append.mp hg with h | h
    · exact List.mem_append_left _ (ih g h)
    · exact List.mem_append_right _ h
  · exact List.mem_append_left _ (ih g hg)
theorem newOf_len (l fs : List Fact) : (newOf l fs).length ≤ fs.length := by
  refine snoc_indL (P := fun fs => (newOf l fs).length ≤ fs.length) (by simp [newOf]) (fun fs f ih => ?_) fs
  rw [newOf_snoc, List.length_append, List.length_singleton]
  split
  · simp only [List.length_append, List.length_singleton]; omega
  · omega
theorem learnAll_nodup {l : List Fact} (h : l.Nodup) (fs : List Fact) : (learnAll l fs).Nodup := by
  unfold learnAll
  induction fs generalizing l with
  | nil => exact h
  | cons f fs ih =>
    rw [List.foldl_cons]
    refine ih ?_
    unfold learn
    split
    · exact h
    · rename_i hc
      refine List.nodup_append.mpr ⟨h, by simp, fun a ha b hb e => ?_⟩
      rw [List.mem_singleton] at hb
      subst hb; subst e
      exact hc (by simpa using ha)
/-! ### states -/
def GoodS (s : State) : Prop := s.places.length = 3 ∧ ∀ l ∈ s.places, l.Nodup ∧ l.length ≤ 100 ∧ ∀ f ∈ l, inRange f = true
theorem good_start : GoodS start := ⟨rfl, fun l hl => by
  have : l = [] := by
    have : l ∈ List.replicate PLACES ([] : List Fact) := hl
    exact (List.mem_replicate.mp this).2
  subst this
  simp⟩
theorem factsAt_get {s : State} {p : Nat} {l : List Fact} (h : s.places[p]? = some l) : factsAt s p = l := by
  unfold factsAt
  rw [List.getD_eq_getElem?_getD, h]; rfl
theorem place_get {s : State} (h : GoodS s) {p : Int} (hp : isPlace p = true) : ∃ n : Nat, p = (n : Int) ∧ n < 3 ∧ p.toNat = n ∧ s.places[n]? = some (factsAt s n) := by
  unfold isPlace within at hp
  simp only [Bool.and_eq_true, decide_eq_true_eq] at hp
  have hn : p.toNat < 3 := by omega
  refine ⟨p.toNat, by omega, hn, rfl, ?_⟩
  have hl : p.toNat < s.places.length := by rw [h.1]; exact hn
  unfold factsAt
  rw [List.getD_eq_getElem?_getD, List.getElem?_eq_getElem hl]; rfl
theorem good_set {s : State} (h : GoodS s) {p : Nat} {l : List Fact} (hl : l.Nodup ∧ l.length ≤ 100 ∧ ∀ f ∈ l, inRange f = true) : GoodS (setFacts s p l) := by
  refine ⟨by show (s.places.set p l).length = 3; rw [List.length_set]; exact h.1, fun m hm => ?_⟩
  have hm : m ∈ s.places.set p l := hm
  rcases List.mem_or_eq_of_mem_set hm with h1 | h1
  · exact h.2 m h1
  · subst h1; exact hl
/-- what a call makes and answers -/
def neut (s : State) (c : Call) : State × List Int := ((step s c).1, (step s c).2.value :: ((step s c).2.more ++ (step s c).2.rows.flatMap fun r => (r.length : Int) :: r))
def toldL (s : State) (p : Nat) (fs : List Fact) : State × List Int := ((told s p fs).1, (told s p fs).2.value :: ((told s p fs).2.more ++ (told s p fs).2.rows.flatMap fun r => (r.length : Int) :: r))
theorem toldL_eq (s : State) (p : Nat) (fs : List Fact) : toldL s p fs = if 100 < (factsAt s p).length + (newOf (factsAt s p) fs).length then (s, [-3]) else (setFacts s p (learnAll (factsAt s p) fs), [((newOf (factsAt s p) fs).length : Int), ((learnAll (factsAt s p) fs).length : Int)]) := by
  unfold toldL told
  simp only [learnAll_eq, List.length_append]
  by_cases h : 100 < (factsAt s p).length + (newOf (factsAt s p) fs).length
  · have h' : MOST < (factsAt s p).length + (newOf (factsAt s p) fs).length := h
    simp only [if_pos h, if_pos h', no, List.append_nil, List.flatMap_nil]
  · have h' : ¬ MOST < (factsAt s p).length + (newOf (factsAt s p) fs).length := h
    simp only [if_neg h, if_neg h', List.flatMap_nil, List.append_nil]
    rw [Nat.add_sub_cancel_left]
end Sc
namespace Sc
open Vbpoag
def pyO (x0 x1 x2 x3 x4 x5 x6 x7 x8 : Option Bytes) : Option Fact :=
  if scanB x0 x1 x2 x3 x4 x5 x6 x8 = true ∨ lookB x0 x1 x2 x3 x4 x5 x6 x8 = true then
    (x1.bind (plain 6)).bind fun d => (x2.bind (plain 6)).bind fun n => (x3.bind (plain 6)).bind fun p => (x4.bind (plain 6)).bind fun c =>
      if lookB x0 x1 x2 x3 x4 x5 x6 x8 = true then
        (if x7 = none ∧ x0 = some (text "SYN") then (x8.bind (plain 6)).bind fun t => checkedFact { device := d, number := n, epoch := p, clock := c, body := .sync t } else none)
      else (x6.bind (plain 6)).bind fun i => (x0.bind codeOf).bind fun k =>
        (match x7 with
          | none => some 0
          | some w => (plain 6 w).bind fun s => if 0 < s then some s else none).bind fun s => (x5.bind office).bind fun o =>
        checkedFact { device := d, number := n, epoch := p, clock := c, body := .scan { item := i, kind := k, office := o, sign := s } }
  else none
theorem pyO_eq {vs : List (Nat × Bytes)} (nd : (vs.map fun q => q.1).Nodup) (lt : ∀ q ∈ vs, q.1 < 9) :
    (if (keysL vs).isPerm scanKeys = true ∨ (keysL vs).isPerm lookKeys = true then (pyHead vs).bind (pyRest vs ((keysL vs).isPerm lookKeys)) else none) = pyO (getV vs 0) (getV vs 1) (getV vs 2) (getV vs 3) (getV vs 4) (getV vs 5) (getV vs 6) (getV vs 7) (getV vs 8) := by
  unfold pyO
  rw [scan_eq nd lt, look_eq nd lt]
  unfold pyHead pyRest pySign gp
  simp only [Option.bind_eq_bind, Option.bind_assoc, Option.bind_some]
  all_goals rfl
/-- a part of the rule: the small number is the great one in range, or the fact is out of range -/
theorem pl1 {w : Bytes} {v : Nat} (h : plain 6 w = some v) : plain 1 w = if v < 10 then some v else none := plain_some (k := 1) (by decide) (by decide) h
theorem pl2 {w : Bytes} {v : Nat} (h : plain 6 w = some v) : plain 2 w = if v < 100 then some v else none := plain_some (k := 2) (by decide) (by decide) h
theorem pl4 {w : Bytes} {v : Nat} (h : plain 6 w = some v) : plain 4 w = if v < 10000 then some v else none := plain_some (k := 4) (by decide) (by decide) h
theorem pl5 {w : Bytes} {v : Nat} (h : plain 6 w = some v) : plain 5 w = if v < 100000 then some v else none := plain_some (k := 5) (by decide) (by decide) h
theorem cf_none {f : Fact} (h : ¬ (f.device < 10 ∧ f.number < 10000 ∧ f.epoch < 10 ∧ f.clock < 100000)) : checkedFact f = none := by
  unfold checkedFact
  refine if_neg fun q => h ?_
  unfold inRange at q
  rw [Bool.and_eq_true, decide_eq_true_eq] at q
  have := q.1
  unfold DEVICES at this
  omega
theorem cf_sync {d n p c t : Nat} (h : ¬ t < 100000) : checkedFact { device := d, number := n, epoch := p, clock := c, body := .sync t } = none := by
  unfold checkedFact
  refine if_neg fun q => h ?_
  unfold inRange at q
  rw [Bool.and_eq_true] at q
  have := q.2
  simp at this
  omega
theorem cf_item {d n p c i k o s : Nat} (h : ¬ i < 100) : checkedFact { device := d, number := n, epoch := p, clock := c, body := .scan { item := i, kind := k, office := o, sign := s } } = none := by
  unfold checkedFact
  refine if_neg fun q => h ?_
  unfold inRange at q
  rw [Bool.and_eq_true] at q
  have := q.2
  dsimp only at this
  rw [decide_eq_true_eq] at this
  unfold ITEMS at this
  omega
theorem syn_code : codeOf (text "SYN") = none := by decide
/-- the head's numbers, of both -/
theorem head_go {w1 w2 w3 w4 : Bytes} {F G : Nat → Nat → Nat → Nat → Option Fact}
    (hF : ∀ d n p c, ¬ (d < 10 ∧ n < 10000 ∧ p < 10 ∧ c < 100000) → F d n p c = none) (h : ∀ d n p c, F d n p c = G d n p c) :
    ((plain 6 w1).bind fun d => (plain 6 w2).bind fun n => (plain 6 w3).bind fun p => (plain 6 w4).bind fun c => F d n p c) =
    ((plain 1 w1).bind fun d => (plain 4 w2).bind fun n => (plain 1 w3).bind fun p => (plain 5 w4).bind fun c => G d n p c) := by
  have n1 : ∀ (o : Option Nat) (H : Nat → Option Fact), (∀ v, H v = none) → o.bind H = none := by
    intro o H hh
    cases o with
    | none => rfl
    | some v => exact hh v
  cases h1 : plain 6 w1 with
  | none => rw [plain_none (k := 1) (by decide) h1]; rfl
  | some d =>
    rw [pl1 h1]
    dsimp only [Option.bind_some]
    cases h2 : plain 6 w2 with
    | none =>
      rw [plain_none (k := 4) (by decide) h2]
      symm
      exact n1 _ _ fun v => rfl
    | some n =>
      rw [pl4 h2]
      cases h3 : plain 6 w3 with
      | none =>
        rw [plain_none (k := 1) (by decide) h3]
        symm
        exact n1 _ _ fun v => n1 _ _ fun u => rfl
      | some p =>
        rw [pl1 h3]
        cases h4 : plain 6 w4 with
        | none =>
          rw [plain_none (k := 5) (by decide) h4]
          symm
          exact n1 _ _ fun v => n1 _ _ fun u => n1 _ _ fun z => rfl
        | some c =>
          rw [pl5 h4]
          dsimp only [Option.bind_some]
          by_cases q1 : d < 10
          · by_cases q2 : n < 10000
            · by_cases q3 : p < 10
              · by_cases q4 : c < 100000
                · rw [if_pos q1, if_pos q2, if_pos q3, if_pos q4]
                  exact h d n p c
                · rw [hF d n p c (fun q => q4 q.2.2.2), if_neg q4]
                  symm
                  exact n1 _ _ fun v => n1 _ _ fun u => n1 _ _ fun z => rfl
              · rw [hF d n p c (fun q => q3 q.2.2.1), if_neg q3]
                symm
                exact n1 _ _ fun v => n1 _ _ fun u => rfl
            · rw [hF d n p c (fun q => q2 q.2.1), if_neg q2]
              symm
              exact n1 _ _ fun v => rfl
          · rw [hF d n p c (fun q => q1 q.1), if_neg q1]
            rfl
theorem num_go {k : Nat} {w : Bytes} (h1 : 1 ≤ k) (hk : k ≤ 6) {F G : Nat → Option Fact} (hF : ∀ v, ¬ v < 10 ^ k → F v = none) (h : ∀ v, F v = G v) : (plain 6 w).bind F = (plain k w).bind G := by
  cases e : plain 6 w with
  | none => rw [plain_none hk e]; rfl
  | some v =>
    rw [plain_some h1 hk e]
    by_cases q : v < 10 ^ k
    · rw [if_pos q]; exact h v
    · rw [if_neg q]; exact hF v q
theorem b_none {α β : Type} (o : Option α) : (o.bind fun _ => (none : Option β)) = none := by cases o <;> rfl
theorem py_spec (x0 x1 x2 x3 x4 x5 x6 x7 x8 : Option Bytes) :
    pyO x0 x1 x2 x3 x4 x5 x6 x7 x8 = specO x0 x1 x2 x3 x4 x5 x6 x7 x8 (b2n x0.isSome + b2n x1.isSome + b2n x2.isSome + b2n x3.isSome + b2n x4.isSome + b2n x5.isSome + b2n x6.isSome + b2n x7.isSome + b2n x8.isSome) := by
  cases x0 with
  | none => simp [pyO, specO, lookB, scanB]
  | some w0 =>
  cases x1 with
  | none => simp [pyO, specO, lookB, scanB]
  | some w1 =>
  cases x2 with
  | none => simp [pyO, specO, lookB, scanB]
  | some w2 =>
  cases x3 with
  | none => simp [pyO, specO, lookB, scanB]
  | some w3 =>
  cases x4 with
  | none => simp [pyO, specO, lookB, scanB]
  | some w4 =>
  by_cases hl : x5 = none ∧ x6 = none ∧ x8.isSome = true
  · obtain ⟨e5, e6, e8⟩ := hl
    subst e5 e6
    obtain ⟨w8, rfl⟩ := Option.isSome_iff_exists.mp e8
    unfold pyO specO
    rw [if_pos (.inr rfl)]
    simp only [bind, Option.bind_some]
    refine head_go (fun d n p c hn => ?_) fun d n p c => ?_
    · rw [if_pos (by rfl)]
      split
      · cases plain 6 w8 with
        | none => rfl
        | some t => exact cf_none hn
      · rfl
    · rw [if_pos (by rfl)]
      by_cases e : w0 = text "SYN"
      · rw [if_pos e]
        cases x7 with
        | none =>
          rw [if_pos ⟨rfl, by rw [e]⟩]
          refine num_go (k := 5) (by decide) (by decide) (fun v hv => cf_sync hv) fun v => ?_
          rw [if_pos (by rfl)]
        | some w7 =>
          rw [if_neg (fun q => by cases q.1)]
          symm
          cases plain 5 w8 with
          | none => rfl
          | some t =>
            dsimp only [Option.bind_some]
            refine if_neg fun q => ?_
            simp [b2n] at q
      · rw [if_neg e, if_neg (fun q => e (Option.some.inj q.2))]
        cases codeOf w0 <;> rfl
  · by_cases hs : x5.isSome = true ∧ x6.isSome = true ∧ x8 = none
    · obtain ⟨e5, e6, e8⟩ := hs
      subst e8
      obtain ⟨w5, rfl⟩ := Option.isSome_iff_exists.mp e5
      obtain ⟨w6, rfl⟩ := Option.isSome_iff_exists.mp e6
      unfold pyO specO
      rw [if_pos (.inl rfl)]
      simp only [bind, Option.bind_some]
      refine head_go (fun d n p c hn => ?_) fun d n p c => ?_
      · rw [if_neg (by simp [lookB])]
        cases plain 6 w6 with
        | none => rfl
        | some i =>
          cases codeOf w0 with
          | none => rfl
          | some k =>
            dsimp only [Option.bind_some]
            generalize (match x7 with | none => some 0 | some w => _ : Option Nat) = sg
            cases sg with
            | none => rfl
            | some s =>
              cases office w5 with
              | none => rfl
              | some o => exact cf_none hn
      · rw [if_neg (by simp [lookB])]
        by_cases e : w0 = text "SYN"
        · rw [if_pos e, e, syn_code]
          simp [b_none]
        · rw [if_neg e]
          cases codeOf w0 with
          | none => simp [b_none]
          | some k =>
            dsimp only [Option.bind_some]
            cases ho : office w5 with
            | none => simp [b_none]
            | some o =>
              dsimp only [Option.bind_some]
              refine num_go (k := 2) (by decide) (by decide) (fun v hv => ?_) fun i => ?_
              · generalize (match x7 with | none => some 0 | some w => _ : Option Nat) = sg
                cases sg with
                | none => rfl
                | some s => exact cf_item hv
              · cases x7 with
                | none =>
                  dsimp only
                  rw [if_pos (by rfl)]
                  rfl
                | some w7 =>
                  dsimp only
                  cases plain 6 w7 with
                  | none => rfl
                  | some s =>
                    dsimp only [Option.bind_some]
                    by_cases hz : 0 < s
                    · rw [if_pos hz, if_pos ⟨by rfl, by omega⟩]
                      rfl
                    · rw [if_neg hz, if_neg (fun q => hz (by have := q.2; omega))]
                      rfl
    · have no : ¬ (scanB (some w0) (some w1) (some w2) (some w3) (some w4) x5 x6 x8 = true ∨ lookB (some w0) (some w1) (some w2) (some w3) (some w4) x5 x6 x8 = true) := by
        cases x5 <;> cases x6 <;> cases x8 <;> simp_all [scanB, lookB]
      unfold pyO
      rw [if_neg no]
      symm
      unfold specO
      simp only [bind, Option.bind_some]
      have zn : ∀ (o : Option Nat) (H : Nat → Option Fact), (∀ v, H v = none) → o.bind H = none := by
        intro o H hh
        cases o with
        | none => rfl
        | some v => exact hh v
      refine zn _ _ fun d => zn _ _ fun n => zn _ _ fun p => zn _ _ fun c => ?_
      by_cases e : w0 = text "SYN"
      · rw [if_pos e]
        cases x8 with
        | none => rfl
        | some w8 =>
          refine zn _ _ fun t => if_neg fun q => ?_
          cases x5 <;> cases x6 <;> cases x7 <;> simp_all [b2n]
      · rw [if_neg e]
        refine zn _ _ fun k => ?_
        cases x5 with
        | none => rfl
        | some w5 =>
          refine zn _ _ fun o => ?_
          cases x6 with
          | none => rfl
          | some w6 =>
            refine zn _ _ fun i => ?_
            cases x7 with
            | none =>
              refine if_neg fun q => ?_
              cases x8 <;> simp_all [b2n]
            | some w7 =>
              refine zn _ _ fun s => if_neg fun q => ?_
              cases x8 <;> simp_all [b2n]
/-! ### values with a colon, keys that are unknown -/
theorem plain_colon {k : Nat} {w : Bytes} (h : 58 ∈ w) : plain k w = none := by
  cases e : plain k w with
  | none => rfl
  | some v =>
    have := plain_digits e 58 h
    omega
theorem code_colon {w : Bytes} (h : 58 ∈ w) : codeOf w = none := by
  cases e : codeOf w with
  | none => rfl
  | some v =>
    exfalso
    unfold codeOf at e
    obtain ⟨h1, h2, _⟩ := List.findIdx?_eq_some_iff_getElem.mp e
    have h2 : CODES[v] = w := by simpa using h2
    have : ∀ c ∈ CODES, 58 ∉ c := by decide
    exact this _ (List.getElem_mem h1) (h2 ▸ h)
theorem office_colon {w : Bytes} (h : 58 ∈ w) : office w = none := by
  unfold office
  split
  · rename_i c
    refine if_neg fun q => ?_
    have : 58 = c := by simpa using h
    omega
  · rfl
theorem syn_colon {w : Bytes} (h : 58 ∈ w) : w ≠ text "SYN" := by
  rintro rfl
  revert h
  decide
theorem pyO_colon {x0 x1 x2 x3 x4 x5 x6 x7 x8 : Option Bytes} {w : Bytes} (h : 58 ∈ w) (hx : x0 = some w ∨ x1 = some w ∨ x2 = some w ∨ x3 = some w ∨ x4 = some w ∨ x5 = some w ∨ x6 = some w ∨ x7 = some w ∨ x8 = some w) : pyO x0 x1 x2 x3 x4 x5 x6 x7 x8 = none := by
  unfold pyO
  have zn : ∀ {α β : Type} (o : Option α) (H : α → Option β), (∀ v, H v = none) → o.bind H = none := by
    intro α β o H hh
    cases o with
    | none => rfl
    | some v => exact hh v
  have p6 := plain_colon (k := 6) h
  split
  · rename_i hc
    rcases hx with e | e | e | e | e | e | e | e | e <;> subst e
    · refine zn _ _ fun d => zn _ _ fun n => zn _ _ fun p => zn _ _ fun c => ?_
      split
      · exact if_neg fun q => syn_colon h (Option.some.inj q.2)
      · refine zn _ _ fun i => ?_
        simp [code_colon h]
    · simp [p6]
    · refine zn _ _ fun d => ?_
      simp [p6]
    · refine zn _ _ fun d => zn _ _ fun n => ?_
      simp [p6]
    · refine zn _ _ fun d => zn _ _ fun n => zn _ _ fun p => ?_
      simp [p6]
    · refine zn _ _ fun d => zn _ _ fun n => zn _ _ fun p => zn _ _ fun c => ?_
      rw [if_neg (by simp [lookB])]
      refine zn _ _ fun i => zn _ _ fun k => zn _ _ fun s => ?_
      simp [office_colon h]
    · refine zn _ _ fun d => zn _ _ fun n => zn _ _ fun p => zn _ _ fun c => ?_
      rw [if_neg (by simp [lookB])]
      simp [p6]
    · refine zn _ _ fun d => zn _ _ fun n => zn _ _ fun p => zn _ _ fun c => ?_
      split
      · exact if_neg fun q => by cases q.1
      · refine zn _ _ fun i => zn _ _ fun k => ?_
        simp [p6]
    · refine zn _ _ fun d => zn _ _ fun n => zn _ _ fun p => zn _ _ fun c => ?_
      split
      · split
        · simp [p6]
        · rfl
      · rename_i hn
        rcases hc with q | q
        · simp [scanB] at q
        · exact absurd q hn
  · rfl
theorem nd_len {α : Type} [BEq α] [LawfulBEq α] : ∀ {A B : List α}, A.Nodup → (∀ x ∈ A, x ∈ B) → A.length ≤ B.length
  | [], B, _, _ => Nat.zero_le _
  | a :: r, B, nd, h => by
    obtain ⟨n1, n2⟩ := (List.nodup_cons.mp nd)
    have ha := h a (by simp)
    have ih := nd_len (A := r) (B := B.erase a) n2 fun x hx => by
      have ne : x ≠ a := fun e => n1 (e ▸ hx)
      exact (List.mem_erase_of_ne ne).mpr (h x (List.mem_cons_of_mem _ hx))
    rw [List.length_erase_of_mem ha] at ih
    have := List.length_pos_of_mem ha
    simp
    omega
theorem value_key {ps : List (Bytes × Bytes)} {k : String} {w : Bytes} (h : valueOf ps k = some w) : text k ∈ ps.map fun q => q.1 := by
  unfold valueOf at h
  cases e : ps.find? fun p => p.1 == text k with
  | none => (rw [e] at h; cases h)
  | some q =>
    have m := List.mem_of_find?_eq_some e
    have z : q.1 = text k := by simpa using List.find?_some e
    exact z ▸ List.mem_map.mpr ⟨q, m, rfl⟩
theorem number_key {ps : List (Bytes × Bytes)} {k : String} {n v : Nat} (h : numberAt ps k n = some v) : text k ∈ ps.map fun q => q.1 := by
  unfold numberAt at h
  cases e : valueOf ps k with
  | none => (rw [e] at h; cases h)
  | some w => exact value_key e
/-- a line that is read has no name that is unknown -/
theorem full_keys {K N : List Bytes} (hN : N.Nodup) (hs : ∀ k ∈ N, k ∈ K) (hk : ∀ k ∈ N, k ∈ keyNames) {u : Bytes} (hu : u ∈ K) (nu : u ∉ keyNames) : N.length + 1 ≤ K.length := by
  refine nd_len (A := u :: N) (List.nodup_cons.mpr ⟨fun q => nu (hk u q), hN⟩) fun x hx => ?_
  rcases List.mem_cons.mp hx with e | e
  · exact e ▸ hu
  · exact hs x e
theorem spec_unknown {ps : List (Bytes × Bytes)} {u : Bytes} (hu : u ∈ ps.map fun q => q.1) (nu : u ∉ keyNames) : specRest ps = none := by
  have L : (ps.map fun q => q.1).length = ps.length := List.length_map ..
  unfold specRest
  cases h0 : valueOf ps "EVT" with
  | none => rfl
  | some e =>
  cases h1 : numberAt ps "DEV" 1 with
  | none => rfl
  | some d =>
  cases h2 : numberAt ps "SEQ" 4 with
  | none => rfl
  | some n =>
  cases h3 : numberAt ps "EPO" 1 with
  | none => rfl
  | some p =>
  cases h4 : numberAt ps "CLK" 5 with
  | none => rfl
  | some c =>
  simp only [bind, Option.bind_some]
  by_cases q : e = text "SYN"
  · rw [if_pos q]
    cases h5 : numberAt ps "TRU" 5 with
    | none => rfl
    | some t =>
      refine if_neg fun z => ?_
      have := full_keys (K := ps.map fun q => q.1) (N := [text "EVT", text "DEV", text "SEQ", text "EPO", text "CLK", text "TRU"]) (by decide) (by
        intro k hk
        simp only [List.mem_cons, List.not_mem_nil, or_false] at hk
        rcases hk with rfl | rfl | rfl | rfl | rfl | rfl
        · exact value_key h0
        · exact number_key h1
        · exact number_key h2
        · exact number_key h3
        · exact number_key h4
        · exact number_key h5) (by decide) hu nu
      rw [L, z] at this
      simp at this
  · rw [if_neg q]
    cases codeOf e with
    | none => rfl
    | some k =>
    cases h5 : valueOf ps "OFF" with
    | none => rfl
    | some w5 =>
    simp only [Option.bind_some]
    cases office w5 with
    | none => rfl
    | some o =>
    cases h6 : numberAt ps "ITM" 2 with
    | none => rfl
    | some i =>
    have seven := full_keys (K := ps.map fun q => q.1) (N := [text "EVT", text "DEV", text "SEQ", text "EPO", text "CLK", text "OFF", text "ITM"]) (by decide) (by
        intro k hk
        simp only [List.mem_cons, List.not_mem_nil, or_false] at hk
        rcases hk with rfl | rfl | rfl | rfl | rfl | rfl | rfl
        · exact value_key h0
        · exact number_key h1
        · exact number_key h2
        · exact number_key h3
        · exact number_key h4
        · exact value_key h5
        · exact number_key h6) (by decide) hu nu
    simp only [Option.bind_some]
    cases h7 : valueOf ps "SIG" with
    | none =>
      refine if_neg fun z => ?_
      rw [L, z] at seven
      simp at seven
    | some w =>
      dsimp only
      cases plain 6 w with
      | none => rfl
      | some s =>
      refine if_neg fun z => ?_
      have := full_keys (K := ps.map fun q => q.1) (N := [text "EVT", text "DEV", text "SEQ", text "EPO", text "CLK", text "OFF", text "ITM", text "SIG"]) (by decide) (by
        intro k hk
        simp only [List.mem_cons, List.not_mem_nil, or_false] at hk
        rcases hk with rfl | rfl | rfl | rfl | rfl | rfl | rfl | rfl
        · exact value_key h0
        · exact number_key h1
        · exact number_key h2
        · exact number_key h3
        · exact number_key h4
        · exact value_key h5
        · exact number_key h6
        · exact value_key h7) (by decide) hu nu
      rw [L, z.1] at this
      simp at this
theorem named_eq (l : Bytes) : pyNamed l = otherRead l := by
  rw [otherRead_eq]
  unfold pyNamed
  cases h : pyVals (cut 59 l) [] with
  | none =>
    dsimp only
    rcases pyVals_none _ _ h with e | ⟨abs, e, z⟩
    · rw [e]
    · rw [e]
      dsimp only
      split
      · rfl
      · split
        · rfl
        · rename_i ko
          rcases z with ⟨ab, hab, nu⟩ | z
          · exact (spec_unknown (List.mem_map.mpr ⟨ab, hab, rfl⟩) nu).symm
          · exfalso
            apply z
            have ko : keysOnce abs = true := by simpa using ko
            simpa using (keysOnce_iff abs).mp ko
  | some vs =>
    obtain ⟨new, e1, e2, nd, lt⟩ := pyVals_some _ _ _ h (by simp) (by simp)
    have e1 : vs = new := by simpa using e1
    subst e1
    rw [e2]
    dsimp only
    rw [pyO_eq nd lt]
    by_cases hc : ((vs.map fun q => (nm q.1, q.2)).any fun q => decide (58 ∈ q.2)) = true
    · rw [if_pos hc]
      obtain ⟨x, hx, z⟩ := List.any_eq_true.mp hc
      obtain ⟨y, hy, e⟩ := List.mem_map.mp hx
      subst e
      have z : 58 ∈ y.2 := by simpa using z
      have g := getV_of nd (j := y.1) (b := y.2) hy
      refine pyO_colon z ?_
      have l9 := lt y hy
      have : y.1 = 0 ∨ y.1 = 1 ∨ y.1 = 2 ∨ y.1 = 3 ∨ y.1 = 4 ∨ y.1 = 5 ∨ y.1 = 6 ∨ y.1 = 7 ∨ y.1 = 8 := by omega
      rcases this with k | k | k | k | k | k | k | k | k <;> rw [k] at g <;> simp [g]
    · rw [if_neg hc]
      have ko : keysOnce (vs.map fun q => (nm q.1, q.2)) = true := by
        rw [keysOnce_iff, List.map_map]
        have : ((fun q : Bytes × Bytes => q.1) ∘ fun q : Nat × Bytes => (nm q.1, q.2)) = nm ∘ fun q => q.1 := rfl
        rw [this, ← List.map_map]
        rw [List.nodup_iff_pairwise_ne, List.pairwise_map]
        have nd := List.nodup_iff_pairwise_ne.mp nd
        refine List.Pairwise.imp_of_mem (fun {a b} ha hb ne e => ?_) nd
        obtain ⟨x, hx, rfl⟩ := List.mem_map.mp ha
        obtain ⟨y, hy, rfl⟩ := List.mem_map.mp hb
        exact ne (nm_inj _ (lt x hx) _ (lt y hy) e)
      rw [if_neg (by rw [ko]; decide), specRest_eq lt, length_eq nd lt]
      exact py_spec _ _ _ _ _ _ _ _ _
end Sc
namespace Sc
open Vbpoag
/-- what comes out is within its ranges -/
def InR (o : Option Fact) : Prop := ∀ f, o = some f → inRange f = true
theorem InR.none : InR none := fun _ h => by cases h
theorem InR.checked (f : Fact) : InR (checkedFact f) := fun g h => by
  unfold checkedFact at h
  split at h
  · rename_i hr
    cases h
    exact hr
  · cases h
theorem InR.bind {α : Type} {o : Option α} {k : α → Option Fact} (h : ∀ a, InR (k a)) : InR (o.bind k) := by
  cases o with
  | none => exact InR.none
  | some a => exact h a
theorem InR.ite {c : Prop} [Decidable c] {x y : Option Fact} (hx : InR x) (hy : InR y) : InR (if c then x else y) := by
  split
  · exact hx
  · exact hy
theorem first_in (l : Bytes) : InR (firstRead l) := by
  unfold firstRead
  split
  · refine InR.bind fun d => InR.bind fun n => InR.bind fun e => InR.bind fun t => ?_
    split
    · exact InR.bind fun i => InR.bind fun c => InR.bind fun o => InR.bind fun s => InR.checked _
    · exact InR.ite (InR.bind fun u => InR.checked _) InR.none
    · exact InR.none
  · exact InR.none
theorem other_in (l : Bytes) : InR (otherRead l) := by
  unfold otherRead
  refine InR.bind fun ps => ?_
  refine InR.ite InR.none ?_
  refine InR.bind fun e => InR.bind fun d => InR.bind fun n => InR.bind fun p => InR.bind fun c => ?_
  refine InR.ite (InR.bind fun t => InR.ite (InR.checked _) InR.none) ?_
  refine InR.bind fun k => InR.bind fun o => InR.bind fun i => ?_
  split
  · exact InR.ite (InR.checked _) InR.none
  · exact InR.bind fun s => InR.ite (InR.checked _) InR.none
theorem line_in (form : Nat) (l : Bytes) : InR (readLine form l) := InR.ite (first_in l) (other_in l)
theorem from_in (form : Nat) : ∀ (ls : List Bytes) (n : Nat) (fs : List Fact), readFrom form n ls = .ok fs → ∀ f ∈ fs, inRange f = true
  | [], n, fs, h => by
    rw [readFrom] at h
    cases h
    simp
  | l :: r, n, fs, h => by
    rw [readFrom] at h
    by_cases he : l.isEmpty = true
    · rw [if_pos he] at h
      exact from_in form r (n + 1) fs h
    · rw [if_neg he] at h
      cases hl : readLine form l with
      | none => (rw [hl] at h; cases h)
      | some f =>
        rw [hl] at h
        dsimp only at h
        cases hr : readFrom form (n + 1) r with
        | error e => rw [hr] at h; cases h
        | ok gs =>
          rw [hr] at h
          cases h
          intro g hg
          rcases List.mem_cons.mp hg with e | e
          · rw [e]; exact line_in form l f hl
          · exact from_in form r (n + 1) gs hr g e
theorem pyNamed_eq (l : Bytes) : pyNamed l = otherRead l := named_eq l
end Sc
namespace Sc
open Vbpoag
theorem standing_none {fs : List Fact} {i : Nat} (h : ∀ f ∈ fs, isScanOf i f = false) : standing fs i = nothing := by
  have : eventsOf fs i = [] := by
    cases he : eventsOf fs i with
    | nil => rfl
    | cons e r =>
      have hm : e ∈ eventsOf fs i := by rw [he]; simp
      obtain ⟨f, hf, hs, _⟩ := (mem_events fs i e).mp hm
      rw [h f hf] at hs
      cases hs
  unfold standing
  rw [this]
  rfl
theorem isScan_item {f : Fact} {i : Nat} (h : isScanOf i f = true) : isScan f = true ∧ itemOf f = i := by
  unfold isScanOf at h
  unfold isScan itemOf
  cases hb : f.body with
  | scan x => rw [hb] at h; exact ⟨rfl, by simpa using h⟩
  | sync t => rw [hb] at h; cases h
theorem alike_all {L M : List Fact} (hr : ∀ f ∈ L ++ M, itemOf f ≤ 99) : ((itemsOf (L ++ M)).all fun i => decide (standing L i = standing M i)) = ((List.range (ITEMS + 1)).all fun i => decide (standing L i = standing M i)) := by
  refine bool_eq_of_iff ?_
  rw [List.all_eq_true, List.all_eq_true]
  constructor
  · intro h i hi
    by_cases hm : i ∈ itemsOf (L ++ M)
    · exact h i hm
    · have hn : ∀ f ∈ L ++ M, isScanOf i f = false := fun f hf => by
        cases hs : isScanOf i f with
        | false => rfl
        | true =>
          obtain ⟨h1, h2⟩ := isScan_item hs
          exact absurd ((mem_items _ hr i).mpr ⟨f, hf, h1, h2⟩) hm
      rw [standing_none fun f hf => hn f (List.mem_append_left _ hf), standing_none fun f hf => hn f (List.mem_append_right _ hf)]
      exact decide_eq_true rfl
  · intro h i hi
    refine h i ?_
    unfold itemsOf at hi
    exact (List.mem_filter.mp hi).1
theorem same_perm {L M : List Fact} (hL : L.Nodup) (hM : M.Nodup) : sameSet L M = true ↔ L.Perm M := by
  unfold sameSet
  rw [Bool.and_eq_true, List.all_eq_true, List.all_eq_true, List.perm_ext_iff_of_nodup hL hM]
  simp only [List.contains_iff_mem]
  exact ⟨fun h a => ⟨h.1 a, h.2 a⟩, fun h => ⟨fun a => (h a).mp, fun a => (h a).mpr⟩⟩
def knownOf (l : List Fact) (d : Nat) : List Nat := (l.filter fun f => f.device == d).map fun f => f.number
theorem max_le : ∀ (l : List Nat) (a : Nat), a ≤ l.foldl max a ∧ ∀ x ∈ l, x ≤ l.foldl max a
  | [], a => ⟨Nat.le_refl _, fun x hx => by cases hx⟩
  | y :: l, a => by
    obtain ⟨h1, h2⟩ := max_le l (max a y)
    rw [List.foldl_cons]
    refine ⟨by omega, fun x hx => ?_⟩
    rcases List.mem_cons.mp hx with e | e
    · subst e; omega
    · exact h2 x e
theorem max_mem : ∀ (l : List Nat) (a : Nat), l.foldl max a = a ∨ l.foldl max a ∈ l
  | [], a => .inl rfl
  | y :: l, a => by
    rw [List.foldl_cons]
    rcases max_mem l (max a y) with h | h
    · rw [h]
      by_cases c : a ≤ y
      · rw [Nat.max_eq_right c]; exact .inr (by simp)
      · rw [Nat.max_eq_left (by omega)]; exact .inl rfl
    · exact .inr (List.mem_cons_of_mem _ h)
theorem max_is {l : List Nat} {m : Int} (h1 : m ∈ (0 : Int) :: l.map fun (n : Nat) => (n : Int)) (h2 : ∀ y ∈ (0 : Int) :: l.map fun (n : Nat) => (n : Int), y ≤ m) : m = ((l.foldl max 0 : Nat) : Int) := by
  obtain ⟨_, hle⟩ := max_le l 0
  have h0 : (0 : Int) ≤ m := h2 0 (by simp)
  have hm : m ≤ ((l.foldl max 0 : Nat) : Int) := by
    rcases (List.mem_cons.mp h1) with e | e
    · subst e; omega
    · obtain ⟨n, hn, rfl⟩ := List.mem_map.mp e
      have := hle n hn
      omega
  have hM : ((l.foldl max 0 : Nat) : Int) ≤ m := by
    rcases max_mem l 0 with e | e
    · rw [e]; exact h0
    · exact h2 _ (List.mem_cons_of_mem _ (List.mem_map.mpr ⟨_, e, rfl⟩))
  omega
theorem missing_eq (l : List Fact) (d : Nat) : missingOf l d = (List.range' 1 ((knownOf l d).foldl max 0 - 1)).filter fun n => !(knownOf l d).contains n := by
  have : missingOf l d = (List.range ((knownOf l d).foldl max 0)).filter fun n => 1 ≤ n && !(knownOf l d).contains n := rfl
  rw [this]
  generalize (knownOf l d).foldl max 0 = M
  generalize knownOf l d = K
  cases M with
  | zero => rfl
  | succ m =>
    rw [List.range_eq_range', List.range'_succ, List.filter_cons, Nat.zero_add, Nat.add_sub_cancel]
    simp only [Nat.not_le, Nat.lt_one_iff, decide_false, Bool.false_and, Bool.false_eq_true, if_false, show decide (1 ≤ 0) = false from rfl]
    refine List.filter_congr fun x hx => ?_
    have hx : 1 ≤ x := (List.mem_range'_1.mp hx).1
    simp [hx]
def rowE (odd : List Nat) (y : Event × Nat) : List Int := [y.1.time, (y.1.kind : Int), (y.1.office : Int), (y.1.device : Int), (y.1.number : Int), (y.1.sign : Int), if odd.contains y.2 = true then 1 else 0]
end Sc
namespace Sc
open PySem PySem.Spec PyProof.Rows L2
open C8 (Cal Met Mak pe_c pe_mk pe_mt pe_mt0 pe_gc)
/-! ### what stands stays -/
theorem sq_same {K : PySem.W.Frag} {H H' : Hp} {a : Addr} {xs : List V} (e : Same H H') (h : SqT K H a xs) : SqT K H' a xs := by
  obtain (h | ⟨o, h⟩) | h := h
  · exact .inl (.inl (e _ _ h))
  · exact (.inl (.inr ⟨o, e _ _ h⟩))
  · exact .inr h
mutual
theorem dp_same {K : PySem.W.Frag} {H H' : Hp} (e : Same H H') : ∀ (d : PyData) (v : V), Dp K H v d → Dp K H' v d
  | .none, _, h => by cases h; exact .non
  | .bool _, _, h => by cases h; exact .bl _
  | .int _, _, h => by cases h; exact .int _
  | .str _, _, h => by cases h; exact .str _
  | .list ds, _, h => by cases h with | lst h1 h2 => exact .lst (e.seq h1) (dpAll_same e ds _ h2)
  | .tuple ds, _, h => by cases h with | tup h1 h2 => exact .tup (sq_same e h1) (dpAll_same e ds _ h2)
  | .dict _, _, h => by cases h
theorem dpAll_same {K : PySem.W.Frag} {H H' : Hp} (e : Same H H') : ∀ (ds : List PyData) (vs : List V), DpAll K H vs ds → DpAll K H' vs ds
  | [], _, h => by cases h; exact .nil
  | d :: ds, _, h => by cases h with | cons h1 h2 => exact .cons (dp_same e d _ h1) (dpAll_same e ds _ h2)
end
theorem Same.dp {K : PySem.W.Frag} {H H' : Hp} {v : V} {d : PyData} (e : Same H H') (h : Dp K H v d) : Dp K H' v d := dp_same e d v h
theorem Same.dpAll {K : PySem.W.Frag} {H H' : Hp} {vs : List V} {ds : List PyData} (e : Same H H') (h : DpAll K H vs ds) : DpAll K H' vs ds := dpAll_same e ds vs h
/-- a new object beside what stands -/
theorem same_new {H : Hp} {p : Addr} {o : HO} (h : H p = none) : Same H (upd H p o) := fun b u e => by rw [upd_ne (ne_of_none e h)]; exact e
/-- a write to what was not there at the start -/
theorem same_upd {H0 H : Hp} {l : Addr} {o : HO} (s : Same H0 H) (h : H0 l = none) : Same H0 (upd H l o) := fun b u e => by rw [upd_ne (ne_of_none e h)]; exact s b u e
/-- a tuple stays where a list is written -/
theorem tup_upd {H : Hp} {a l : Addr} {xs ys : List V} {o : HO} (h : H a = some (.tup xs)) (hl : H l = some (.lst ys)) : upd H l o a = some (.tup xs) := by
  rw [upd_ne (ne_of h hl (by intro z; cases z))]; exact h
theorem dpAll_len {K : PySem.W.Frag} {H : Hp} : ∀ {vs : List V} {ds : List PyData}, DpAll K H vs ds → vs.length = ds.length
  | _, _, .nil => rfl
  | _, _, .cons _ t => by rw [List.length_cons, List.length_cons, dpAll_len t]
theorem dpAll_get {K : PySem.W.Frag} {H : Hp} : ∀ {vs : List V} {ds : List PyData} {i : Nat} {d : PyData}, DpAll K H vs ds → ds[i]? = some d → ∃ v, vs[i]? = some v ∧ Dp K H v d
  | _, _, _, _, .nil, e => (by simp at e)
  | _, _, 0, _, .cons h _, e => by simp at e; subst e; exact ⟨_, rfl, h⟩
  | _, _, i + 1, d, .cons _ t, e => by
    obtain ⟨v, h1, h2⟩ := dpAll_get (i := i) (d := d) t (by simpa using e)
    exact ⟨v, by simpa using h1, h2⟩
theorem dpAll_getV {K : PySem.W.Frag} {H : Hp} : ∀ {vs : List V} {ds : List PyData} {i : Nat} {v : V}, DpAll K H vs ds → vs[i]? = some v → ∃ d, ds[i]? = some d ∧ Dp K H v d
  | _, _, _, _, .nil, e => (by simp at e)
  | _, _, 0, _, .cons h _, e => by simp at e; subst e; exact ⟨_, rfl, h⟩
  | _, _, i + 1, d, .cons _ t, e => by
    obtain ⟨v, h1, h2⟩ := dpAll_getV (i := i) (v := d) t (by simpa using e)
    exact ⟨v, by simpa using h1, h2⟩
theorem dpAll_app {K : PySem.W.Frag} {H : Hp} : ∀ {vs us : List V} {ds es : List PyData}, DpAll K H vs ds → DpAll K H us es → DpAll K H (vs ++ us) (ds ++ es)
  | _, _, _, _, .nil, s => s
  | _, _, _, _, .cons r t, s => .cons r (dpAll_app t s)
theorem dpAll_ints {K : PySem.W.Frag} {H : Hp} : ∀ (ns : List Int), DpAll K H (ns.map V.int) (ns.map PyData.int)
  | [] => .nil
  | n :: ns => .cons (.int n) (dpAll_ints ns)
theorem dpAll_ints_inv {K : PySem.W.Frag} {H : Hp} : ∀ {ns : List Int} {vs : List V}, DpAll K H vs (ns.map PyData.int) → vs = ns.map V.int
  | [], _, h => by cases h; rfl
  | n :: ns, _, h => by
    cases h with
    | cons h1 h2 =>
      cases h1
      rw [dpAll_ints_inv h2]
      rfl
theorem dpAll_zip {K : PySem.W.Frag} {H : Hp} : ∀ {vs : List V} {ds : List PyData}, DpAll K H vs ds → ∀ p ∈ vs.zip ds, Dp K H p.1 p.2
  | _, _, .nil, p, h => by simp at h
  | _, _, .cons r t, p, h => by
    rw [List.zip_cons_cons] at h
    rcases (List.mem_cons.mp h) with e | e
    · subst e; exact r
    · exact dpAll_zip t p e
theorem dpAll_of {K : PySem.W.Frag} {H : Hp} : ∀ {zs : List (V × PyData)}, (∀ p ∈ zs, Dp K H p.1 p.2) → DpAll K H (zs.map Prod.fst) (zs.map Prod.snd)
  | [], _ => .nil
  | z :: zs, h => .cons (h z (by simp)) (dpAll_of fun p hp => h p (List.mem_cons_of_mem _ hp))
/-- a tuple of ints -/
def tupI (ns : List Int) : PyData := .tuple (ns.map .int)
def lstI (ns : List Int) : PyData := .list (ns.map .int)
theorem dp_tupI {K : PySem.W.Frag} {H : Hp} {v : V} {ns : List Int} (h : Dp K H v (tupI ns)) : ∃ a, v = .ref a ∧ SqT K H a (ns.map V.int) := by
  unfold tupI at h
  cases h with
  | tup h1 h2 => rw [dpAll_ints_inv h2] at h1; exact ⟨_, rfl, h1⟩
theorem dp_lstI {K : PySem.W.Frag} {H : Hp} {v : V} {ns : List Int} (h : Dp K H v (lstI ns)) : ∃ a, v = .ref a ∧ SqL K H a (ns.map V.int) := by
  unfold lstI at h
  cases h with
  | lst h1 h2 => rw [dpAll_ints_inv h2] at h1; exact ⟨_, rfl, h1⟩
theorem tupI_dp {K : PySem.W.Frag} {H : Hp} {a : Addr} {ns : List Int} (h : SqT K H a (ns.map V.int)) : Dp K H (.ref a) (tupI ns) := .tup h (dpAll_ints ns)
theorem lstI_dp {K : PySem.W.Frag} {H : Hp} {a : Addr} {ns : List Int} (h : SqL K H a (ns.map V.int)) : Dp K H (.ref a) (lstI ns) := .lst h (dpAll_ints ns)
/-! ### defs that may raise, by name -/
structure CalX (P : Program) (w : World) (K : PySem.W.Frag) (mg : Str → Option Value) (base : Heap) (k : Nat) (x : Str) (sp : Sp) : Prop where
  ex : ∃ (f : Addr) (fd : FuncData) (ps : List Str), FnOk P w K mg base (L2.CX P w) k f fd ps sp ∧ mg x = some (.ref f) ∧ PySem.W.keepIn K (.ref f) = true ∧ Binds K fd ps []
structure MetX (P : Program) (w : World) (K : PySem.W.Frag) (mg : Str → Option Value) (base : Heap) (k : Nat) (C : Addr) (m : Str) (sp : Sp) : Prop where
  ex : ∃ (f : Addr) (fd : FuncData) (ps : List Str), Cls K C ∧ Meth K C m f ∧ FnOk P w K mg base (L2.CX P w) k f fd ps sp ∧ Binds K fd ps []
def tMetX (C : Addr) (m : Str) (sp : Sp) (E : L2.St → XK) (ta : TE) (t : TA) : TE := fun σ H Q => ta σ H fun x H1 => ∃ a dx fs, x = .ref a ∧ H1 a = some (.ins C dx fs) ∧ fs.lookup m = none ∧ t σ H1 fun vs H2 => sp (x :: vs) H2 Q (E σ)
section
variable {X : Cx} {k j : Nat} {C : Addr} {x m : Str} {sp : Sp} {E : L2.St → XK} {p pos apos : Pos} {e o : Expr} {es : List Expr} {ta : TE} {t : TA}
theorem pe_cx (c : CalX X.prog X.w X.K X.mg X.base k x sp) (hr : Room j X.A) (hk : k ≤ j) (hg : Gl X x) (hx : ∀ σ, PassesAt (L2.CX X.prog X.w) X σ (E σ)) (ha : PA X (e :: es) t) (hdb : (x == ("__debug__" : Str)) = false := by decide) (he : starEach (e :: es) X.env = (false, eval e X.env) :: starEach es X.env := by rfl) (hpl : (backTo pos (starEach es X.env)).any (·.1) = false := by rfl) : PE X (.Call (.Name x p) (e :: es) [] pos) (tCallS sp E t) := by
  obtain ⟨f, fd, ps, F, hm, kp, b⟩ := c.ex
  exact pe_callS F (hr.mono hk) hg hm kp b hx ha hdb he hpl
theorem pe_mx {pl : Sem Bool} (c : MetX X.prog X.w X.K X.mg X.base k C m sp) (hr : Room j X.A) (hk : k ≤ j) (hx : ∀ σ, PassesAt (L2.CX X.prog X.w) X σ (E σ)) (he : PE X o ta) (ha : PA X (e :: es) t)
    (hst : starEach (e :: es) X.env = (false, eval e X.env) :: starEach es X.env := by rfl) (hpl : (backTo pos (starEach es X.env)).any (·.1) = false := by rfl)
    (ht : eval (.Call (.Attribute o m apos) (e :: es) [] pos) X.env = (do
      let ov ← eval o X.env
      standAt apos.atName
      let (f, first) ← holding [ov] (getMethod ov m pl)
      callWith pos f first (backTo pos (starEach (e :: es) X.env)) (backToKw pos (keywordEach [] X.env))) := by rfl) :
    PE X (.Call (.Attribute o m apos) (e :: es) [] pos) (tMetX C m sp E ta t) := by
  obtain ⟨f, fd, ps, hc, hm, F, b⟩ := c.ex
  refine ⟨fun pins s σ H Q I h => PySem.W.methodCall_KW (pl := pl) (thn (he.run pins s σ H _ I h) fun u s1 hh => ?_) ht⟩
  obtain ⟨y, H1, I1, ry, a, dx, fs, ex, ea, l, q⟩ := hh
  subst ex
  have eu : u = Value.ref a := ry; subst eu
  refine getmeth_ok I1 ea hc hm l (PySem.W.callWith_K (first := [.ref a]) (h₀ := X.base) I.ok.mod.kin hm.kp ?_ hst hpl)
  refine thn (ha.run pos pins s1 σ H1 _ I1 q) fun us s2 hh => ?_
  obtain ⟨vs, H2, I2, r, q2⟩ := hh
  exact ⟨I2.kIn, run_fnS (us := .ref a :: us) (vs := .ref a :: vs) F (hr.mono hk) b (hx σ) I2 (.cons rfl r) q2⟩
theorem pe_mk0 (c : Mak X.prog X.w X.K X.mg X.base k x C sp []) (hr : Room j X.A) (hk : k + 1 ≤ j) (hg : Gl X x) (hdb : (x == ("__debug__" : Str)) = false := by decide) :
    PE X (.Call (.Name x p) [] [] pos) (tMake C sp [] E0 tNil) := by
  obtain ⟨f, fd, ps, ds, mk, F, hm, b, d⟩ := c.ex
  exact pe_make0 mk F (hr.mono hk) hg hm b d pass0 hdb
end
/-! ### sorted, of data of any kind and length -/
def rSrt (K : PySem.W.Frag) : List V → Hp → VK → Prop := fun vs H Q => ∃ (a : Addr) (xs : List V) (ds : List PyData), vs = [V.ref a] ∧ SqL K H a xs ∧ DpAll K H xs ds ∧ PySem.W.AllAlike ds ∧ PySem.W.Sortable ds ∧ (∀ d ∈ ds, d.depth ≤ 60) ∧
  ∀ (zs : List (V × PyData)) (p : Addr), zs.Perm (xs.zip ds) → (zs.Pairwise fun y z => PySem.W.dataLt z.2 y.2 = false) → H p = none → Q (.ref p) (upd H p (.lst (zs.map Prod.fst)))
theorem zip_snd {α β : Type} : ∀ {xs : List α} {ys : List β}, xs.length = ys.length → (xs.zip ys).map Prod.snd = ys
  | [], [], _ => rfl
  | x :: xs, y :: ys, h => by
    rw [List.zip_cons_cons, List.map_cons, zip_snd (by simpa using h)]
theorem vals_fst : ∀ {bs : List (V × PyData)} {us : List Value}, PySem.W.EachIs (fun (u : Value) (b : V × PyData) => RelV b.1 u) us bs → Vals (bs.map Prod.fst) us
  | _, _, .nil => .nil
  | _, _, .cons h t => .cons h (vals_fst t)
theorem each_zip {K : PySem.W.Frag} {H : Hp} : ∀ {xs : List V} {ds : List PyData} {us : List Value}, DpAll K H xs ds → Vals xs us → PySem.W.EachIs (fun (u : Value) (b : V × PyData) => RelV b.1 u ∧ Dp K H b.1 b.2) us (xs.zip ds)
  | _, _, _, .nil, .nil => .nil
  | _, _, _, .cons h t, .cons r s => .cons ⟨r, h⟩ (each_zip t s)
theorem cr_srt {X : Cx} {k : Nat} (hr : Room k X.A) : CallR X (.builtin "sorted") (rSrt X.K) := by
  intro pins s σ H vs us Q I; intro r h
  obtain ⟨a, xs, ds, rfl, hs, hd, hal, hso, hdep, q⟩ := h
  obtain ⟨its, rv, hl, hz⟩ := (I.list hs)
  rw [Vals.ref1 r]
  have hlen := dpAll_len hd
  have ez := each_zip hd rv
  have hzl : (xs.zip ds).length = xs.length := by rw [List.length_zip]; omega
  have hm : (xs.zip ds).map Prod.snd = ds := zip_snd hlen
  have hu := hr.un
  refine PySem.W.sorted_data (bs := xs.zip ds) (enc := Prod.snd) (R := fun u b => RelV b.1 u) hl.isList (ez.mono fun _ _ h => h.1) (ez.mono fun u b h => Dp.reads I b.2 b.1 u h.2 h.1) (by rw [hm]; exact hal) (by rw [hm]; exact hso) (by rw [hzl]; exact hz) (fun b hb => ?_) fun out ho eo => ?_
  · have hb2 : b.2 ∈ ds := by rw [← hm]; exact List.mem_map.mpr ⟨b, hb, rfl⟩
    have := hdep _ hb2
    omega
  · obtain ⟨ep, he'⟩ := PyProof.Rows.sortedAll_at s.heap its out.toArray
    have pm : ((xs.zip ds).mergeSort (PySem.W.dataLe false Prod.snd)).Perm (xs.zip ds) := List.mergeSort_perm _ _
    have pw := PySem.W.sort_pairwise (PySem.W.sortLe_total (PyProof.Rows.listOrd PyProof.Rows.itemOrd) false fun b : V × PyData => PySem.W.keyToks b.2) (xs.zip ds)
    refine ⟨.ref _, upd H (s.heap.objs.size + 1) (.lst (((xs.zip ds).mergeSort (PySem.W.dataLe false Prod.snd)).map Prod.fst)), I.laid (t' := s.toks) (fun _ _ => PyProof.Rows.sortedAll_old) (Nat.le_succ _) ⟨?_, out, ep, vals_fst eo, he'⟩, rfl, q _ _ pm ?_ (I.hok.fresh (Nat.le_succ _))⟩
    · rw [List.length_map, pm.length_eq, hzl]; exact hz
    · refine List.Pairwise.imp (fun {y z} h => ?_) pw
      have h : (!PySem.W.dataLt z.2 y.2) = true := h
      simpa using h
end Sc
namespace Sc
open PySem PySem.Spec PyProof.Rows L2
open C8 (pe_gc)
/-! ### defs that raise nothing, by name -/
structure CalN (P : Program) (w : World) (K : PySem.W.Frag) (mg : Str → Option Value) (base : Heap) (k : Nat) (x : Str) (sp : Sp) : Prop where
  ex : ∃ (f : Addr) (fd : FuncData) (ps : List Str), FnOk P w K mg base CX0 k f fd ps sp ∧ mg x = some (.ref f) ∧ PySem.W.keepIn K (.ref f) = true ∧ Binds K fd ps []
structure MetN (P : Program) (w : World) (K : PySem.W.Frag) (mg : Str → Option Value) (base : Heap) (k : Nat) (C : Addr) (m : Str) (sp : Sp) : Prop where
  ex : ∃ (f : Addr) (fd : FuncData) (ps : List Str), Cls K C ∧ Meth K C m f ∧ FnOk P w K mg base CX0 k f fd ps sp ∧ Binds K fd ps []
structure MakN (P : Program) (w : World) (K : PySem.W.Frag) (mg : Str → Option Value) (base : Heap) (k : Nat) (x : Str) (C : Addr) (sp : Sp) : Prop where
  ex : ∃ (f : Addr) (fd : FuncData) (ps : List Str), Mk K C f ∧ FnOk P w K mg base CX0 k f fd ps sp ∧ mg x = some (.ref C) ∧ Binds K fd ps []
section
variable {X : Cx} {k j : Nat} {C : Addr} {x m : Str} {sp : Sp} {p pos apos : Pos} {e o : Expr} {es : List Expr} {ta : TE} {t : TA}
theorem pe_cn (c : CalN X.prog X.w X.K X.mg X.base k x sp) (hr : Room j X.A) (hk : k ≤ j) (hg : Gl X x) (ha : PA X (e :: es) t) (hdb : (x == ("__debug__" : Str)) = false := by decide) (he : starEach (e :: es) X.env = (false, eval e X.env) :: starEach es X.env := by rfl) (hpl : (backTo pos (starEach es X.env)).any (·.1) = false := by rfl) :
    PE X (.Call (.Name x p) (e :: es) [] pos) (tCall sp [] E0 t) := by
  obtain ⟨f, fd, ps, F, hm, kp, b⟩ := c.ex
  exact pe_call F (hr.mono hk) hg hm kp b .nil pass0 ha hdb he hpl
theorem pe_mn {pl : Sem Bool} (c : MetN X.prog X.w X.K X.mg X.base k C m sp) (hr : Room j X.A) (hk : k ≤ j) (he : PE X o ta) (ha : PA X (e :: es) t)
    (hst : starEach (e :: es) X.env = (false, eval e X.env) :: starEach es X.env := by rfl) (hpl : (backTo pos (starEach es X.env)).any (·.1) = false := by rfl)
    (ht : eval (.Call (.Attribute o m apos) (e :: es) [] pos) X.env = (do
      let ov ← eval o X.env
      standAt apos.atName
      let (f, first) ← holding [ov] (getMethod ov m pl)
      callWith pos f first (backTo pos (starEach (e :: es) X.env)) (backToKw pos (keywordEach [] X.env))) := by rfl) :
    PE X (.Call (.Attribute o m apos) (e :: es) [] pos) (tMeth C m sp [] E0 ta t) := by
  obtain ⟨f, fd, ps, hc, hm, F, b⟩ := c.ex
  exact pe_meth (pl := pl) he hc hm F (hr.mono hk) b .nil pass0 ha hst hpl ht
theorem pe_mn0 {pl : Sem Bool} (c : MetN X.prog X.w X.K X.mg X.base k C m sp) (hr : Room j X.A) (hk : k ≤ j) (he : PE X o ta) (ht : eval (.Call (.Attribute o m apos) [] [] pos) X.env = (do
      let ov ← eval o X.env
      standAt apos.atName
      let (f, first) ← holding [ov] (getMethod ov m pl)
      callWith pos f first [] (backToKw pos (keywordEach [] X.env))) := by rfl) :
    PE X (.Call (.Attribute o m apos) [] [] pos) (tMeth C m sp [] E0 ta tNil) := by
  obtain ⟨f, fd, ps, hc, hm, F, b⟩ := c.ex
  exact pe_meth0 (pl := pl) he hc hm F (hr.mono hk) b .nil pass0 ht
theorem pe_kn0 (c : MakN X.prog X.w X.K X.mg X.base k x C sp) (hr : Room j X.A) (hk : k + 1 ≤ j) (hg : Gl X x) (hdb : (x == ("__debug__" : Str)) = false := by decide) :
    PE X (.Call (.Name x p) [] [] pos) (tMake C sp [] E0 tNil) := by
  obtain ⟨f, fd, ps, M, F, hm, b⟩ := c.ex
  exact pe_make0 M F (hr.mono hk) hg hm b .nil pass0 hdb
end
theorem hu65 {A : Around} {k : Nat} (hr : Room k A) : A.units + 65 < cLine := by have := hr.un; omega
/-! ### operators that the layer lacks -/
def rInTD (K : PySem.W.Frag) : R2 := fun x y H Q => ∃ d ds, Dp K H x d ∧ Dp K H y (.tuple ds) ∧ SeqAt.shaped d = true ∧ SeqAt.shaped (.tuple ds) = true ∧ Q (.bl (ds.any fun z => PyData.eqv z d)) H
theorem op_inTD {X : Cx} (hu : X.A.units + 65 < cLine) : OpR X (compareOp .In) (rInTD X.K) := by
  intro pins s σ H x y v u Q I; intro rx ry h
  obtain ⟨d, ds, hd, he, sd, rest⟩ := h; obtain ⟨se, q⟩ := rest
  obtain ⟨as, r1⟩ := (Dp.reads I d x v hd rx)
  obtain ⟨bs, r2⟩ := Dp.reads I (.tuple ds) y u he ry
  exact SeqAt.in_tuple_reads r2 r1 (SeqAt.canLay_of_shaped se) (SeqAt.canLay_of_shaped sd) (room_in_shaped sd hu) ⟨.bl _, H, I, rfl, q⟩
theorem op_mulS {X : Cx} : OpR X (binaryOp .Mult) (fun x y H Q => ∃ (z : Str) (n : Int), x = .str z ∧ y = .int n ∧ 0 ≤ n ∧ n ≤ 1000 ∧ z.length ≤ 1000 ∧ Q (.str (Txt.mul z n)) H) := by
  intro pins s σ H x y v u Q I; intro rx ry h
  obtain ⟨z, n, rfl, rfl, h0, h1, h2, q⟩ := h
  obtain ⟨t, rfl⟩ := rx
  obtain ⟨t', rfl⟩ := ry
  refine SB.mul ⟨?_, fun h3 _ => ?_, fun _ _ => ?_⟩ fun t2 k => ⟨.str _, H, I.tok _, ⟨_, rfl⟩, q⟩
  · simp only [Bool.or_eq_false_iff, decide_eq_false_iff_not]
    exact ⟨by omega, by omega⟩
  · have h4 : (9223372036854775 : Int) ≤ (2 ^ 63 - 1) / n := by
      refine (Int.le_ediv_iff_mul_le (by omega)).mpr ?_
      have : (9223372036854775 : Int) * n ≤ 9223372036854775 * 1000 := Int.mul_le_mul_of_nonneg_left h1 (by decide)
      omega
    omega
  · have h5 : z.length * n.toNat ≤ 1000 * 1000 := Nat.mul_le_mul h2 (by omega)
    exact short24 (by omega)
theorem cr_listS {X : Cx} (hc : X.calm = true) : CallR X (.type "list") (fun xs H Q => ∃ z : Str, xs = [.str z] ∧ z.length ≤ sizeLine ∧ ∀ p, H p = none → Q (.ref p) (upd H p (.lst (z.cps.toList.map fun c => V.str ⟨#[c]⟩)))) := by
  intro pins s σ H vs us Q I; intro r h
  obtain ⟨z, rfl, hz, q⟩ := h
  obtain ⟨u, rfl, ru⟩ := (vals1 r)
  obtain ⟨t, rfl⟩ := ru
  refine call_list_str (I.ok.hd hc) z t (hn := hz) fun h' tk acc' c' hk hS' hacc => ?_
  refine ⟨.ref _, upd H s.heap.objs.size (.lst (z.cps.toList.map fun c => V.str ⟨#[c]⟩)), I.laid (t' := tk) hk (Nat.le_refl _) ⟨?_, acc'.toList, c', ?_, ?_⟩, rfl, q _ (I.hok.fresh (Nat.le_refl _))⟩
  · rw [List.length_map, Array.length_toList]; exact hz
  · refine vals_of_at (by rw [List.length_map, Array.length_toList, Array.length_toList, hacc.1]) fun j x v hx hv => ?_
    obtain ⟨c, k, hc, rfl⟩ := hacc.2 j v (by rw [← Array.getElem?_toList]; exact hv)
    rw [List.getElem?_map, Array.getElem?_toList, hc] at hx
    cases hx
    exact ⟨k, rfl⟩
  · simpa using hS'
end Sc
namespace Sc
open PySem PySem.Spec PyProof.Rows L2
/-- the empty set as it is laid -/
abbrev set0 (w : World) : Obj := { cls := .type "set", dict := none, data := .set #[] 0 (.fresh 0 0 (!w.params.followText "set-order")) }
/-- set(l) of a list: by what its filling does -/
theorem set_of_list {P : Program} {w : World} {A : Around} {E : Value → Shared → Prop} {s : Shared} {l : Addr} {items : Array Value} {Pw : Heap → Prop} {Q : Value → Shared → Prop} (hl : s.heap.IsList l items)
    (fill : ∀ (A' : Around) (R : Result → Shared → Prop), A'.handled = A.handled → A'.units ≤ A.units + 4 → (∀ h' tk, Pw h' → (∀ b o, s.heap.get? b = some o → h'.get? b = some o) → R (.ok (.ret .none)) { s with heap := h', toks := tk }) →
      codeAny (model P w) A' (.builtin "set.update.loop" ⟨[.ref s.heap.objs.size, .ref (s.heap.push (set0 w)).objs.size], []⟩) R
        { s with heap := (s.heap.push (set0 w)).push { cls := .type "list_iterator", data := .fields #[.ref l, .int 0 0] } })
    (h : ∀ (h' : Heap) (tk : Nat), Pw h' → (∀ b o, s.heap.get? b = some o → h'.get? b = some o) → Q (.ref s.heap.objs.size) { s with heap := h', toks := tk }) :
    wpAny (model P w) A (PySem.call (.type "set") [.ref l]) Q E s := by
  obtain ⟨_, _, tM⟩ := F.called_set.mro
  have tD := F.called_set.made
  have tS := F.called_set.sub
  have tN := F.called_set.notType
  have tC := F.called_set.canCreate
  have tT := F.typeCall_set_1 (.ref l)
  refine wpAny_call ?_; refine codeAny_of_tree ?_
  show wpAny (model P w) _ (callAny (.type "set") _) _ _ _
  refine wpAny_pure (And.intro (Code.quiet_builtin _ (by decide +kernel)) (codeAny_builtin F.entry_type_call ?_))
  rw [Around.under_plain (weight_type_call_type "set" [Value.ref l] []) rfl]
  repeat (any_goals (first | assumption | (wp_step)))
  refine codeAny_mono (code_set_led1 (.ref l) (E := E) (Q₁ := fun o t => o = .ref s.heap.objs.size ∧ t = { s with heap := s.heap.push (set0 w) }) ⟨rfl, rfl⟩) fun r t hr => ?_
  match r, hr with
  | .error e, hr => exact hr
  | .ok .next, hr => exact hr.elim
  | .ok (.ret o), hr =>
    obtain ⟨rfl, rfl⟩ := hr
    have g0 : (s.heap.push (set0 w)).get? s.heap.objs.size = some (set0 w) := Heap.get?_push_size _ rfl
    have tY : Shared.TypeIs { s with heap := s.heap.push (set0 w) } (.ref s.heap.objs.size) "set" := ⟨_, g0, rfl⟩
    have iL := F.called_set.init.lookup
    have iB := F.called_set.init.bind (.ref s.heap.objs.size)
    repeat (any_goals (first | assumption | (wp_step)))
    refine codeAny_mono (codeAny_call_builtin (R := wants (fun r t => r = .none ∧ ∃ h' tk, t = { s with heap := h', toks := tk } ∧ Pw h' ∧ ∀ b o, s.heap.get? b = some o → h'.get? b = some o) E) F.called_set.init.plain F.entry_set_init (check_set_init_1 tY ?_)) fun r t hr => ?_
    · obtain ⟨ol, hol, hcl, m⟩ := hl; obtain ⟨nl, hdl⟩ := m
      obtain ⟨c0, d0, x0, l0⟩ := ol
      simp only at hcl hdl
      subst hcl; subst hdl
      have hol' : (s.heap.push (set0 w)).get? l = some { cls := .type "list", dict := d0, data := .seq items nl, slots := l0 } := Heap.get?_push_of_some _ hol
      have hl1 : (s.heap.push (set0 w)).IsList l items := ⟨_, hol', rfl, nl, rfl⟩
      have u1 := F.sub_list_set
      have u2 := F.sub_list_frozenset
      have u3 : (Value.type "list" == Value.type "dict") = false := by decide
      unfold Builtin.«set.__init__»; unfold noKeywords; unfold Builtin.Frozenset.updateFrom
      generalize hPI : pyIter = PI
      wp_walk
      subst hPI
      refine wpAny_pyIter_list hl1 (wpAny_bind (wpAny_runValue ?_))
      refine fill _ _ rfl (by show _ ≤ _; first | exact Nat.le_refl _ | (simp only [Around.in1, Around.units]; omega) | decide) fun h' tk p k => ?_
      show wpAny _ _ _ _ _ _
      refine wpAny_pure ?_
      show wpAny (model P w) _ (ret Value.none) _ _ _
      exact wpAny_pure ⟨rfl, h', tk, rfl, p, k⟩
    · match r, hr with
      | .error e, hr => exact hr
      | .ok (.ret x), hr =>
        obtain ⟨rfl, h', tk, rfl, p, k⟩ := hr
        repeat (any_goals (first | assumption | (wp_step)))
        exact h _ _ p k
      | .ok .next, hr => exact hr.elim
      | .ok .brk, hr => exact hr.elim
      | .ok .cont, hr => exact hr.elim
end Sc
namespace Sc
open PySem PySem.Spec PyProof.Rows L2
/-- set(l) of a list of ints -/
theorem set_of_ints {P : Program} {w : World} {A : Around} {E : Value → Shared → Prop} {s : Shared} {l : Addr} {items : Array Value} {ns : List Int} {Q : Value → Shared → Prop} (hh : A.handled = none) (hl : s.heap.IsList l items) (hit : IntsAre items.toList ns) (hb : ns.length + 1 < scanBound) (h : ∀ (h' : Heap) (tk c : Nat), SetR w h' s.heap.objs.size (fun j => decide (j ∈ ns)) c → c ≤ ns.length → (∀ b o, s.heap.get? b = some o → h'.get? b = some o) → Q (.ref s.heap.objs.size) { s with heap := h', toks := tk }) :
    wpAny (model P w) A (PySem.call (.type "set") [.ref l]) Q E s := by
  have ll : l < s.heap.objs.size := by
    obtain ⟨o, ho, _⟩ := hl
    exact Heap.lt_size ho
  have hz : items.size = ns.length := by
    have := IntsAre.length hit
    rwa [Array.length_toList] at this
  have sz : (s.heap.push (set0 w)).objs.size = s.heap.objs.size + 1 := Heap.size_push ..
  refine set_of_list (Pw := fun h' => ∃ c, c ≤ ns.length ∧ SetR w h' s.heap.objs.size (fun j => decide (j ∈ ns)) c) hl (fun A' R hA _ q => ?_) fun h' tk ⟨c, hc, hS⟩ k => h h' tk c hS hc k
  have hw : A'.in1.handled = none := by simp [hA, hh]
  have nI : l ≠ (s.heap.push (set0 w)).objs.size := by rw [sz]; exact Nat.ne_of_lt (Nat.lt_succ_of_lt ll)
  refine set_update_ints ((Walks.list hw _ l nI items).toS) s.heap.objs.size (by rw [sz]; simp only [List.mem_cons, List.not_mem_nil, or_false, not_or]; exact ⟨Nat.ne_of_lt (Nat.lt_succ_self _), Nat.ne_of_gt ll⟩) ns hz hb (fun i v hv => ?_) (items.size - 0) 0 _ (by omega) (Nat.zero_le _)
    ⟨⟨_, Heap.get?_push_size _ rfl, rfl, rfl⟩, hl.push _ |>.push _⟩ ⟨0, Nat.le_refl 0, setR_new_at (Heap.get?_push_of_some _ (Heap.get?_push_size _ rfl))⟩ fun s' c hm hc hS => ?_
  · obtain ⟨hi, _⟩ := Array.getElem?_eq_some_iff.mp hv
    obtain ⟨t, e⟩ := (PyProof.Rows.IntsAre.int_at hit i v (by rw [Array.getElem?_toList]; exact hv))
    rw [hz] at hi
    exact ⟨ns[i], t, List.getElem?_eq_getElem hi, by rw [e, List.getD_eq_getElem?_getD, List.getElem?_eq_getElem hi]; rfl⟩
  · obtain ⟨h', g2, d2, tk, os2⟩ := s'
    have eg : g2 = s.gens := (hm.gens)
    have ed : d2 = s.drawn := hm.drawn
    have eo : os2 = s.os := hm.os
    subst eg ed eo
    refine q h' tk ⟨c, by rw [← hz]; exact hc, hS⟩ fun b o e => ?_
    have := Heap.lt_size e
    refine hm.heap b o ?_ (Heap.get?_push_of_some _ (Heap.get?_push_of_some _ e))
    rw [sz]
    simp only [List.mem_cons, List.not_mem_nil, or_false, not_or]
    exact ⟨Nat.ne_of_lt this, Nat.ne_of_lt (Nat.lt_succ_of_lt this)⟩
end Sc
namespace Sc
open PySem PySem.Spec PyProof.Rows L2
def rSetN (w : World) (K : PySem.W.Frag) : List V → Hp → VK → Prop := fun vs H Q => ∃ (l : Addr) (ns : List Int), vs = [V.ref l] ∧ SqL K H l (ns.map V.int) ∧ ns.length ≤ 1000 ∧ ∀ (a : Addr) (n : Nat), H a = none → n ≤ ns.length → Q (.ref a) (upd H a (SetO w a (fun j => decide (j ∈ ns)) n))
def rSrtN (w : World) : List V → Hp → VK → Prop := fun vs H Q => ∃ (a : Addr) (S : Int → Bool) (n : Nat), vs = [V.ref a] ∧ H a = some (SetO w a S n) ∧ n ≤ 1000 ∧ ∀ (ms : List Int) (p : Addr), ms.Pairwise (· < ·) → (∀ k : Int, k ∈ ms ↔ S k = true) → H p = none → Q (.ref p) (upd H p (.lst (ms.map V.int)))
theorem cr_setN {X : Cx} {k : Nat} (hc : X.calm = true) (hr : Room k X.A) : CallR X (.type "set") (rSetN X.w X.K) := by
  intro pins s σ H vs us Q I; intro r h
  obtain ⟨l, ns, rfl, hs, hn, q⟩ := h
  obtain ⟨its, rv, hl, hz⟩ := (I.list hs)
  rw [Vals.ref1 r]
  have hi : IntsAre its.toArray.toList ns := (ints_of_vals rv)
  refine set_of_ints (items := its.toArray) (I.ok.hd hc) hl.isList hi (by unfold scanBound; omega) fun h' tk c R hcn k => ?_
  exact ⟨.ref s.heap.objs.size, _, I.laid (t' := tk) k (Nat.le_refl _) (setO_new R), rfl, q _ c (I.hok.fresh (Nat.le_refl _)) hcn⟩
end Sc
namespace Sc
open PySem PySem.Spec PyProof.Rows L2
theorem each_int : ∀ {us : List Value} {ns : List Int}, IntsAre us ns → PySem.W.EachIs (fun (u : Value) (n : Int) => ∃ t, u = Value.int n t) us ns
  | _, _, .nil => .nil
  | _, _, .cons n t r => .cons ⟨t, rfl⟩ (each_int r)
theorem alike_ints (ns : List Int) : PySem.W.AllAlike (ns.map PyData.int) := by
  intro d hd e he
  obtain ⟨a, _, rfl⟩ := List.mem_map.mp hd
  obtain ⟨b, _, rfl⟩ := List.mem_map.mp he
  rfl
theorem sortable_ints (ns : List Int) : PySem.W.Sortable (ns.map PyData.int) := .inr fun d hd => by
  obtain ⟨a, _, rfl⟩ := List.mem_map.mp hd
  exact ⟨by simp, fun xs => by simp⟩
theorem ints_back {out : List Value} : ∀ {ms : List Int}, PySem.W.EachIs (fun (u : Value) (n : Int) => ∃ t, u = Value.int n t) out ms → IntsAre out ms := by
  intro ms h
  induction h with
  | nil => exact .nil
  | cons h _ ih =>
    obtain ⟨t, rfl⟩ := h
    exact .cons _ t ih
/-- sorted of a set of ints, of any number -/
theorem sorted_ints_set {P : Program} {w : World} {A : Around} {E : Value → Shared → Prop} {s : Shared} {a : Addr} {S : Int → Bool} {n : Nat} {Q : Value → Shared → Prop} (R : SetR w s.heap a S n) (hh : A.handled = none) (hn : n ≤ sizeLine) (hu : A.units + 40 < cLine) (hQ : ∀ s' p (out : Array Value) (c : Nat) (ns : List Int), (∀ b o, s.heap.get? b = some o → s'.heap.get? b = some o) → s'.gens = s.gens → s'.os = s.os → s.heap.objs.size ≤ p → s'.heap.get? p = some (seqObj "list" out c) → IntsAre out.toList ns → ns.Pairwise (· < ·) → (∀ k, k ∈ ns ↔ S k = true) → ns.length = n → Q (.ref p) s') :
    wpAny (model P w) A (PySem.call (.builtin "sorted") [.ref a]) Q E s := by
  obtain ⟨o, es, ep, t, ho, hex, hd, g, nd, hm, hb, hf, hz, hr, hl⟩ := R
  refine (Calls.call_function_entry kind_sorted plain_sorted entry_sorted (args_sorted1 _) ?_)
  unfold Builtin.«sorted»
  refine wpAny_bind (m := checkCount "sorted" 1 1 _) (wpAny_pure (wpAny_bind (collect_set (A := A.in1) hh ⟨o, ho, hex.1, hd⟩ hf hb hr hl fun s1 vs k1 z1 g1 o1 pm => ?_)))
  have lv : vs.length = n := by rw [pm.length_eq, List.length_map, Array.length_toList]; exact hz
  have iv : IntsAre vs (vs.map Builtin.Re.reRawOf) := ints_of vs fun v hv => by
    obtain ⟨e, he, q⟩ := (List.mem_map.mp (pm.mem_iff.mp hv))
    obtain ⟨k, tk, q1, _⟩ := g e he
    exact ⟨k, tk, by rw [← q]; exact q1⟩
  have pk : List.Perm (vs.map Builtin.Re.reRawOf) (es.toList.map keyOf) := by
    have q := (pm.map Builtin.Re.reRawOf)
    rw [List.map_map] at q
    exact q
  refine wpAny_bind (wpAny_newList ?_ (by rw [lv]; exact hn))
  have oL : (s1.heap.push (seqObj "list" vs.toArray 0)).get? s1.heap.objs.size = some (seqObj "list" vs.toArray 0) := Heap.get?_push_size _ rfl
  refine wpAny_bind ?_; refine wpAny_holding ?_
  refine PySem.W.list_sort_data (R := fun (u : Value) (n : Int) => ∃ t, u = Value.int n t) (enc := PyData.int) (bs := vs.map Builtin.Re.reRawOf) oL (each_int iv) ((each_int iv).mono fun v b he => by
    obtain ⟨t, rfl⟩ := he
    exact ⟨[], Reads.int _ _, by simp⟩) (alike_ints _) (sortable_ints _) (by rw [List.length_map, lv]; exact hn) (fun b _ => ?_) fun out lo eo => ?_
  · show A.in1.units + 1 + 0 < cLine
    have : A.in1.units = A.units + 1 := rfl
    omega
  · rw [PySem.W.dataLe_int] at eo
    have pm2 := List.mergeSort_perm (vs.map Builtin.Re.reRawOf) fun a b => decide (a ≤ b)
    have so : ((vs.map Builtin.Re.reRawOf).mergeSort fun a b => decide (a ≤ b)).Pairwise (· ≤ ·) := by
      refine (List.pairwise_mergeSort (le := fun a b : Int => decide (a ≤ b)) ?_ ?_ _).imp fun h => of_decide_eq_true h
      · intro a b c h1 h2
        (simp only [decide_eq_true_eq] at *)
        omega
      · intro a b
        simp only [Bool.or_eq_true, decide_eq_true_eq]
        omega
    obtain ⟨c, hc⟩ := sortedHeap_at (vs := vs) (out := out.toArray) oL
    have pn := pm2.trans pk
    refine wpAny_pure ⟨_, rfl, hQ _ s1.heap.objs.size out.toArray c _ (fun b u e => ?_) g1 o1 z1 hc (ints_back eo) (lt_of_le_nodup _ so (pn.nodup_iff.mpr nd)) (fun k => by rw [pn.mem_iff, ← hm k]) ?_⟩
    · have q := k1 b u e
      have hlt := Heap.lt_size q
      show (sortedHeap (s1.heap.push (seqObj "list" vs.toArray 0)) s1.heap.objs.size vs out.toArray).get? b = some u
      rw [sortedHeap_old (Nat.ne_of_lt hlt) (by rw [size_push']; exact Nat.lt_succ_of_lt (hlt))]
      exact (Heap.get?_push_of_some _ q)
    · rw [pn.length_eq, List.length_map, Array.length_toList]; exact hz
end Sc
namespace Sc
open PySem PySem.Spec PyProof.Rows L2
theorem cr_srtN {X : Cx} {k : Nat} (hc : X.calm = true) (hr : Room k X.A) : CallR X (.builtin "sorted") (rSrtN X.w) := by
  intro pins s σ H vs us Q I; intro r h
  obtain ⟨a, S, n, rfl, hs, hn, q⟩ := h
  rw [Vals.ref1 r]
  have R := setO_get I hs
  have hu := hr.un
  refine sorted_ints_set R (I.ok.hd hc) (by rw [sizeLine_eq]; omega) (by omega) fun s' p out c ns ko g1 o1 hp ho io pw hm hl => ?_
  refine ⟨.ref p, upd H p (.lst (ns.map V.int)), ?_, rfl, q ns p pw hm (I.hok.fresh hp)⟩
  have J : Inv X pins σ (upd H p (.lst (ns.map V.int))) { s with heap := s'.heap, toks := s'.toks } := I.laid (t' := s'.toks) ko hp ⟨by rw [List.length_map, hl, sizeLine_eq]; omega, out.toList, c, vals_of_ints io, ho⟩
  exact J.call' (ch := []) (s' := s') o1 Un.refl J.hok (by rw [g1]; exact I.bare) (fun _ z => nomatch z)
end Sc
namespace Sc
open PySem PySem.Spec PyProof.Rows L2
/-! ### a search's way in a table of 8, 32, 128 or 512 places -/
def Msk (m : Nat) : Prop := MaskOk m ∨ m = 511
def orb : Nat → Nat → List Nat
  | 0, _ => []
  | n + 1, x => x :: orb n ((x * 5 + 1) % 512)
theorem orb_mem : ∀ (n a y : Nat), y ∈ orb n (lcgN 511 a) → ∃ k, k < n ∧ lcgN 511 (a + k) = y
  | 0, _, _, h => nomatch h
  | n + 1, a, y, h => by
    rcases (List.mem_cons.mp h) with e | h
    · exact ⟨0, Nat.succ_pos _, e.symm⟩
    · obtain ⟨k, hk, e⟩ := orb_mem n (a + 1) y h
      exact ⟨k + 1, by omega, by rw [← e]; congr 1; omega⟩
theorem orb_all : ((List.range 512).all fun j => (orb 512 0).contains j) = true := by decide +kernel
theorem lcg_hits {j : Nat} (hj : j ≤ 511) : ∃ b, b ≤ 511 ∧ lcgN 511 b = j := by
  have h := List.all_eq_true.mp orb_all j (List.mem_range.mpr (by omega))
  have h2 : j ∈ orb 512 0 := by simpa using h
  obtain ⟨k, hk, e⟩ := orb_mem 512 0 j h2
  exact ⟨k, by omega, by rw [← e]; congr 1; omega⟩
theorem lcg_back : lcgN 511 512 = 0 := by decide +kernel
theorem lcg_per : ∀ k, lcgN 511 (512 + k) = lcgN 511 k
  | 0 => lcg_back
  | k + 1 => congrArg (fun x => (x * 5 + 1) % 512) (lcg_per k)
theorem lcg_from {i j : Nat} (hi : i ≤ 511) (hj : j ≤ 511) : ∃ k, k ≤ 511 ∧ lcgI 511 i k = j := by
  obtain ⟨a, la, ea⟩ := lcg_hits hi
  obtain ⟨b, lb, eb⟩ := lcg_hits hj
  subst ea
  by_cases c : a ≤ b
  · exact ⟨b - a, by omega, by rw [lcgN_add, ← eb]; congr 1; omega⟩
  · exact ⟨b + 512 - a, by omega, by rw [lcgN_add, show a + (b + 512 - a) = 512 + b by omega, lcg_per, eb]⟩
theorem run_any {m : Nat} (hm : Msk m) (h : Int) {j : Nat} (hj : j ≤ m) : ∃ n, n ≤ m + 12 ∧ runI m (SetTable.bits h) n = j := by
  rcases hm with hm | rfl
  · exact run_meets hm h hj
  · obtain ⟨k, lk, e⟩ := lcg_from (runI_le 511 (SetTable.bits h) 12) hj
    exact ⟨12 + k, by omega, (runI_tail (bits_lt h) k).trans e⟩
abbrev pr (m : Nat) (h : Int) (k : Nat) : SetTable.Probe := nth m (runAt m (SetTable.bits h % (m + 1)) (SetTable.bits h)) k
theorem way_in (m : Nat) (h : Int) (k : Nat) : way m h k ≤ m := by
  have b : SetTable.bits h % (m + 1) ≤ m := Nat.le_of_lt_succ (Nat.mod_lt _ (Nat.succ_pos m))
  have q := runEnd_bd b
  have r := nth_in (m := m) k (runAt m (SetTable.bits h % (m + 1)) (SetTable.bits h)) (by simp only [runAt]; omega)
  exact Nat.le_trans (Nat.le_add_right _ _) r
/-- the first place of the way that is not taken -/
theorem first_gap {m : Nat} (hm : Msk m) (T : Nat → Prop) (h : Int) {j : Nat} (hj : j ≤ m) (hf : ¬ T j) : ∃ K, K < 10 * SetTable.turns m ∧ ¬ T (way m h K) ∧ ∀ c, c < K → T (way m h c) := by
  obtain ⟨n, ln, e⟩ := run_any hm h hj
  obtain ⟨k, lk, e2⟩ := run_nth m (SetTable.bits h) n
  have wk : way m h k = j := (congrArg SetTable.Probe.j e2).trans e
  obtain ⟨K, lK, g, b⟩ := st_least (p := fun c => ¬ T (way m h c)) k (by rw [wk]; exact hf)
  exact ⟨K, by unfold SetTable.turns; omega, g, fun c hc => Classical.byContradiction (b c hc)⟩
theorem free_first {m : Nat} (hm : Msk m) (ow : Array (Option Nat)) (h : Int) {j : Nat} (hj : j ≤ m) (hf : oAt ow j = none) :
    ∃ K, SetTable.layClean.free m ow (SetTable.turns m) (SetTable.bits h % (m + 1)) (SetTable.bits h) = some (way m h K) ∧ oAt ow (way m h K) = none ∧ ∀ c, c < K → oAt ow (way m h c) ≠ none := by
  obtain ⟨n, ln, e⟩ := run_any hm h hj
  have wn : way m h (off m (SetTable.bits h % (m + 1)) (SetTable.bits h) n) = j := by
    have q := nth_off m n (SetTable.bits h % (m + 1)) (SetTable.bits h)
    rw [itL_run] at q
    exact (congrArg SetTable.Probe.j q).trans e
  obtain ⟨K, lK, g, b⟩ := st_least (p := fun c => oAt ow (way m h c) = none) _ (by rw [wn]; exact hf)
  refine ⟨K, free_spec m ow _ n _ _ K (by unfold SetTable.turns; omega) lK (fun c hc => ?_) (by rw [Option.isNone_iff_eq_none]; exact g), g, b⟩
  exact Option.isNone_eq_false_iff.mpr (Option.isSome_iff_ne_none.mpr (b c hc))
theorem own_step {m : Nat} (hm : Msk m) {done : List Int} {ow : Array (Option Nat)} (W : Own m done ow) (hl : done.length ≤ m) (h : Int) :
    ∃ j, SetTable.layClean.free m ow (SetTable.turns m) (SetTable.bits h % (m + 1)) (SetTable.bits h) = some j ∧ Own m (done ++ [h]) (ow.setIfInBounds j (some done.length)) := by
  obtain ⟨ps, lps, hin⟩ := W.ps
  obtain ⟨j0, l0, g0⟩ := st_missing ps (m + 1) (by omega)
  have f0 : oAt ow j0 = none := Classical.byContradiction fun z => g0 (hin j0 (by omega) z)
  obtain ⟨K, eK, nK, bK⟩ := free_first hm ow h (Nat.le_of_lt_succ l0) f0
  have lK := way_in m h K
  obtain ⟨o2, ho2⟩ : ∃ o2, o2 = ow.setIfInBounds (way m h K) (some done.length) := ⟨_, rfl⟩
  have at1 : oAt o2 (way m h K) = some done.length := by
    rw [ho2]
    exact oAt_set_self _ (by rw [W.sz]; omega)
  have at2 : ∀ i, i ≠ way m h K → oAt o2 i = oAt ow i := fun i hi => by
    rw [ho2]
    exact oAt_set_ne _ hi
  have up : ∀ i, oAt ow i ≠ none → oAt o2 i ≠ none := fun i hi => by
    by_cases c : i = way m h K
    · rw [c, at1]; simp
    · rw [at2 i c]; exact hi
  refine ⟨_, eK, ?_⟩
  rw [← ho2]
  refine ⟨?_, ?_, ?_, way m h K :: ps, by simp [lps], ?_⟩
  · rw [ho2, Array.size_setIfInBounds]
    exact W.sz
  · intro j k lj e
    by_cases c : j = way m h K
    · rw [c, at1] at e
      cases e
      exact ⟨h, K, by simp, c.symm, fun c' hc' => up _ (bK c' hc')⟩
    · rw [at2 j c] at e
      obtain ⟨h', K', a1, a2, a3⟩ := W.at_ j k lj e
      have lk := (List.getElem?_eq_some_iff.mp a1).1
      exact ⟨h', K', by rw [List.getElem?_append_left lk]; exact a1, a2, fun c' hc' => up _ (a3 c' hc')⟩
  · intro k lk
    by_cases c : k = done.length
    · exact ⟨_, lK, by rw [c]; exact at1⟩
    · obtain ⟨j, lj, e⟩ := W.all k (by simp at lk; omega)
      refine ⟨j, lj, ?_⟩
      rw [at2 j (fun z => by rw [z, nK] at e; cases e)]
      exact e
  · intro j lj e
    by_cases c : j = way m h K
    · rw [c]; simp
    · rw [at2 j c] at e
      exact List.mem_cons_of_mem _ (hin j lj e)
theorem own_fold {m : Nat} (hm : Msk m) : ∀ (rest done : List Int) (ow : Array (Option Nat)), Own m done ow → done.length + rest.length ≤ m →
    ∃ ow2 n2, rest.foldl (stepF m) (some (ow, done.length)) = some (ow2, n2) ∧ Own m (done ++ rest) ow2
  | [], done, ow, W, _ => ⟨ow, _, rfl, by simpa using W⟩
  | h :: rest, done, ow, W, hl => by
    simp only [List.length_cons] at hl
    obtain ⟨j, e, W2⟩ := own_step hm W (by omega) h
    obtain ⟨ow2, n2, f, W3⟩ := own_fold hm rest (done ++ [h]) _ W2 (by simp; omega)
    refine ⟨ow2, n2, ?_, by simpa using W3⟩
    rw [List.foldl_cons]; rw [stepF_some e]
    simpa using f
theorem own_lay {m : Nat} (hm : Msk m) {hs : Array Int} (hn : hs.size ≤ m) : ∃ ow, SetTable.layClean m hs = some ow ∧ Own m hs.toList ow := by
  obtain ⟨ow, n2, f, W⟩ := own_fold hm hs.toList [] _ (Own.init m) (by simpa using hn)
  refine ⟨ow, ?_, by simpa using W⟩
  rw [layClean_eq]
  have f2 : hs.toList.foldl (stepF m) (some (Array.replicate (m + 1) none, 0)) = some (ow, n2) := f
  rw [f2]
  rfl
/-! ### the table, its rows and where they stand: one list -/
abbrev Zs := List (Nat × Addr × List Int)
abbrev At (Z : Zs) (j : Nat) : Prop := j ∈ Z.map (·.1)
def On (m : Nat) (T : Nat → Prop) (h : Int) (j : Nat) : Prop := ∃ k, way m h k = j ∧ ∀ c, c < k → T (way m h c)
theorem On.mono {m : Nat} {T T' : Nat → Prop} {h : Int} {j : Nat} (x : On m T h j) (f : ∀ i, T i → T' i) : On m T' h j := by
  obtain ⟨k, e, b⟩ := x
  exact ⟨k, e, fun c hc => f _ (b c hc)⟩
structure Lay (P : Program) (w : World) (t : SetTable) (Z : Zs) : Prop where
  pl : t.place.toList = Z.map (·.1)
  up : Ris (Z.map (·.1))
  dm : t.dummies = #[]
  ms : Msk t.mask
  on : ∀ z ∈ Z, On t.mask (At Z) (thash P w z.2.2) z.1
abbrev row1 (P : Program) (w : World) (z : Nat × Addr × List Int) : Int × Value := (thash P w z.2.2, Value.ref z.2.1)
theorem ris_nodup {l : List Nat} (r : Ris l) : l.Nodup := List.Pairwise.imp (fun h => Nat.ne_of_lt h) r
section
variable {P : Program} {w : World} {t : SetTable} {Z : Zs}
theorem Lay.few (R : Lay P w t Z) (hl : Z.length ≤ t.mask) : ∃ j, j ≤ t.mask ∧ ¬ At Z j := by
  obtain ⟨j, lj, g⟩ := st_missing (Z.map (·.1)) (t.mask + 1) (by simp; omega)
  exact ⟨j, by omega, g⟩
/-- the table laid anew -/
theorem lay_anew (R : Lay P w t Z) {es : Array (Int × Value)} (he : es.toList = Z.map (row1 P w)) {wanted M : Nat} (hw : SetTable.sizeAbove wanted - 1 = M) (hM : Msk M) (hn : Z.length ≤ M) :
    ∃ t2 order Z2, t.relaid (es.map (·.1)) wanted = some (t2, order) ∧ (order.filterMap (es[·]?)).toList = Z2.map (row1 P w) ∧ (Z2.map (·.2)).Perm (Z.map (·.2)) ∧ Lay P w t2 Z2 ∧ t2.mask = M ∧ t2.led = t.led ∧ t2.plain = t.plain := by
  have hz : es.size = Z.length := by simpa using congrArg List.length he
  obtain ⟨ow, e, W⟩ := own_lay hM (hs := es.map (·.1)) (by rw [Array.size_map, hz]; exact hn)
  obtain ⟨vs, hvs⟩ : ∃ vs, vs = liveOf M ow := ⟨_, rfl⟩
  have mv : ∀ {j k : Nat}, (j, k) ∈ vs ↔ j ≤ M ∧ oAt ow j = some k := fun {j k} => by rw [hvs]; exact mem_live W.sz
  have hg : ∀ k, (es.map (·.1)).toList[k]? = (Z[k]?).map fun z : Nat × Addr × List Int => thash P w z.2.2 := fun k => by
    rw [Array.toList_map, List.getElem?_map, he, List.getElem?_map, Option.map_map] <;> rfl
  have lim : ∀ q ∈ vs, q.2 < Z.length := fun q hq => by
    obtain ⟨_, e2⟩ := mv.1 hq
    obtain ⟨h, K, a1, _⟩ := W.at_ q.1 q.2 (mv.1 hq).1 e2
    have := (List.getElem?_eq_some_iff.mp a1).1
    simpa [hz] using this
  have rs := ris_live (fun j => ow.getD j none) (List.range (M + 1)) (by first | exact List.pairwise_lt_range | exact List.pairwise_lt_range _)
  have r1 : Ris (vs.map (·.1)) := by rw [hvs]; exact rs.1
  let z0 : Nat × Addr × List Int := (0, 0, [])
  refine ⟨tabOf t M ow, (vs.map (·.2)).toArray, vs.map fun q => (q.1, (Z.getD q.2 z0).2), ?_, ?_, ?_, ?_, rfl, rfl, rfl⟩
  · rw [relaid_eq, hw, e, hvs] <;> rfl
  · have key : ∀ l : List (Nat × Nat), (∀ q ∈ l, q.2 < Z.length) → (l.map (·.2)).filterMap (fun i => es[i]?) = (l.map fun q => ((q.1, (Z.getD q.2 z0).2) : Nat × Addr × List Int)).map (row1 P w) := by
      intro l
      induction l with
      | nil => intro _; rfl
      | cons q l ih =>
        intro hl
        have hq := hl q List.mem_cons_self
        have eq : es[q.2]? = some (row1 P w (Z.getD q.2 z0)) := by
          rw [← Array.getElem?_toList, he, List.getElem?_map, List.getD_eq_getElem?_getD, List.getElem?_eq_getElem hq] <;> rfl
        rw [List.map_cons, List.filterMap_cons_some eq, ih fun r hr => hl r (List.mem_cons_of_mem _ hr)] <;> rfl
    have := key vs lim
    first | (rw [Array.toList_filterMap]; exact this) | simpa using this
  · have pm : (vs.map (·.2)).Perm (List.range Z.length) := by
      refine perm_range Z.length _ ?_ fun k hk => ?_
      · obtain ⟨ps, lps, hin⟩ := W.ps
        have u1 := nat_nodup_len (vs.map (·.1)) ps (ris_nodup r1) fun x hx => by
          obtain ⟨q, hq, rfl⟩ := List.mem_map.mp hx
          obtain ⟨b1, b2⟩ := (mv (j := q.1) (k := q.2)).1 hq
          exact hin q.1 b1 (by rw [b2]; simp)
        have u2 := nat_nodup_len (List.range Z.length) (vs.map (·.2)) List.nodup_range fun k hk => by
          obtain ⟨j, lj, e2⟩ := W.all k (by simpa [hz] using hk)
          exact List.mem_map.mpr ⟨(j, k), mv.2 ⟨lj, e2⟩, rfl⟩
        simp [hz] at u1 u2 lps ⊢
        omega
      · obtain ⟨j, lj, e2⟩ := W.all k (by simpa [hz] using hk)
        exact List.mem_map.mpr ⟨(j, k), mv.2 ⟨lj, e2⟩, rfl⟩
    have q := pm.map fun i => (Z.getD i z0).2
    rw [List.map_map] at q
    rw [List.map_map]
    refine q.trans (.of_eq (List.ext_getElem (by simp) fun i h1 h2 => ?_))
    have h3 : i < Z.length := by simpa using h1
    simp [List.getD_eq_getElem?_getD, List.getElem?_eq_getElem h3]
  · have fs : (vs.map fun q => ((q.1, (Z.getD q.2 z0).2) : Nat × Addr × List Int)).map (·.1) = vs.map (·.1) := by rw [List.map_map] <;> rfl
    refine ⟨by rw [fs, hvs] <;> rfl, by rw [fs]; exact r1, rfl, hM, fun z hz2 => ?_⟩
    obtain ⟨q, hq, rfl⟩ := List.mem_map.mp hz2
    obtain ⟨b1, b2⟩ := (mv (j := q.1) (k := q.2)).1 hq
    obtain ⟨h, K, a1, a2, a3⟩ := W.at_ q.1 q.2 b1 b2
    have lq := lim q hq
    have eh : thash P w (Z.getD q.2 z0).2.2 = h := by
      rw [hg, List.getElem?_eq_getElem lq] at a1
      rw [List.getD_eq_getElem?_getD, List.getElem?_eq_getElem lq]
      exact Option.some.inj a1
    refine ⟨K, by show way M (thash P w (Z.getD q.2 z0).2.2) K = q.1; rw [eh]; exact a2, fun c hc => ?_⟩
    show way M (thash P w (Z.getD q.2 z0).2.2) c ∈ _
    rw [eh, fs]
    obtain ⟨k2, e2⟩ := Option.ne_none_iff_exists'.mp (a3 c hc)
    exact List.mem_map.mpr ⟨(way M h c, k2), mv.2 ⟨way_in M h c, e2⟩, rfl⟩
end
end Sc
namespace Sc
open PySem PySem.Spec PyProof.Rows L2
/-! ### a set of tuples of ints, of at most 100 -/
structure ZR (P : Program) (w : World) (h : Heap) (a : Addr) (Z : Zs) (es : Array (Int × Value)) (ep : Nat) (t : SetTable) : Prop where
  ob : ∃ ox, h.get? a = some ox ∧ ox.ExactSet ∧ ox.data = .set es ep t
  rs : es.toList = Z.map (row1 P w)
  ly : Lay P w t Z
  nd : (Z.map (·.2.2)).Nodup
  pn : t.plain = true
  ld : w.params.followText "set-order" = true ∨ t.led = true
  rm : Z.length * 5 < t.mask * 3
  fw : Z.length ≤ 100
def Tups (P : Program) (w : World) (h : Heap) (Z : Zs) : Prop := ∀ z ∈ Z, IsT P w h z.2.2 z.2.1
theorem msk_odd {m : Nat} (h : Msk m) : m % 2 = 1 := by
  rcases h with h | h
  · exact mask_odd h
  · subst h; rfl
theorem msk_le {m : Nat} (h : Msk m) : m ≤ 511 := by
  rcases h with (h | h | h) | h <;> omega
section
variable {P : Program} {w : World} {A : Around} {E : Value → Shared → Prop} {s : Shared} {h : Heap} {a : Addr} {Z : Zs} {es : Array (Int × Value)} {ep : Nat} {t : SetTable}
theorem Lay.fits (R : Lay P w t Z) {n : Nat} (hn : n = Z.length) (hl : n ≤ t.mask) : t.fits n = true := by
  have e : t.place.size = n := by rw [hn, ← Array.length_toList, R.pl, List.length_map]
  simp only [SetTable.fits, SetTable.fill, R.dm, Bool.and_eq_true, beq_iff_eq, decide_eq_true_eq]
  exact ⟨e, by rw [e]; exact hl⟩
theorem ZR.size (R : ZR P w h a Z es ep t) : es.size = Z.length := by
  rw [← Array.length_toList, R.rs, List.length_map]
theorem ZR.fits (R : ZR P w h a Z es ep t) : t.fits es.size = true := R.ly.fits R.size (by have := R.rm; have := R.size; omega)
theorem ZR.ent (R : ZR P w h a Z es ep t) {i : Nat} {z : Nat × Addr × List Int} (e : Z[i]? = some z) : es[i]? = some (row1 P w z) := by
  rw [← Array.getElem?_toList, R.rs, List.getElem?_map, e]
  rfl
theorem pr_dummy (t : SetTable) (h : Int) : ∀ c, (pr t.mask h c).dummy = none
  | 0 => rfl
  | c + 1 => by
    have e : pr t.mask h (c + 1) = t.advance (pr t.mask h c) := nth_succ t.mask _ c
    rw [e, advance_dummy]
    exact pr_dummy t h c
/-- what the probe meets, from the c-th place of the way on -/
theorem probe_z (R : ZR P w h a Z es ep t) (g : Int) {K c : Nat} (hc : c ≤ K) (hK : K < 10 * SetTable.turns t.mask) (gap : ¬ At Z (way t.mask g K)) (bef : ∀ d, d < K → At Z (way t.mask g d)) :
    (∃ q i z, c ≤ q ∧ q < K ∧ Z[i]? = some z ∧ z.1 = way t.mask g q ∧ (∀ y ∈ Z, ∀ d, c ≤ d → d < q → y.1 = way t.mask g d → thash P w y.2.2 ≠ g) ∧
      t.probe (fun i => (es[i]?.map (·.1)).getD 0) g (pr t.mask g c) = some (.candidate (way t.mask g q) i (pr t.mask g (q + 1)))) ∨
    ((∀ y ∈ Z, ∀ d, c ≤ d → d < K → y.1 = way t.mask g d → thash P w y.2.2 ≠ g) ∧ t.probe (fun i => (es[i]?.map (·.1)).getD 0) g (pr t.mask g c) = some (.empty (way t.mask g K) none)) := by
  have sh : ∀ q, nth t.mask (pr t.mask g c) q = pr t.mask g (c + q) := fun q => (nth_add t.mask c _ q).symm
  have ris : Ris t.place.toList := by rw [R.ly.pl]; exact R.ly.up
  have hz : ∀ {i : Nat} {j : Nat}, t.place.toList[i]? = some j ↔ ∃ z, Z[i]? = some z ∧ z.1 = j := fun {i j} => by
    rw [R.ly.pl, List.getElem?_map, Option.map_eq_some_iff]
  have ht : ∀ (i : Nat) (z : Nat × Addr × List Int), Z[i]? = some z → (es[i]?.map (·.1)).getD 0 = thash P w z.2.2 := fun i z e => by
    rw [R.ent e] <;> rfl
  have keep : ∀ (n : Nat), (∀ (k' i' : Nat), k' < n → t.place.toList[i']? = some (nth t.mask (pr t.mask g c) k').j → (es[i']?.map (·.1)).getD 0 ≠ g) →
      ∀ y ∈ Z, ∀ d, c ≤ d → d < c + n → y.1 = way t.mask g d → thash P w y.2.2 ≠ g := fun n no y hy d d1 d2 e => by
    obtain ⟨i, hi, ei⟩ := List.getElem_of_mem hy
    have ey : Z[i]? = some y := by rw [List.getElem?_eq_getElem hi, ei]
    rw [← ht i y ey]
    refine no (d - c) i (by omega) (hz.2 ⟨y, ey, ?_⟩)
    rw [sh, show c + (d - c) = d by omega]
    exact e
  rcases go_spec t ris R.ly.dm (fun i => (es[i]?.map (·.1)).getD 0) g (10 * SetTable.turns t.mask) (K - c) (pr t.mask g c) (pr_dummy t g c) (by omega)
    (fun q hq => by rw [sh, R.ly.pl]; exact bef _ (by omega)) (by rw [sh, R.ly.pl, show c + (K - c) = K by omega]; exact gap) with ⟨q, i, hq, hi, hh, no, hp⟩ | ⟨no, hp⟩
  · obtain ⟨z, ez, e1⟩ := hz.1 hi
    rw [sh] at e1
    rw [sh, sh] at hp
    exact .inl ⟨c + q, i, z, by omega, by omega, ez, e1, keep q no, hp⟩
  · rw [sh, show c + (K - c) = K by omega] at hp
    refine .inr ⟨fun y hy d d1 d2 => keep (K - c) no y hy d d1 (by omega), hp⟩
theorem ZR.way (R : ZR P w h a Z es ep t) : ¬ t.gaveWay = true := by
  have := msk_odd R.ly.ms
  unfold SetTable.gaveWay
  rw [this]
  decide
theorem at_uniq (R : ZR P w h a Z es ep t) {i : Nat} {z y : Nat × Addr × List Int} (e : Z[i]? = some z) (hy : y ∈ Z) (q : y.1 = z.1) : y = z := by
  obtain ⟨k, hk, ek⟩ := List.getElem_of_mem hy
  have ey : Z[k]? = some y := by rw [List.getElem?_eq_getElem hk, ek]
  have f1 : (Z.map (·.1))[i]? = some z.1 := by rw [List.getElem?_map, e] <;> rfl
  have f2 : (Z.map (·.1))[k]? = some z.1 := by rw [List.getElem?_map, ey, ← q] <;> rfl
  have : i = k := by
    rcases Nat.lt_trichotomy i k with c | c | c
    · exact absurd (ris_lt R.ly.up f1 f2 c) (Nat.lt_irrefl _)
    · exact c
    · exact absurd (ris_lt R.ly.up f2 f1 c) (Nat.lt_irrefl _)
  subst this
  exact Option.some.inj (ey.symm.trans e)
/-- the search, from the c-th place of the way on -/
theorem search_z (R : ZR P w s.heap a Z es ep t) (T : Tups P w s.heap Z) {x : Addr} {k : List Int} (hx : IsT P w s.heap k x) (hu : A.units < cLine) {K : Nat} (hK : K < 10 * SetTable.turns t.mask)
    (gap : ¬ At Z (L2.way t.mask (thash P w k) K)) (bef : ∀ d, d < K → At Z (L2.way t.mask (thash P w k) d)) {Q : SetFound → Shared → Prop}
    (hin : k ∈ Z.map (·.2.2) → Q (.there none) s) (hout : k ∉ Z.map (·.2.2) → Q (.free (L2.way t.mask (thash P w k) K) false) s) :
    ∀ (f c : Nat) (st : Option SetTable.Probe), st.getD (t.probeStart (thash P w k)) = pr t.mask (thash P w k) c → c ≤ K → K < c + f →
      (∀ z ∈ Z, z.2.2 = k → ∃ d, c ≤ d ∧ d < K ∧ z.1 = L2.way t.mask (thash P w k) d) → wpAny (model P w) A (setSearchFrom a (.ref x) (thash P w k) true f st) Q E s
  | 0, c, _, _, h1, h2, _ => absurd h1 (by omega)
  | f + 1, c, st, hs, h1, h2, hre => by
    obtain ⟨o, ho, hex, hd⟩ := (R.ob)
    have now : ∀ {Q' : (Array (Int × Value) × Nat × SetTable) → Shared → Prop}, Q' (es, ep, t) s → wpAny (model P w) A (setState a) Q' E s := fun q => wpAny_setState_of ho hd R.fits q
    rw [setSearchFrom_succ]
    refine wpAny_bind (now ?_)
    dsimp only
    refine wp_if_neg R.way ?_
    try (refine wpAny_bind (wpAny_pure ?_))
    rw [hs]
    rcases probe_z R (thash P w k) h1 hK gap bef with ⟨q, i, z, q1, q2, ez, wz, no, hp⟩ | ⟨no, hp⟩
    · rw [hp]
      dsimp only
      have mz := List.mem_of_getElem? ez
      have go : wpAny (model P w) A (searchRest a (.ref x) (thash P w k) true f es t (L2.way t.mask (thash P w k) q) i (pr t.mask (thash P w k) (q + 1))) Q E s := by
        unfold searchRest
        rw [R.ent ez]
        dsimp only
        refine wpAny_bind (wpAny_holding (wpAny_eqBool_tuple hu (T z mz) hx (wpAny_bind (now ?_))))
        dsimp only
        by_cases e : z.2.2 = k
        · refine wp_if_pos (by simp [e]) (wpAny_pure (hin (List.mem_map.mpr ⟨z, mz, e⟩)))
        · refine wp_if_neg (by simp [e]) ?_
          try (refine wpAny_bind (wpAny_pure ?_))
          rw [sameMem]
          dsimp only
          have hsl : t.slot (L2.way t.mask (thash P w k) q) = .live i := slot_live (by rw [R.ly.pl]; exact R.ly.up) (by rw [R.ly.pl, List.getElem?_map, ez, ← wz] <;> rfl)
          simp only [if_true, hsl, R.ent ez]
          refine wpAny_bind (wpAny_isSame_ref_self ?_); refine wpAny_bind (wpAny_pure ?_)
          simp only [if_true]
          refine wp_if_neg (by simp [e]) ?_
          refine search_z R T hx hu hK gap bef hin hout f (q + 1) _ rfl (by omega) (by omega) fun y hy ky => ?_
          obtain ⟨d, d1, d2, d3⟩ := hre y hy ky
          refine ⟨d, ?_, d2, d3⟩
          rcases Nat.lt_trichotomy d q with c1 | c1 | c1
          · exact absurd (by rw [ky]) (no y hy d d1 c1 d3)
          · rw [c1, ← wz] at d3
            rw [at_uniq R ez hy d3] at ky
            exact absurd ky e
          · exact c1
      by_cases hl : t.led = true
      · refine (wp_if_neg (by simp [hl]) ?_)
        try (refine wpAny_bind (wpAny_pure ?_))
        exact go
      · refine wp_if_pos (by simp [hl]) (wpAny_bind (seen_tup hx (fun y hy => ?_) (wp_if_neg (by decide) ?_)))
        · obtain ⟨e, he, rfl⟩ := List.mem_map.mp hy
          have m : e ∈ es.toList := by
            have m1 : e ∈ es ∧ e.1 = thash P w k := by simpa using he
            simpa using m1.1
          rw [R.rs] at m
          obtain ⟨z2, m2, rfl⟩ := List.mem_map.mp m
          exact ⟨z2.2.2, z2.2.1, rfl, T z2 m2⟩
        · try refine wpAny_bind (wpAny_pure ?_)
          exact go
    · rw [hp]
      dsimp only
      refine wpAny_pure (hout (fun hm => ?_))
      obtain ⟨z, mz, e⟩ := List.mem_map.mp hm
      obtain ⟨d, d1, d2, d3⟩ := hre z mz e
      exact no z mz d d1 d2 d3 (by rw [e])
/-- the search that adding asks -/
theorem search_add (R : ZR P w s.heap a Z es ep t) (T : Tups P w s.heap Z) {x : Addr} {k : List Int} (hx : IsT P w s.heap k x) (hu : A.units < cLine) {Q : SetFound → Shared → Prop}
    (hin : k ∈ Z.map (·.2.2) → Q (.there none) s)
    (hout : ∀ j, k ∉ Z.map (·.2.2) → ¬ At Z j → On t.mask (At Z) (thash P w k) j → Q (.free j false) s) :
    wpAny (model P w) A (setSearch a (Value.ref x) (thash P w k) true) Q E s := by
  obtain ⟨j, lj, gj⟩ := R.ly.few (by have := R.rm; omega)
  obtain ⟨K, lK, gap, bef⟩ := first_gap R.ly.ms (At Z) (thash P w k) lj gj
  have l2 : 10 * SetTable.turns t.mask ≤ 5260 := by
    have := msk_le R.ly.ms
    unfold SetTable.turns
    omega
  unfold setSearch
  refine search_z R T hx hu lK gap bef hin (fun n => hout _ n gap ⟨K, rfl, bef⟩) 100000 0 none rfl (Nat.zero_le _) (by omega) fun z mz e => ?_
  obtain ⟨d, ed, bd⟩ := R.ly.on z mz
  rw [e] at ed bd
  have az : At Z z.1 := List.mem_map.mpr ⟨z, mz, rfl⟩
  refine ⟨d, Nat.zero_le _, ?_, ed.symm⟩
  rcases Nat.lt_trichotomy d K with c | c | c
  · exact c
  · rw [c] at ed
    rw [ed] at gap
    exact absurd az gap
  · exact absurd (bd K c) gap
end
end Sc
namespace Sc
open PySem PySem.Spec PyProof.Rows L2
section
variable {P : Program} {w : World} {A : Around} {E : Value → Shared → Prop} {s : Shared} {a : Addr} {Z : Zs} {es : Array (Int × Value)} {ep : Nat} {t : SetTable}
/-- one more place taken -/
theorem Lay.put (R : Lay P w t Z) {j : Nat} {x : Addr} {k : List Int} (gap : ¬ At Z j) (on : On t.mask (At Z) (thash P w k) j) :
    ∃ p t1 Z1, t.put j = (t1, p) ∧ p ≤ Z.length ∧ Z1 = Z.take p ++ (j, x, k) :: Z.drop p ∧ Lay P w t1 Z1 ∧ t1.mask = t.mask ∧ t1.led = t.led ∧ t1.plain = t.plain ∧ t1.fill = Z.length + 1 := by
  have ris : Ris t.place.toList := by rw [R.pl]; exact R.up
  obtain ⟨lp, _, _⟩ := below_cut ris j
  have lz : t.place.size = Z.length := by rw [← Array.length_toList, R.pl, List.length_map]
  obtain ⟨p, ep⟩ : ∃ p, p = SetTable.below t.place j := ⟨_, rfl⟩
  obtain ⟨t1, et⟩ : ∃ t1, t1 = (t.put j).1 := ⟨_, rfl⟩
  have pl1 : t1.place.toList = (Z.take p ++ (j, x, k) :: Z.drop p).map (·.1) := by
    rw [et, put_place, ← ep, R.pl, List.map_append, List.map_cons, List.map_take, List.map_drop]
  have no : t.place[SetTable.below t.place j]? ≠ some j := fun z => gap (by
    have := List.mem_of_getElem? (l := t.place.toList) (by rw [Array.getElem?_toList]; exact z)
    rwa [R.pl] at this)
  have r1 : Ris t1.place.toList := by rw [et]; exact ris_insert ris no
  have dm1 : t1.dummies = #[] := by rw [et]; exact put_dm R.dm j
  have mem : ∀ z, z ∈ Z.take p ++ (j, x, k) :: Z.drop p ↔ z = (j, x, k) ∨ z ∈ Z := fun z => mem_ins
  have more : ∀ i, At Z i → At (Z.take p ++ (j, x, k) :: Z.drop p) i := fun i hi => by
    obtain ⟨z, mz, e⟩ := List.mem_map.mp hi
    exact List.mem_map.mpr ⟨z, (mem z).2 (.inr mz), e⟩
  refine ⟨p, t1, _, by rw [et, ep] <;> rfl, by rw [ep, ← lz]; exact lp, rfl, ⟨pl1, by rw [← pl1]; exact r1, dm1, by rw [et]; exact R.ms, fun z mz => ?_⟩, by rw [et] <;> rfl, by rw [et] <;> rfl, by rw [et] <;> rfl, ?_⟩
  · have em : t1.mask = t.mask := by rw [et] <;> rfl
    rw [em]
    rcases (mem z).1 mz with rfl | mz
    · exact on.mono more
    · exact (R.on z mz).mono more
  · have l1 : t1.place.size = Z.length + 1 := by rw [← Array.length_toList, pl1, List.length_map, len_ins Z (by rw [ep, ← lz]; exact lp)]
    simp only [SetTable.fill, l1, dm1, List.size_toArray, List.length_nil, Nat.add_zero]
theorem row_put (p j : Nat) (x : Addr) (k : List Int) : (Z.take p ++ (j, x, k) :: Z.drop p).map (row1 P w) = (Z.map (row1 P w)).take p ++ (thash P w k, Value.ref x) :: (Z.map (row1 P w)).drop p := by
  simp only [List.map_append, List.map_cons, List.map_take, List.map_drop]
theorem size_308 : SetTable.sizeAbove (SetTable.grown 77) = 512 := by decide +kernel
/-- the set's table laid anew, larger -/
theorem relay_z {o : Obj} (ho : s.heap.get? a = some o) (hex : o.ExactSet) (hd : o.data = .set es ep t) (rs : es.toList = Z.map (row1 P w)) (ly : Lay P w t Z) (fu : Z.length ≤ t.mask) (nd : (Z.map (·.2.2)).Nodup) (pn : t.plain = true)
    (ld : w.params.followText "set-order" = true ∨ t.led = true) (fw : Z.length ≤ 100) {wanted M : Nat} (hw : SetTable.sizeAbove wanted - 1 = M) (hM : Msk M) (h512 : SetTable.sizeAbove wanted ≤ 512) (rm : Z.length * 5 < M * 3) {Q : Unit → Shared → Prop}
    (hQ : ∀ h' Z' es' ep' t', Heap.SameBut a s.heap h' → ZR P w h' a Z' es' ep' t' → (Z'.map (·.2)).Perm (Z.map (·.2)) → Q () { s with heap := h' }) : wpAny (model P w) A (setRelay a wanted) Q E s := by
  have hz : es.size = Z.length := by rw [← Array.length_toList, rs, List.length_map]
  obtain ⟨t2, order, Z2, e, r2, pm, ly2, m2, l2, p2⟩ := lay_anew ly rs hw hM (by omega)
  have len2 : Z2.length = Z.length := by simpa using pm.length_eq
  have hz2 : (order.filterMap (es[·]?)).size = es.size := by rw [← Array.length_toList, r2, List.length_map, len2, hz]
  rw [setRelay_eq]
  refine wpAny_bind (wpAny_setState_of ho hd (ly.fits hz (by omega)) ?_)
  dsimp only
  refine wp_if_neg (by simp only [sizeLine_eq]; omega) ?_
  try (refine wpAny_bind (wpAny_pure ?_))
  rw [e]
  refine wpAny_bind ?_
  dsimp only
  refine wp_if_neg (by simp [hz2]) ?_
  try (refine wpAny_bind (wpAny_pure ?_))
  refine wpAny_pure (wpAny_storeSet_of ho hd ?_ (by rw [hz2, hz, sizeLine_eq]; omega))
  have pm3 : (Z2.map (·.2.2)).Perm (Z.map (·.2.2)) := by
    have := pm.map Prod.snd
    rw [List.map_map, List.map_map] at this
    exact this
  exact hQ _ Z2 _ _ t2 (Heap.SameBut.update ..) ⟨⟨_, store_at ho hd, ⟨hex.1, hex.2.1, hex.2.2⟩, rfl⟩, r2, ly2, pm3.nodup_iff.mpr nd, by rw [p2]; exact pn, by rw [l2]; exact ld, by rw [len2, m2]; exact rm, by rw [len2]; exact fw⟩ pm
/-- a tuple is put in -/
theorem add_z (R : ZR P w s.heap a Z es ep t) (T : Tups P w s.heap Z) {x : Addr} {k : List Int} (hx : IsT P w s.heap k x) (hu : A.units < cLine) (hf : Z.length + 1 ≤ 100) {Q : Bool → Shared → Prop}
    (hQ : ∀ b h' Z' es' ep' t', Heap.SameBut a s.heap h' → ZR P w h' a Z' es' ep' t' → (k ∈ Z.map (·.2.2) → Z'.map (·.2) = Z.map (·.2)) → (k ∉ Z.map (·.2.2) → (Z'.map (·.2)).Perm ((x, k) :: Z.map (·.2))) → Q b { s with heap := h' }) :
    wpAny (model P w) A (setAddHashed a (Value.ref x) (thash P w k)) Q E s := by
  obtain ⟨o, ho, hex, hd⟩ := (R.ob)
  have now : ∀ {A' : Around} {α : Type} {Q' : (Array (Int × Value) × Nat × SetTable) → Shared → Prop}, Q' (es, ep, t) s → wpAny (model P w) A' (setState a) Q' E s := fun q => wpAny_setState_of ho hd R.fits q
  unfold setAddHashed
  refine wpAny_holding ?_
  rw [show (100000 : Nat) = 99999 + 1 from rfl]; rw [setAddHashedIn_succ]
  refine wpAny_bind (now (α := Unit) ?_)
  dsimp only
  refine wp_if_neg (by simp [Value.scannable, byScan]) ?_
  try (refine wpAny_bind (wpAny_pure ?_))
  refine wpAny_bind (search_add R T hx hu (fun hm => ?_) fun j hm gap on => ?_)
  · exact wpAny_pure (hQ false s.heap Z es ep t (Heap.SameBut.refl a s.heap) R (fun _ => rfl) fun z => absurd hm z)
  · dsimp only
    refine wpAny_bind (now (α := Unit) ?_)
    dsimp only
    obtain ⟨p, t1, Z1, e1, lp, eZ, ly1, m1, l1, p1, f1⟩ := R.ly.put (x := x) gap on
    have pt : t1.plain = true := by rw [p1]; exact R.pn
    rw [e1]
    dsimp only
    first
      | (refine wpAny_bind ?_; refine wp_if_pos (by rw [pt]) ?_; refine hashBy_tup hx ?_)
      | refine wp_if_pos (by rw [pt]) (wpAny_bind (hashBy_tup hx ?_))
    simp only [if_true]
    have rs1 : (SetTable.insertAt es p (thash P w k, Value.ref x)).toList = Z1.map (row1 P w) := by
      rw [SetTable.toList_insertAt, eZ, row_put, R.rs]
    have pm : (Z1.map (·.2)).Perm ((x, k) :: Z.map (·.2)) := by
      rw [eZ]
      exact (put_perm Z p (j, x, k)).map Prod.snd
    have len1 : Z1.length = Z.length + 1 := by simpa using pm.length_eq
    have hz1 : (SetTable.insertAt es p (thash P w k, Value.ref x)).size = Z1.length := by rw [← Array.length_toList, rs1, List.length_map]
    have nd1 : (Z1.map (·.2.2)).Nodup := by
      have q := pm.map Prod.snd
      rw [List.map_cons, List.map_map, List.map_map] at q
      exact q.nodup_iff.mpr (List.nodup_cons.mpr ⟨hm, R.nd⟩)
    have hsz := R.size
    generalize SetTable.insertAt es p (thash P w k, Value.ref x) = es1 at rs1 hz1 ⊢
    refine wpAny_bind (wpAny_storeSet_of ho hd ?_ (by rw [hz1, len1, sizeLine_eq]; omega))
    have sb : Heap.SameBut a s.heap (s.heap.update a (Obj.putSet es1 t1)) := (Heap.SameBut.update ..)
    have ho1 := (store_at (es' := es1) (t' := t1) ho hd)
    have ld1 : w.params.followText "set-order" = true ∨ t1.led = true := by rw [l1]; exact R.ld
    generalize s.heap.update a (Obj.putSet es1 t1) = h1 at ho1 sb ⊢
    have full : t1.tooFull = decide ((Z.length + 1) * 5 ≥ t.mask * 3) := by
      unfold SetTable.tooFull
      rw [f1, m1]
    by_cases hb : (Z.length + 1) * 5 ≥ t.mask * 3
    · have hc : t1.tooFull = true := by rw [full]; simpa using hb
      first
        | (refine wpAny_bind ?_; refine wp_if_pos (by simp [hc]) ?_)
        | (refine wp_if_pos (by simp [hc]) ?_; refine wpAny_bind ?_)
      rw [hsz]
      obtain ⟨M, b1, b2, b3, b4⟩ : ∃ M, SetTable.sizeAbove (SetTable.grown (Z.length + 1)) - 1 = M ∧ Msk M ∧ SetTable.sizeAbove (SetTable.grown (Z.length + 1)) ≤ 512 ∧ (Z.length + 1) * 5 < M * 3 := by
        have hr := R.rm
        rcases R.ly.ms with (c | c | c) | c
        · have e : Z.length = 4 := by omega
          exact ⟨31, by rw [e, size_20], .inl (.inr (.inl rfl)), by rw [e, size_20]; omega, by omega⟩
        · have e : Z.length = 18 := by omega
          exact ⟨127, by rw [e, size_76], .inl (.inr (.inr rfl)), by rw [e, size_76]; omega, by omega⟩
        · have e : Z.length = 76 := by omega
          exact ⟨511, by rw [e, size_308], .inr rfl, by rw [e, size_308]; omega, by omega⟩
        · omega
      refine relay_z (s := { s with heap := h1 }) ho1 ⟨hex.1, hex.2.1, hex.2.2⟩ rfl rs1 ly1 (by have := R.rm; omega) nd1 pt ld1 (by omega) b1 b2 b3 (by rw [len1]; exact b4) fun h2 Z2 es2 ep2 t2 sb2 R2 pm2 => ?_
      exact wpAny_pure (hQ true h2 Z2 es2 ep2 t2 (sb.trans sb2) R2 (fun z => absurd z hm) fun _ => pm2.trans pm)
    · have hc : t1.tooFull = false := by rw [full]; simpa using hb
      first
        | refine wp_if_neg (by simp [hc]) ?_
        | (refine wpAny_bind ?_; refine wp_if_neg (by simp [hc]) ?_; refine wpAny_pure ?_)
      exact wpAny_pure (hQ true h1 Z1 es1 (ep + 1) t1 sb ⟨⟨_, ho1, ⟨hex.1, hex.2.1, hex.2.2⟩, rfl⟩, rs1, ly1, nd1, pt, ld1, by rw [len1, m1]; omega, by omega⟩ (fun z => absurd z hm) fun _ => pm)
/-! ### set(l) of a list of tuples -/
theorem ZR.keep {h h' : Heap} (R : ZR P w h a Z es ep t) (f : ∀ o, h.get? a = some o → h'.get? a = some o) : ZR P w h' a Z es ep t := by
  obtain ⟨o, ho, r⟩ := R.ob
  exact { R with ob := ⟨o, f o ho, r⟩ }
theorem zr_none {h : Heap} (ho : h.get? a = some (set0 w)) : ZR P w h a [] #[] 0 (.fresh 0 0 (!w.params.followText "set-order")) where
  ob := (⟨_, ho, ⟨rfl, rfl, rfl⟩, rfl⟩)
  rs := rfl
  ly := ⟨rfl, .nil, rfl, .inl (.inl rfl), fun z hz => nomatch hz⟩
  nd := .nil
  pn := rfl
  ld := by cases h : w.params.followText "set-order" <;> simp [SetTable.fresh]
  rm := by show 0 * 5 < 7 * 3; omega
  fw := Nat.zero_le _
/-- the state of the filling: the i-th item comes next -/
structure Fil (P : Program) (w : World) (h0 : Heap) (S : Addr) (ks : List (Addr × List Int)) (s0 : Shared) (i : Nat) (s : Shared) : Prop where
  old : ∀ b o, h0.get? b = some o → s.heap.get? b = some o
  got : ∃ Z es ep t, ZR P w s.heap S Z es ep t ∧ Got ks i (Z.map (·.2))
  gn : s.gens = s0.gens
  dr : s.drawn = s0.drawn
  os : s.os = s0.os
theorem fill_tups {I : Addr} {fp wr : List Addr} {n : Nat} {Pv : Nat → Value → Prop} {St : Nat → Shared → Prop} {R : Result → Shared → Prop}
    (W : WalksS P w A.in1 I fp wr (fun a b => b = a) n Pv St) (S : Addr) (hS : S ∉ fp) (ks : List (Addr × List Int)) (hn : n = ks.length) (h100 : n ≤ 100) (hv : ∀ i v, Pv i v → ∃ p, ks[i]? = some p ∧ v = .ref p.1)
    (h0 : Heap) (hk : ∀ p ∈ ks, IsT P w h0 p.2 p.1) (nS : h0.get? S = none) (nw : ∀ b ∈ wr, h0.get? b = none) (hu : A.in1.units < cLine) (s0 : Shared) (hR : ∀ s', Fil P w h0 S ks s0 n s' → R (.ok (.ret .none)) s') :
    ∀ (k i : Nat) (s : Shared), i + k = n → St i s → Fil P w h0 S ks s0 i s → codeAny (model P w) A (.builtin "set.update.loop" ⟨[.ref S, .ref I], []⟩) R s := by
  have on : ∀ {i : Nat} {s s' : Shared}, Moved wr (fun a b => b = a) s s' → Fil P w h0 S ks s0 i s → Fil P w h0 S ks s0 i s' := fun {i s s'} m Fl => by
    obtain ⟨Z, es, ep, t, r, g⟩ := Fl.got
    exact ⟨fun b o e => m.heap b o (fun c => by rw [nw b c] at e; cases e) (Fl.old b o e), ⟨Z, es, ep, t, r.keep fun o e => m.heap S o (fun c => hS (W.sub _ c)) e, g⟩, (show s'.gens = s.gens from m.gens).trans Fl.gn, m.drawn.trans Fl.dr, m.os.trans Fl.os⟩
  intro k
  induction k with
  | zero =>
    intro i s hi st Fl
    obtain rfl : i = n := by omega
    refine (codeAny_builtin F.entry_set_update_loop ?_)
    rw [Around.under_plainId (F.plain_set_update_loop) _]
    show wpAny (model P w) A.in1 (pyNext (.ref I) >>= _) _ _ s
    exact wpAny_bind (W.done s _ _ st fun s' m => wpAny_pure (hR s' (on m Fl)))
  | succ k ih =>
    intro i s hi st Fl
    refine (codeAny_builtin F.entry_set_update_loop ?_)
    rw [Around.under_plainId (F.plain_set_update_loop) _]
    show wpAny (model P w) A.in1 (pyNext (.ref I) >>= _) _ _ s
    refine wpAny_bind (W.item i s _ _ (by omega) st fun v s' pv st' m => ?_)
    obtain ⟨p, ep, rfl⟩ := hv i v pv
    have Fl' := on m Fl
    obtain ⟨Z, es, epo, t, r, g⟩ := Fl'.got
    have mk : ∀ q ∈ Z.map (·.2), q ∈ ks := fun q hq => List.mem_of_mem_take (g.sub q hq)
    have T : Tups P w s'.heap Z := fun z hz => isT_keep (hk z.2 (mk _ (List.mem_map.mpr ⟨z, hz, rfl⟩))) Fl'.old
    have hx : IsT P w s'.heap p.2 p.1 := isT_keep (hk p (List.mem_of_getElem? ep)) Fl'.old
    show wpAny (model P w) A.in1 (holding [Value.ref p.1] (setAdd S (.ref p.1)) >>= _) _ _ s'
    unfold setAdd
    refine wpAny_bind (wpAny_holding (wpAny_holding (wpAny_bind (wpAny_pyHash_tuple hu hx ?_))))
    refine add_z (s := { s' with toks := s'.toks + (p.2.length + 1) }) r T hx hu (by have := g.len; simp at this; omega) fun b h' Z' es' ep' t' sb r' c1 c2 => ?_
    have e2 : Z.map (·.2.2) = (Z.map (·.2)).map (·.2) := by rw [List.map_map] <;> rfl
    have g' : Got ks (i + 1) (Z'.map (·.2)) := by
      by_cases c : p.2 ∈ Z.map (·.2.2)
      · rw [c1 c]
        rw [e2] at c
        exact g.same ep c
      · exact g.more ep (c2 c)
    refine wpAny_pure ⟨plainId_quiet F.plain_set_update_loop _, ih (i + 1) _ (by omega) (W.frame _ s' h' _ st' (Nat.le_add_right _ _) fun b hb o e => ?_) ⟨fun b o e => ?_, ⟨Z', es', ep', t', r', g'⟩, Fl'.gn, Fl'.dr, Fl'.os⟩⟩
    · rw [sb.2 b (fun c => hS (by rw [← c]; exact hb))]
      exact e
    · exact (sb.2 b fun c => by rw [c, nS] at e; cases e).trans (Fl'.old b o e)
end
end Sc
namespace Sc
open PySem PySem.Spec PyProof.Rows L2
section
variable {P : Program} {w : World} {s : Shared} {A : Around} {E : Value → Shared → Prop}
/-- set(l) of a list of tuples of ints -/
theorem set_of_tups {l : Addr} {items : Array Value} {ks : List (Addr × List Int)} {Q : Value → Shared → Prop} (hh : A.handled = none) (hu : A.units + 8 < cLine) (hl : s.heap.IsList l items) (hit : items.toList = ks.map fun p => Value.ref p.1) (hk : ∀ p ∈ ks, IsT P w s.heap p.2 p.1) (hb : ks.length ≤ 100)
    (h : ∀ (h' : Heap) (tk : Nat) Z es ep t, ZR P w h' s.heap.objs.size Z es ep t → Got ks ks.length (Z.map (·.2)) → (∀ b o, s.heap.get? b = some o → h'.get? b = some o) → Q (.ref s.heap.objs.size) { s with heap := h', toks := tk }) :
    wpAny (model P w) A (PySem.call (.type "set") [.ref l]) Q E s := by
  have ll : l < s.heap.objs.size := by
    obtain ⟨o, ho, _⟩ := hl
    exact Heap.lt_size ho
  have hz : items.size = ks.length := by rw [← Array.length_toList, hit, List.length_map]
  have sz : (s.heap.push (set0 w)).objs.size = s.heap.objs.size + 1 := Heap.size_push ..
  refine set_of_list (Pw := fun h' => ∃ Z es ep t, ZR P w h' s.heap.objs.size Z es ep t ∧ Got ks ks.length (Z.map (·.2))) hl (fun A' R hA hU q => ?_) fun h' tk ⟨Z, es, ep, t, r, g⟩ k => h h' tk Z es ep t r g k
  have hw : A'.in1.handled = none := by simp [hA, hh]
  have nI : l ≠ (s.heap.push (set0 w)).objs.size := by rw [sz]; exact Nat.ne_of_lt (Nat.lt_succ_of_lt ll)
  have hu' : A'.in1.units < cLine := by
    have : A'.in1.units = A'.units + 1 := rfl
    omega
  refine fill_tups (n := items.size) (P := P) (w := w) ((Walks.list hw _ l nI items).toS) s.heap.objs.size (by rw [sz]; simp only [List.mem_cons, List.not_mem_nil, or_false, not_or]; exact ⟨Nat.ne_of_lt (Nat.lt_succ_self _), Nat.ne_of_gt ll⟩) ks hz (by omega) (fun i v hv => ?_) s.heap hk
    (Heap.get?_none_of_le (Nat.le_refl _)) (fun b hb => ?_) hu' s (fun s' Fl => ?_) items.size 0 _ (by omega) ⟨⟨_, Heap.get?_push_size _ rfl, rfl, rfl⟩, hl.push _ |>.push _⟩
    ⟨fun b o e => Heap.get?_push_of_some _ (Heap.get?_push_of_some _ e), ⟨[], #[], 0, _, zr_none (Heap.get?_push_of_some _ (Heap.get?_push_size _ rfl)), Got.zero ks⟩, rfl, rfl, rfl⟩
  · have e : (ks.map fun p => Value.ref p.1)[i]? = some v := by rw [← hit, Array.getElem?_toList]; exact hv
    rw [List.getElem?_map, Option.map_eq_some_iff] at e
    obtain ⟨p, e1, e2⟩ := e
    exact ⟨p, e1, e2.symm⟩
  · rw [List.mem_singleton.mp hb, sz]
    exact Heap.get?_none_of_le (Nat.le_succ _)
  · obtain ⟨h', g2, d2, tk, os2⟩ := s'
    have eg : g2 = s.gens := Fl.gn
    have ed : d2 = s.drawn := Fl.dr
    have eo : os2 = s.os := Fl.os
    subst eg ed eo
    obtain ⟨Z, es, ep, t, r, g⟩ := Fl.got
    exact q h' tk ⟨Z, es, ep, t, r, by rw [← hz]; exact g⟩ Fl.old
theorem lift_map {α β : Type} (f : α → β) : ∀ {l m : List β}, l.Perm m → ∀ L : List α, m = L.map f → ∃ R : List α, R.Perm L ∧ l = R.map f := by
  intro l m h
  induction h with
  | nil => intro L e; exact ⟨L, .refl _, e⟩
  | @cons x l m _ ih =>
    intro L e
    cases L with
    | nil => cases e
    | cons y L =>
      cases e
      obtain ⟨R, p, rfl⟩ := ih L rfl
      exact ⟨y :: R, p.cons y, rfl⟩
  | swap x y l =>
    intro L e
    match L, e with
    | a :: b :: L, e =>
      cases e
      exact ⟨b :: a :: L, .swap _ _ _, rfl⟩
  | trans _ _ ih1 ih2 =>
    intro L e
    obtain ⟨R, p, e2⟩ := ih2 L e
    obtain ⟨R', p', e3⟩ := ih1 R e2
    exact ⟨R', p'.trans p, e3⟩
def tupE (p : Addr × List Int) : PyData := .tuple (p.2.map .int)
theorem depA_ints : ∀ ns : List Int, PyData.depthAll (ns.map .int) = 0
  | [] => rfl
  | n :: ns => by simp only [List.map_cons, PyData.depthAll, PyData.depth, depA_ints ns, Nat.max_self]
theorem dep_tupE (p : Addr × List Int) : (tupE p).depth ≤ 60 := by simp only [tupE, PyData.depth, depA_ints]; omega
theorem lt_tupE (p q : Addr × List Int) : PySem.W.dataLt (tupE p) (tupE q) = decide (p.2 < q.2) := (PySem.W.dataLt_tuple ..).trans (PySem.W.dataLt_ints p.2 q.2)
theorem alike_tupE (p q : Addr × List Int) : PySem.W.alike (tupE p) (tupE q) = true := by
  have := PySem.W.alike_ints p.2 q.2
  simpa [tupE, PySem.W.alike] using this
theorem reads_ints {h : Heap} : ∀ {ns : List Int} {us : List Value}, IntsAre us ns → ReadsAll h us (ns.map .int) []
  | [], _, .nil => .nil
  | _ :: _, _, .cons n t r => .cons (as := []) (bs := []) (.int n t) (reads_ints r)
theorem reads_tupE {P : Program} {w : World} {h : Heap} {p : Addr × List Int} (x : IsT P w h p.2 p.1) : Reads h (.ref p.1) (tupE p) [] := by
  obtain ⟨o, items, n, ho, more⟩ := x; obtain ⟨hc, hd, hi⟩ := more
  exact .tuple ho hc hd (reads_ints (ints_of_items hi))
theorem refs_back {out : List Value} : ∀ {M : List (Addr × List Int)}, PySem.W.EachIs (fun (u : Value) (p : Addr × List Int) => u = Value.ref p.1) out M → out = M.map fun p => Value.ref p.1 := by
  intro M h
  induction h with
  | nil => rfl
  | cons h _ ih => rw [h, ih] <;> rfl
theorem refs_each : ∀ (L : List (Addr × List Int)), PySem.W.EachIs (fun (u : Value) (p : Addr × List Int) => u = Value.ref p.1 ∧ p ∈ L) (L.map fun p => Value.ref p.1) L
  | [] => .nil
  | p :: L => .cons ⟨rfl, List.mem_cons_self⟩ ((refs_each L).mono fun _ _ h => ⟨h.1, List.mem_cons_of_mem _ h.2⟩)
/-- sorted of a set of tuples of ints -/
theorem sorted_tups_set {a : Addr} {Z : Zs} {es : Array (Int × Value)} {ep : Nat} {t : SetTable} {Q : Value → Shared → Prop} (R : ZR P w s.heap a Z es ep t) (T : Tups P w s.heap Z) (ne : ∀ z ∈ Z, z.2.2 ≠ []) (hh : A.handled = none) (hu : A.units + 80 < cLine)
    (hQ : ∀ s' p (out : Array Value) (c : Nat) (M : List (Addr × List Int)), (∀ b o, s.heap.get? b = some o → s'.heap.get? b = some o) → s'.gens = s.gens → s'.os = s.os → s.heap.objs.size ≤ p →
      s'.heap.get? p = some (seqObj "list" out c) → out.toList = M.map (fun q => Value.ref q.1) → M.Perm (Z.map (·.2)) → (M.Pairwise fun y z => ¬ z.2 < y.2) → Q (.ref p) s') :
    wpAny (model P w) A (PySem.call (.builtin "sorted") [.ref a]) Q E s := by
  obtain ⟨o, ho, hex, hd⟩ := (R.ob)
  have hsz := R.size
  have hfw := R.fw
  refine (Calls.call_function_entry kind_sorted plain_sorted entry_sorted (args_sorted1 _) ?_)
  unfold Builtin.«sorted»
  refine wpAny_bind (m := checkCount "sorted" 1 1 _) (wpAny_pure (wpAny_bind (collect_set (A := A.in1) hh ⟨o, ho, hex.1, hd⟩ R.fits (by unfold scanBound; omega) (by rw [R.ly.pl]; exact R.ly.up) R.ld fun s1 vs k1 z1 g1 o1 pm => ?_)))
  have e0 : es.toList.map (·.2) = (Z.map (·.2)).map fun q => Value.ref q.1 := by rw [R.rs, List.map_map, List.map_map] <;> rfl
  obtain ⟨L1, pL, rfl⟩ := lift_map (fun q : Addr × List Int => Value.ref q.1) pm (Z.map (·.2)) e0
  have lv : L1.length = Z.length := by simpa using pL.length_eq
  refine wpAny_bind (wpAny_newList ?_ (by rw [List.length_map, sizeLine_eq]; omega))
  have oL : (s1.heap.push (seqObj "list" (L1.map fun q => Value.ref q.1).toArray 0)).get? s1.heap.objs.size = some (seqObj "list" (L1.map fun q => Value.ref q.1).toArray 0) := Heap.get?_push_size _ rfl
  refine wpAny_bind ?_; refine wpAny_holding ?_
  have T1 : ∀ p ∈ L1, IsT P w (s1.heap.push (seqObj "list" (L1.map fun q => Value.ref q.1).toArray 0)) p.2 p.1 := fun p hp => by
    obtain ⟨z, hz, rfl⟩ := List.mem_map.mp (pL.mem_iff.mp hp)
    exact isT_keep (T z hz) fun b u e => Heap.get?_push_of_some _ (k1 b u e)
  refine PySem.W.list_sort_data (R := fun (u : Value) (p : Addr × List Int) => u = Value.ref p.1) (enc := tupE) (bs := L1) oL ((refs_each L1).mono fun _ _ h => h.1) ((refs_each L1).mono fun u b h => ⟨[], by rw [h.1]; exact reads_tupE (T1 b h.2), List.not_mem_nil⟩)
    (PySem.W.AllAlike.of alike_tupE) ?_ (by rw [lv, sizeLine_eq]; omega) (fun b _ => ?_) fun out lo eo => ?_
  · refine .inl fun d hd => ?_
    obtain ⟨p, hp, rfl⟩ := List.mem_map.mp hd
    obtain ⟨z, hz, rfl⟩ := List.mem_map.mp (pL.mem_iff.mp hp)
    obtain ⟨x, r, e⟩ := List.exists_cons_of_ne_nil (ne z hz)
    exact ⟨.int x, r.map .int, by simp [tupE, e]⟩
  · have := dep_tupE b
    show A.in1.units + 1 + _ < cLine
    have : A.in1.units = A.units + 1 := rfl
    omega
  · have pm2 := List.mergeSort_perm L1 (PySem.W.dataLe false tupE)
    have pw := PySem.W.sort_pairwise (PySem.W.sortLe_total (PyProof.Rows.listOrd PyProof.Rows.itemOrd) false fun b : Addr × List Int => PySem.W.keyToks (tupE b)) L1
    obtain ⟨c, hc⟩ := sortedHeap_at (vs := L1.map fun q => Value.ref q.1) (out := out.toArray) oL
    refine wpAny_pure ⟨_, rfl, hQ _ s1.heap.objs.size out.toArray c _ (fun b u e => ?_) g1 o1 z1 hc (refs_back eo) (pm2.trans pL) (List.Pairwise.imp (fun {y z} h => ?_) pw)⟩
    · have q := k1 b u e
      have hlt := Heap.lt_size q
      show (sortedHeap (s1.heap.push _) s1.heap.objs.size _ out.toArray).get? b = some u
      rw [sortedHeap_old (Nat.ne_of_lt hlt) (by rw [size_push']; exact Nat.lt_succ_of_lt (hlt))]
      exact (Heap.get?_push_of_some _ q)
    · have h : (!PySem.W.dataLt (tupE z) (tupE y)) = true := h
      rw [lt_tupE] at h
      simpa using h
end
end Sc
namespace Sc
open PySem PySem.Spec PyProof.Rows L2
/-! ### sets of tuples of ints, as the walks name them -/
def SetPO (P : Program) (w : World) (a : Addr) (L : List (Addr × List Int)) : HO := .ext fun h => ∃ Z es ep t, ZR P w h a Z es ep t ∧ Z.map (·.2) = L
theorem setPO_new {P : Program} {w : World} {H : Hp} {h : Heap} {a : Addr} {L : List (Addr × List Int)} (R : ∃ Z es ep t, ZR P w h a Z es ep t ∧ Z.map (·.2) = L) : ObjOk P w H h a (SetPO P w a L) := by
  refine ⟨R, ?_, fun h1 h2 p k => ?_⟩
  · obtain ⟨Z, es, ep, t, r, _⟩ := R
    obtain ⟨o, ho, _⟩ := r.ob
    exact ⟨o, ho⟩
  · obtain ⟨Z, es, ep, t, r, e⟩ := p
    exact ⟨Z, es, ep, t, r.keep k, e⟩
def rSetP (P : Program) (w : World) (K : PySem.W.Frag) : List V → Hp → VK → Prop := fun vs H Q => ∃ (l : Addr) (ks : List (Addr × List Int)), vs = [V.ref l] ∧ SqL K H l (ks.map fun p => V.ref p.1) ∧ (∀ p ∈ ks, SqT K H p.1 (p.2.map V.int)) ∧ ks.length ≤ 100 ∧
  ∀ (a : Addr) (L : List (Addr × List Int)), H a = none → (∀ p ∈ L, p ∈ ks) → (∀ p ∈ ks, p.2 ∈ L.map (·.2)) → Q (.ref a) (upd H a (SetPO P w a L))
def rSrtP (P : Program) (w : World) (K : PySem.W.Frag) : List V → Hp → VK → Prop := fun vs H Q => ∃ (a : Addr) (L : List (Addr × List Int)), vs = [V.ref a] ∧ H a = some (SetPO P w a L) ∧ (∀ p ∈ L, SqT K H p.1 (p.2.map V.int)) ∧ (∀ p ∈ L, p.2 ≠ []) ∧
  ∀ (M : List (Addr × List Int)) (p : Addr), M.Perm L → (M.map (·.2)).Nodup → (M.Pairwise fun y z => ¬ z.2 < y.2) → H p = none → Q (.ref p) (upd H p (.lst (M.map fun q => V.ref q.1)))
section
variable {X : Cx} {k : Nat}
theorem cr_setP (hc : X.calm = true) (hr : Room k X.A) : CallR X (.type "set") (rSetP X.prog X.w X.K) := by
  intro pins s σ H vs us Q I; intro r h
  obtain ⟨l, ks, rfl, hl, hk, hb, q⟩ := h
  rw [Vals.ref1 r]
  obtain ⟨its, rv, pl, hz⟩ := (I.list hl)
  have hu := hr.un
  refine set_of_tups (P := X.prog) (w := X.w) (ks := ks) (I.ok.hd hc) (by omega) pl.isList (by simpa using refs_of_vals rv) (fun p hp => I.isT (hk p hp)) hb fun h' tk Z es ep t R g keep => ?_
  refine ⟨.ref s.heap.objs.size, upd H s.heap.objs.size (SetPO X.prog X.w s.heap.objs.size (Z.map (·.2))), I.laid (t' := tk) keep (Nat.le_refl _) (setPO_new ⟨Z, es, ep, t, R, rfl⟩), rfl, q _ _ (I.hok.fresh (Nat.le_refl _)) (fun p hp => List.mem_of_mem_take (g.sub p hp)) fun p hp => ?_⟩
  exact g.all p (by rw [List.take_length]; exact hp)
theorem cr_srtP (hc : X.calm = true) (hr : Room k X.A) : CallR X (.builtin "sorted") (rSrtP X.prog X.w X.K) := by
  intro pins s σ H vs us Q I; intro r h
  obtain ⟨a, L, rfl, ha, hk, ne, q⟩ := h
  rw [Vals.ref1 r]
  obtain ⟨Z, es, ep, t, R, rfl⟩ : ∃ Z es ep t, ZR X.prog X.w s.heap a Z es ep t ∧ Z.map (·.2) = L := (I.hok a _ ha).1
  have mz : ∀ z ∈ Z, z.2 ∈ Z.map (·.2) := fun z hz => List.mem_map.mpr ⟨z, hz, rfl⟩
  have hu := hr.un
  refine sorted_tups_set R (fun z hz => I.isT (hk z.2 (mz z hz))) (fun z hz => ne z.2 (mz z hz)) (I.ok.hd hc) (by omega) fun s' p out c M ko g1 o1 hp ho e pm pw => ?_
  have nd : (M.map (·.2)).Nodup := by
    have e2 : Z.map (·.2.2) = (Z.map (·.2)).map (·.2) := by rw [List.map_map] <;> rfl
    have := R.nd
    rw [e2] at this
    exact (pm.map (·.2)).nodup_iff.mpr this
  refine ⟨.ref p, upd H p (.lst (M.map fun q => V.ref q.1)), ?_, rfl, q M p pm nd pw (I.hok.fresh hp)⟩
  have lm : M.length ≤ 100 := by
    have := R.fw
    have := pm.length_eq
    simp at this
    omega
  have J : Inv X pins σ (upd H p (.lst (M.map fun q => V.ref q.1))) { s with heap := s'.heap, toks := s'.toks } := I.laid (t' := s'.toks) ko hp ⟨by rw [List.length_map, sizeLine_eq]; omega, out.toList, c, by rw [e]; exact vals_of_refs M, ho⟩
  exact J.call' (ch := []) (s' := s') o1 Un.refl J.hok (by rw [g1]; exact I.bare) (fun _ z => nomatch z)
end
end Sc
namespace Sc
open PySem PySem.Spec PyProof.Rows L2
/-! ### the program's text by places; the names by slots -/
abbrev N_is_from : List Str := ["low", "high", "number"]
theorem sc_is_from : FnScope N_is_from ["low", "high", "number"] (defScope s_is_from) := ⟨rfl, rfl, rfl, by decide +kernel, rfl, by decide +kernel, by decide +kernel⟩
abbrev N_is_right_head : List Str := ["device", "number", "setting", "clock"]
theorem sc_is_right_head : FnScope N_is_right_head ["device", "number", "setting", "clock"] (defScope s_is_right_head) := ⟨rfl, rfl, rfl, by decide +kernel, rfl, by decide +kernel, by decide +kernel⟩
abbrev N_is_right : List Str := ["fact"]
theorem sc_is_right : FnScope N_is_right ["fact"] (defScope s_is_right) := ⟨rfl, rfl, rfl, by decide +kernel, rfl, by decide +kernel, by decide +kernel⟩
abbrev N_wanted : List Str := ["item", "device", "number"]
theorem sc_wanted : FnScope N_wanted ["item", "device", "number"] (defScope s_wanted) := ⟨rfl, rfl, rfl, by decide +kernel, rfl, by decide +kernel, by decide +kernel⟩
abbrev N_is_good : List Str := ["fact", "signature"]
theorem sc_is_good : FnScope N_is_good ["fact"] (defScope s_is_good) := ⟨rfl, rfl, rfl, by decide +kernel, rfl, by decide +kernel, by decide +kernel⟩
abbrev N_looks_of : List Str := ["facts", "device", "setting", "some", "fact"]
theorem sc_looks_of : FnScope N_looks_of ["facts", "device", "setting"] (defScope s_looks_of) := ⟨rfl, rfl, rfl, by decide +kernel, rfl, by decide +kernel, by decide +kernel⟩
abbrev N_put_right : List Str := ["looks", "clock", "behind", "a", "t", "b", "u", "k", "look"]
theorem sc_put_right : FnScope N_put_right ["looks", "clock"] (defScope s_put_right) := ⟨rfl, rfl, rfl, by decide +kernel, rfl, by decide +kernel, by decide +kernel⟩
abbrev N_time_of : List Str := ["facts", "device", "setting", "clock"]
theorem sc_time_of : FnScope N_time_of ["facts", "device", "setting", "clock"] (defScope s_time_of) := ⟨rfl, rfl, rfl, by decide +kernel, rfl, by decide +kernel, by decide +kernel⟩
abbrev N_scans_of : List Str := ["facts", "item", "fact"]
theorem sc_scans_of : FnScope N_scans_of ["facts", "item"] (defScope s_scans_of) := ⟨rfl, rfl, rfl, by decide +kernel, rfl, by decide +kernel, by decide +kernel⟩
abbrev N_items_of : List Str := ["facts", "fact"]
theorem sc_items_of : FnScope N_items_of ["facts"] (defScope s_items_of) := ⟨rfl, rfl, rfl, by decide +kernel, rfl, by decide +kernel, by decide +kernel⟩
abbrev N_clashes_of : List Str := ["facts", "many", "fact", "pair"]
theorem sc_clashes_of : FnScope N_clashes_of ["facts"] (defScope s_clashes_of) := ⟨rfl, rfl, rfl, by decide +kernel, rfl, by decide +kernel, by decide +kernel⟩
abbrev N_need : List Str := ["is_so"]
theorem sc_need : FnScope N_need ["is_so"] (defScope s_need) := ⟨rfl, rfl, rfl, by decide +kernel, rfl, by decide +kernel, by decide +kernel⟩
abbrev N_codes : List Str := ["text", "sign"]
theorem sc_codes : FnScope N_codes ["text"] (defScope s_codes) := ⟨rfl, rfl, rfl, by decide +kernel, rfl, by decide +kernel, by decide +kernel⟩
abbrev N_parted : List Str := ["row", "byte", "found", "one"]
theorem sc_parted : FnScope N_parted ["row", "byte"] (defScope s_parted) := ⟨rfl, rfl, rfl, by decide +kernel, rfl, by decide +kernel, by decide +kernel⟩
abbrev N_are_digits : List Str := ["row", "byte"]
theorem sc_are_digits : FnScope N_are_digits ["row"] (defScope s_are_digits) := ⟨rfl, rfl, rfl, by decide +kernel, rfl, by decide +kernel, by decide +kernel⟩
abbrev N_worth : List Str := ["row", "found", "byte"]
theorem sc_worth : FnScope N_worth ["row"] (defScope s_worth) := ⟨rfl, rfl, rfl, by decide +kernel, rfl, by decide +kernel, by decide +kernel⟩
abbrev N_number_behind : List Str := ["word", "letter", "many"]
theorem sc_number_behind : FnScope N_number_behind ["word", "letter", "many"] (defScope s_number_behind) := ⟨rfl, rfl, rfl, by decide +kernel, rfl, by decide +kernel, by decide +kernel⟩
abbrev N_place_among : List Str := ["word", "words", "some", "one"]
theorem sc_place_among : FnScope N_place_among ["word", "words"] (defScope s_place_among) := ⟨rfl, rfl, rfl, by decide +kernel, rfl, by decide +kernel, by decide +kernel⟩
abbrev N_right_fact : List Str := ["fact"]
theorem sc_right_fact : FnScope N_right_fact ["fact"] (defScope s_right_fact) := ⟨rfl, rfl, rfl, by decide +kernel, rfl, by decide +kernel, by decide +kernel⟩
abbrev N_read_worded : List Str := ["line", "words", "device", "number", "setting", "clock", "item", "kind", "office", "signature"]
theorem sc_read_worded : FnScope N_read_worded ["line"] (defScope s_read_worded) := ⟨rfl, rfl, rfl, by decide +kernel, rfl, by decide +kernel, by decide +kernel⟩
abbrev N_plain_number : List Str := ["row"]
theorem sc_plain_number : FnScope N_plain_number ["row"] (defScope s_plain_number) := ⟨rfl, rfl, rfl, by decide +kernel, rfl, by decide +kernel, by decide +kernel⟩
abbrev N_values_of : List Str := ["line", "found", "piece", "at", "name"]
theorem sc_values_of : FnScope N_values_of ["line"] (defScope s_values_of) := ⟨rfl, rfl, rfl, by decide +kernel, rfl, by decide +kernel, by decide +kernel⟩
abbrev N_read_named : List Str := ["line", "some", "names", "head", "item", "kind", "signature", "name"]
theorem sc_read_named : FnScope N_read_named ["line"] (defScope s_read_named) := ⟨rfl, rfl, rfl, by decide +kernel, rfl, by decide +kernel, by decide +kernel⟩
abbrev N_read_line : List Str := ["line", "form"]
theorem sc_read_line : FnScope N_read_line ["line", "form"] (defScope s_read_line) := ⟨rfl, rfl, rfl, by decide +kernel, rfl, by decide +kernel, by decide +kernel⟩
abbrev N_read_facts : List Str := ["text", "form", "found", "number", "line"]
theorem sc_read_facts : FnScope N_read_facts ["text", "form"] (defScope s_read_facts) := ⟨rfl, rfl, rfl, by decide +kernel, rfl, by decide +kernel, by decide +kernel⟩
abbrev N_padded : List Str := ["letter", "number", "many", "digits"]
theorem sc_padded : FnScope N_padded ["letter", "number", "many"] (defScope s_padded) := ⟨rfl, rfl, rfl, by decide +kernel, rfl, by decide +kernel, by decide +kernel⟩
abbrev N_worded : List Str := ["fact", "words"]
theorem sc_worded : FnScope N_worded ["fact"] (defScope s_worded) := ⟨rfl, rfl, rfl, by decide +kernel, rfl, by decide +kernel, by decide +kernel⟩
abbrev N_named : List Str := ["fact", "parts"]
theorem sc_named : FnScope N_named ["fact"] (defScope s_named) := ⟨rfl, rfl, rfl, by decide +kernel, rfl, by decide +kernel, by decide +kernel⟩
abbrev N_written : List Str := ["facts", "form", "fact"]
theorem sc_written : FnScope N_written ["facts", "form"] (defScope s_written) := ⟨rfl, rfl, rfl, by decide +kernel, rfl, by decide +kernel, by decide +kernel⟩
abbrev N_history_of : List Str := ["facts", "item", "found", "fact", "time", "told"]
theorem sc_history_of : FnScope N_history_of ["facts", "item"] (defScope s_history_of) := ⟨rfl, rfl, rfl, by decide +kernel, rfl, by decide +kernel, by decide +kernel⟩
abbrev N_Standing_init : List Str := ["self"]
theorem sc_Standing_init : FnScope N_Standing_init ["self"] (defScope s_Standing_init) := ⟨rfl, rfl, rfl, by decide +kernel, rfl, by decide +kernel, by decide +kernel⟩
abbrev N_Standing_is_over : List Str := ["self"]
theorem sc_Standing_is_over : FnScope N_Standing_is_over ["self"] (defScope s_Standing_is_over) := ⟨rfl, rfl, rfl, by decide +kernel, rfl, by decide +kernel, by decide +kernel⟩
abbrev N_Standing_does_fit : List Str := ["self", "fact"]
theorem sc_Standing_does_fit : FnScope N_Standing_does_fit ["self", "fact"] (defScope s_Standing_does_fit) := ⟨rfl, rfl, rfl, by decide +kernel, rfl, by decide +kernel, by decide +kernel⟩
abbrev N_Standing_is_odd : List Str := ["self", "fact"]
theorem sc_Standing_is_odd : FnScope N_Standing_is_odd ["self", "fact"] (defScope s_Standing_is_odd) := ⟨rfl, rfl, rfl, by decide +kernel, rfl, by decide +kernel, by decide +kernel⟩
abbrev N_Standing_believe : List Str := ["self", "fact", "kind"]
theorem sc_Standing_believe : FnScope N_Standing_believe ["self", "fact"] (defScope s_Standing_believe) := ⟨rfl, rfl, rfl, by decide +kernel, rfl, by decide +kernel, by decide +kernel⟩
abbrev N_Standing_go_on : List Str := ["self", "place", "fact"]
theorem sc_Standing_go_on : FnScope N_Standing_go_on ["self", "place", "fact"] (defScope s_Standing_go_on) := ⟨rfl, rfl, rfl, by decide +kernel, rfl, by decide +kernel, by decide +kernel⟩
abbrev N_Standing_told : List Str := ["self"]
theorem sc_Standing_told : FnScope N_Standing_told ["self"] (defScope s_Standing_told) := ⟨rfl, rfl, rfl, by decide +kernel, rfl, by decide +kernel, by decide +kernel⟩
abbrev N_standing_of : List Str := ["facts", "item", "found", "place", "time", "fact"]
theorem sc_standing_of : FnScope N_standing_of ["facts", "item"] (defScope s_standing_of) := ⟨rfl, rfl, rfl, by decide +kernel, rfl, by decide +kernel, by decide +kernel⟩
abbrev N_Refused_init : List Str := ["self", "number"]
theorem sc_Refused_init : FnScope N_Refused_init ["self", "number"] (defScope s_Refused_init) := ⟨rfl, rfl, rfl, by decide +kernel, rfl, by decide +kernel, by decide +kernel⟩
abbrev N_want : List Str := ["is_so", "number"]
theorem sc_want : FnScope N_want ["is_so", "number"] (defScope s_want) := ⟨rfl, rfl, rfl, by decide +kernel, rfl, by decide +kernel, by decide +kernel⟩
abbrev N_want_within : List Str := ["number", "low", "high"]
theorem sc_want_within : FnScope N_want_within ["number", "low", "high"] (defScope s_want_within) := ⟨rfl, rfl, rfl, by decide +kernel, rfl, by decide +kernel, by decide +kernel⟩
abbrev N_want_text : List Str := ["text", "byte"]
theorem sc_want_text : FnScope N_want_text ["text"] (defScope s_want_text) := ⟨rfl, rfl, rfl, by decide +kernel, rfl, by decide +kernel, by decide +kernel⟩
abbrev N_listed : List Str := ["row"]
theorem sc_listed : FnScope N_listed ["row"] (defScope s_listed) := ⟨rfl, rfl, rfl, by decide +kernel, rfl, by decide +kernel, by decide +kernel⟩
abbrev N_flat : List Str := ["rows", "found", "row"]
theorem sc_flat : FnScope N_flat ["rows"] (defScope s_flat) := ⟨rfl, rfl, rfl, by decide +kernel, rfl, by decide +kernel, by decide +kernel⟩
abbrev N_Desk_init : List Str := ["self"]
theorem sc_Desk_init : FnScope N_Desk_init ["self"] (defScope s_Desk_init) := ⟨rfl, rfl, rfl, by decide +kernel, rfl, by decide +kernel, by decide +kernel⟩
abbrev N_Desk_facts : List Str := ["self", "p"]
theorem sc_Desk_facts : FnScope N_Desk_facts ["self", "p"] (defScope s_Desk_facts) := ⟨rfl, rfl, rfl, by decide +kernel, rfl, by decide +kernel, by decide +kernel⟩
abbrev N_Desk_clear : List Str := ["self"]
theorem sc_Desk_clear : FnScope N_Desk_clear ["self"] (defScope s_Desk_clear) := ⟨rfl, rfl, rfl, by decide +kernel, rfl, by decide +kernel, by decide +kernel⟩
abbrev N_Desk_learn : List Str := ["self", "p", "told", "new", "fact"]
theorem sc_Desk_learn : FnScope N_Desk_learn ["self", "p", "told"] (defScope s_Desk_learn) := ⟨rfl, rfl, rfl, by decide +kernel, rfl, by decide +kernel, by decide +kernel⟩
abbrev N_Desk_tell : List Str := ["self", "p", "fact"]
theorem sc_Desk_tell : FnScope N_Desk_tell ["self", "p", "fact"] (defScope s_Desk_tell) := ⟨rfl, rfl, rfl, by decide +kernel, rfl, by decide +kernel, by decide +kernel⟩
abbrev N_Desk_send : List Str := ["self", "a", "b", "k", "facts"]
theorem sc_Desk_send : FnScope N_Desk_send ["self", "a", "b", "k"] (defScope s_Desk_send) := ⟨rfl, rfl, rfl, by decide +kernel, rfl, by decide +kernel, by decide +kernel⟩
abbrev N_Desk_standing : List Str := ["self", "p", "i", "facts"]
theorem sc_Desk_standing : FnScope N_Desk_standing ["self", "p", "i"] (defScope s_Desk_standing) := ⟨rfl, rfl, rfl, by decide +kernel, rfl, by decide +kernel, by decide +kernel⟩
abbrev N_Desk_state_told : List Str := ["self", "p", "i", "found"]
theorem sc_Desk_state_told : FnScope N_Desk_state_told ["self", "p", "i"] (defScope s_Desk_state_told) := ⟨rfl, rfl, rfl, by decide +kernel, rfl, by decide +kernel, by decide +kernel⟩
abbrev N_Desk_history : List Str := ["self", "p", "i", "odd", "rows", "place", "time", "fact", "told"]
theorem sc_Desk_history : FnScope N_Desk_history ["self", "p", "i"] (defScope s_Desk_history) := ⟨rfl, rfl, rfl, by decide +kernel, rfl, by decide +kernel, by decide +kernel⟩
abbrev N_Desk_time : List Str := ["self", "p", "d", "setting", "clock", "facts", "looks"]
theorem sc_Desk_time : FnScope N_Desk_time ["self", "p", "d", "setting", "clock"] (defScope s_Desk_time) := ⟨rfl, rfl, rfl, by decide +kernel, rfl, by decide +kernel, by decide +kernel⟩
abbrev N_Desk_clashes : List Str := ["self", "p", "found"]
theorem sc_Desk_clashes : FnScope N_Desk_clashes ["self", "p"] (defScope s_Desk_clashes) := ⟨rfl, rfl, rfl, by decide +kernel, rfl, by decide +kernel, by decide +kernel⟩
abbrev N_Desk_since : List Str := ["self", "p", "k", "facts", "found", "i"]
theorem sc_Desk_since : FnScope N_Desk_since ["self", "p", "k"] (defScope s_Desk_since) := ⟨rfl, rfl, rfl, by decide +kernel, rfl, by decide +kernel, by decide +kernel⟩
abbrev N_Desk_export : List Str := ["self", "p", "i", "form", "facts", "some", "fact"]
theorem sc_Desk_export : FnScope N_Desk_export ["self", "p", "i", "form"] (defScope s_Desk_export) := ⟨rfl, rfl, rfl, by decide +kernel, rfl, by decide +kernel, by decide +kernel⟩
abbrev N_Desk_import_text : List Str := ["self", "p", "form", "text", "facts", "wrong"]
theorem sc_Desk_import_text : FnScope N_Desk_import_text ["self", "p", "form", "text"] (defScope s_Desk_import_text) := ⟨rfl, rfl, rfl, by decide +kernel, rfl, by decide +kernel, by decide +kernel⟩
abbrev N_Desk_convert : List Str := ["self", "form", "text", "facts", "wrong"]
theorem sc_Desk_convert : FnScope N_Desk_convert ["self", "form", "text"] (defScope s_Desk_convert) := ⟨rfl, rfl, rfl, by decide +kernel, rfl, by decide +kernel, by decide +kernel⟩
abbrev N_Desk_same : List Str := ["self", "a", "b", "ones", "others", "items", "are_alike", "i"]
theorem sc_Desk_same : FnScope N_Desk_same ["self", "a", "b"] (defScope s_Desk_same) := ⟨rfl, rfl, rfl, by decide +kernel, rfl, by decide +kernel, by decide +kernel⟩
abbrev N_Desk_signed : List Str := ["self", "p", "i", "signer"]
theorem sc_Desk_signed : FnScope N_Desk_signed ["self", "p", "i"] (defScope s_Desk_signed) := ⟨rfl, rfl, rfl, by decide +kernel, rfl, by decide +kernel, by decide +kernel⟩
abbrev N_Desk_missing : List Str := ["self", "p", "d", "facts", "numbers", "found", "fact", "number"]
theorem sc_Desk_missing : FnScope N_Desk_missing ["self", "p", "d"] (defScope s_Desk_missing) := ⟨rfl, rfl, rfl, by decide +kernel, rfl, by decide +kernel, by decide +kernel⟩
abbrev N_Desk_at : List Str := ["self", "p", "office", "facts", "found", "i", "standing"]
theorem sc_Desk_at : FnScope N_Desk_at ["self", "p", "office"] (defScope s_Desk_at) := ⟨rfl, rfl, rfl, by decide +kernel, rfl, by decide +kernel, by decide +kernel⟩
abbrev N_Desk_sign : List Str := ["self", "i", "d", "number"]
theorem sc_Desk_sign : FnScope N_Desk_sign ["self", "i", "d", "number"] (defScope s_Desk_sign) := ⟨rfl, rfl, rfl, by decide +kernel, rfl, by decide +kernel, by decide +kernel⟩
abbrev N_Desk_differ : List Str := ["self", "a", "b", "ones", "others", "more", "fact"]
theorem sc_Desk_differ : FnScope N_Desk_differ ["self", "a", "b"] (defScope s_Desk_differ) := ⟨rfl, rfl, rfl, by decide +kernel, rfl, by decide +kernel, by decide +kernel⟩
abbrev N_Desk_counts : List Str := ["self", "p", "facts"]
theorem sc_Desk_counts : FnScope N_Desk_counts ["self", "p"] (defScope s_Desk_counts) := ⟨rfl, rfl, rfl, by decide +kernel, rfl, by decide +kernel, by decide +kernel⟩
abbrev N_Desk_of_facts : List Str := ["self", "call", "n", "rows"]
theorem sc_Desk_of_facts : FnScope N_Desk_of_facts ["self", "call", "n", "rows"] (defScope s_Desk_of_facts) := ⟨rfl, rfl, rfl, by decide +kernel, rfl, by decide +kernel, by decide +kernel⟩
abbrev N_Desk_of_places : List Str := ["self", "call", "n", "rows"]
theorem sc_Desk_of_places : FnScope N_Desk_of_places ["self", "call", "n", "rows"] (defScope s_Desk_of_places) := ⟨rfl, rfl, rfl, by decide +kernel, rfl, by decide +kernel, by decide +kernel⟩
abbrev N_Desk_answer : List Str := ["self", "call", "n", "rows", "e"]
theorem sc_Desk_answer : FnScope N_Desk_answer ["self", "call", "n", "rows"] (defScope s_Desk_answer) := ⟨rfl, rfl, rfl, by decide +kernel, rfl, by decide +kernel, by decide +kernel⟩
abbrev N_rows_at : List Str := ["calls", "at", "many", "found", "here", "k", "end"]
theorem sc_rows_at : FnScope N_rows_at ["calls", "at", "many"] (defScope s_rows_at) := ⟨rfl, rfl, rfl, by decide +kernel, rfl, by decide +kernel, by decide +kernel⟩
abbrev N_answers : List Str := ["calls", "desk", "found", "at", "call", "many", "more", "begin", "rows", "end", "told"]
theorem sc_answers : FnScope N_answers ["calls"] (defScope s_answers) := ⟨rfl, rfl, rfl, by decide +kernel, rfl, by decide +kernel, by decide +kernel⟩
/-! ### what the module's names stand for -/
abbrev Says (mg : Str → Option Value) (x : Str) (v : V) : Prop := ∃ u, mg x = some u ∧ RelV v u
/-- the written part; the classes Standing, Desk, WrongLine, Refused -/
structure Gx where
  K : PySem.W.Frag
  CS : Addr
  CD : Addr
  CW : Addr
  CR : Addr
structure Txt (G : Gx) (mg : Str → Option Value) : Prop where
  c_SCAN : Says mg "SCAN" (.int (0))
  c_LOOK : Says mg "LOOK" (.int (1))
  c_DEVICE : Says mg "DEVICE" (.int (1))
  c_NUMBER : Says mg "NUMBER" (.int (2))
  c_SETTING : Says mg "SETTING" (.int (3))
  c_CLOCK : Says mg "CLOCK" (.int (4))
  c_ITEM : Says mg "ITEM" (.int (5))
  c_KIND : Says mg "KIND" (.int (6))
  c_OFFICE : Says mg "OFFICE" (.int (7))
  c_SIGNATURE : Says mg "SIGNATURE" (.int (8))
  c_TIME : Says mg "TIME" (.int (5))
  c_MOST_DEVICE : Says mg "MOST_DEVICE" (.int (7))
  c_MOST_NUMBER : Says mg "MOST_NUMBER" (.int (9999))
  c_MOST_SETTING : Says mg "MOST_SETTING" (.int (9))
  c_MOST_CLOCK : Says mg "MOST_CLOCK" (.int (99999))
  c_MOST_ITEM : Says mg "MOST_ITEM" (.int (99))
  c_MOST_KIND : Says mg "MOST_KIND" (.int (9))
  c_MOST_OFFICE : Says mg "MOST_OFFICE" (.int (5))
  c_MOST_SIGNATURE : Says mg "MOST_SIGNATURE" (.int (999999))
  c_ROUND : Says mg "ROUND" (.int (97))
  c_LINE_END : Says mg "LINE_END" (.int (10))
  c_BLANK : Says mg "BLANK" (.int (32))
  c_SEMICOLON : Says mg "SEMICOLON" (.int (59))
  c_COLON : Says mg "COLON" (.int (58))
  c_ZERO : Says mg "ZERO" (.int (48))
  c_WORDED : Says mg "WORDED" (.int (0))
  c_NOTHING : Says mg "NOTHING" (.int (0))
  c_AT_OFFICE : Says mg "AT_OFFICE" (.int (1))
  c_UNDER_WAY : Says mg "UNDER_WAY" (.int (2))
  c_OUT_histories : Says mg "OUT_histories" (.int (3))
  c_HELD : Says mg "HELD" (.int (4))
  c_DELIVERED : Says mg "DELIVERED" (.int (5))
  c_SIGNED : Says mg "SIGNED" (.int (6))
  c_CUSTOMS : Says mg "CUSTOMS" (.int (7))
  c_RETURNED : Says mg "RETURNED" (.int (8))
  c_RETURNED_SIGNED : Says mg "RETURNED_SIGNED" (.int (9))
  c_POSTED_KIND : Says mg "POSTED_KIND" (.int (0))
  c_COME_KIND : Says mg "COME_KIND" (.int (1))
  c_ATTEMPT_KIND : Says mg "ATTEMPT_KIND" (.int (4))
  c_DELIVERED_KIND : Says mg "DELIVERED_KIND" (.int (6))
  c_RETURNED_KIND : Says mg "RETURNED_KIND" (.int (7))
  c_OUT_places : Says mg "OUT_places" (.int (-1))
  c_NO_TEXT : Says mg "NO_TEXT" (.int (-2))
  c_FULL : Says mg "FULL" (.int (-3))
  c_PLACES : Says mg "PLACES" (.int (3))
  c_MOST_FACTS : Says mg "MOST_FACTS" (.int (100))
  c_MOST_TEXT : Says mg "MOST_TEXT" (.int (4000))
  c_FIRST_MISSING : Says mg "FIRST_MISSING" (.int (50))
  c_LOOK_NAME : Says mg "LOOK_NAME" (.str "SYN")
  c_OFFICES : Says mg "OFFICES" (.str "ABCDEF")
  b_sorted : mg "sorted" = none
  b_set : mg "set" = none
  b_enumerate : mg "enumerate" = none
  b_len : mg "len" = none
  b_all : mg "all" = none
  b_range : mg "range" = none
  b_max : mg "max" = none
  b_int : mg "int" = none
  b_list : mg "list" = none
  b_tuple : mg "tuple" = none
  b_str : mg "str" = none
  b_ord : mg "ord" = none
  b_ValueError : mg "ValueError" = none
  t_KINDS : ∃ a, Says mg "KINDS" (.ref a) ∧ ∀ H, Dp G.K H (.ref a) dKINDS
  t_NAMES : ∃ a, Says mg "NAMES" (.ref a) ∧ ∀ H, Dp G.K H (.ref a) dNAMES
  t_SCAN_NAMES : ∃ a, Says mg "SCAN_NAMES" (.ref a) ∧ ∀ H, Dp G.K H (.ref a) dSCAN_NAMES
  t_LOOK_NAMES : ∃ a, Says mg "LOOK_NAMES" (.ref a) ∧ ∀ H, Dp G.K H (.ref a) dLOOK_NAMES
  t_FITS : ∃ a, Says mg "FITS" (.ref a) ∧ ∀ H, Dp G.K H (.ref a) dFITS
  t_BEHIND : ∃ a, Says mg "BEHIND" (.ref a) ∧ ∀ H, Dp G.K H (.ref a) dBEHIND
  t_SHAPES : ∃ a, Says mg "SHAPES" (.ref a) ∧ ∀ H, Dp G.K H (.ref a) dSHAPES
  clS : Cls G.K G.CS
  clD : Cls G.K G.CD
  nS_state : NoAttr G.K G.CS "state"
  nS_office : NoAttr G.K G.CS "office"
  nS_attempts : NoAttr G.K G.CS "attempts"
  nS_odd : NoAttr G.K G.CS "odd"
  nS_signer : NoAttr G.K G.CS "signer"
  nD_known : NoAttr G.K G.CD "known"
  xW : PySem.W.excIn G.K G.CW [.type "ValueError", .type "Exception", .type "BaseException", .type "object"] "ValueError.__new__" = true
  gW : mg "WrongLine" = some (.ref G.CW)
  kW : PySem.W.keepIn G.K (.ref G.CW) = true
  bW : PySem.W.subIn G.K (.ref G.CW) (.type "BaseException") = some true
  tW : PySem.W.typeIn G.K (.ref G.CW) = some (.type "type")
  eW : PySem.W.exmOne G.K (.ref G.CW) (.ref G.CW) = some true
  gR : mg "Refused" = some (.ref G.CR)
  eR : PySem.W.exmOne G.K (.ref G.CR) (.ref G.CR) = some true
  oR : OexC G.K G.CR
  xR : XfC G.K G.CR
  nR : PySem.W.findIn G.K (.ref G.CR) "number" = some none
  vV : PySem.W.findCls G.K (.type "ValueError") (.type "type") "__init__" = some (.val (.builtin "ValueError.__init__"))
/-! ### a def of the text as it stands -/
abbrev Df (K : PySem.W.Frag) (x qual : Str) (st : Stmt) (f : Addr) (fd : FuncData) : Prop := FunD K x qual (defArgs st) (defBody st) (defScope st) [] [] f fd
def Has (G : Gx) (mg : Str → Option Value) (x : Str) (st : Stmt) : Prop := ∃ f fd, Df G.K x x st f fd ∧ mg x = some (.ref f)
def HasM (G : Gx) (C : Addr) (m qual : Str) (st : Stmt) : Prop := ∃ f fd, Df G.K m qual st f fd ∧ Cls G.K C ∧ Meth G.K C m f
def HasI (G : Gx) (mg : Str → Option Value) (x : Str) (C : Addr) (qual : Str) (st : Stmt) : Prop := ∃ f fd, Df G.K "__init__" qual st f fd ∧ Mk G.K C f ∧ mg x = some (.ref C)
def HasR (G : Gx) (st : Stmt) : Prop := ∃ f fd, Df G.K "__init__" "Refused.__init__" st f fd ∧ PySem.W.findIn G.K (.ref G.CR) "__init__" = some (some (.ref f)) ∧ PySem.W.typeIn G.K (.ref f) = some (.type "function")
/-- Refused(..) may be made -/
structure MakR (P : Program) (w : World) (G : Gx) (mg : Str → Option Value) (base : Heap) (k : Nat) (sp : Sp) : Prop where
  ex : ∃ (f : Addr) (fd : FuncData) (ps : List Str), PySem.W.findIn G.K (.ref G.CR) "__init__" = some (some (.ref f)) ∧ PySem.W.typeIn G.K (.ref f) = some (.type "function") ∧ FnOk P w G.K mg base CX0 k f fd ps sp ∧ Binds G.K fd ps []
theorem ps_raiseR {X : Cx} {W : WX} {G : Gx} {k j : Nat} {sp : Sp} {e : Expr} {es : List Expr} {ta : TA} {p pos pos2 : Pos} (hc : X.calm = true) (tk : Takes X W) (hK : G.K = X.K) (T : Txt G X.mg) (c : MakR X.prog X.w G X.mg X.base k sp) (hr : Room j X.A) (hk : k + 1 ≤ j) (hg : Gl X "Refused") (ha : PA X (e :: es) ta) (he : starEach (e :: es) X.env = (false, eval e X.env) :: starEach es X.env := by rfl) (hpl : (backTo pos (starEach es X.env)).any (·.1) = false := by rfl) :
    PS X (.Raise (some (.Call (.Name "Refused" p) (e :: es) [] pos)) none pos2) (fun _ σ H => tMkO G.CR sp [] ta σ H fun cls d H' => W cls d σ H') := by
  obtain ⟨f, fd, ps, h1, h2, F, b⟩ := c.ex
  obtain ⟨K0, CS, CD, CW, CR⟩ := G
  have hK : K0 = X.K := hK
  subst hK
  exact ps_raise hc tk (pmk_oex T.oR h1 h2 F (hr.mono hk) b .nil (fun _ _ _ _ _ _ _ z => z.elim) hg T.gR ha (by decide) he hpl)
end Sc
namespace Sc
open PySem PySem.Spec PyProof.Rows L2
/-! ### rules with the written part told (for a comprehension's block) -/
section
variable {X : Cx} {K : PySem.W.Frag}
theorem ix_tupK (h : X.K = K) : IxR X (rIxT K) := by subst h; exact ix_tup
theorem ix_listK (h : X.K = K) : IxR X (rIxL K) := by subst h; exact ix_list
theorem op_eqDK (h : X.K = K) (hu : X.A.units + 64 < cLine) : OpR X (compareOp .Eq) (rEqD K) := by subst h; exact op_eqD hu
theorem op_neDK (h : X.K = K) (hu : X.A.units + 64 < cLine) : OpR X (compareOp .NotEq) (rNeD K) := by subst h; exact op_neD hu
theorem op_inDK (h : X.K = K) (hu : X.A.units + 65 < cLine) : OpR X (compareOp .In) (rInD K) := by subst h; exact op_inD hu
theorem op_notInDK (h : X.K = K) (hu : X.A.units + 65 < cLine) : OpR X (compareOp .NotIn) (rNotInD K) := by subst h; exact op_notInD hu
theorem op_inTDK (h : X.K = K) (hu : X.A.units + 65 < cLine) : OpR X (compareOp .In) (rInTD K) := by subst h; exact op_inTD hu
theorem op_in_seqK (h : X.K = K) : OpR X (compareOp .In) (rIn K false) := by subst h; exact op_in_seq
theorem op_notIn_seqK (h : X.K = K) : OpR X (compareOp .NotIn) (rIn K true) := by subst h; exact op_notIn_seq
theorem sl_listK (h : X.K = K) : SlR X (rSlL K) := by subst h; exact sl_list
theorem pg_tupK {es : List Expr} {k : Nat} {pos : Pos} {t : TGs} {n : Nat} (h0 : X.K = K) (hc : X.calm = true) (h : PGs X es t)
    (hn : (assignEach es X.env).length = n := by rfl) (hst : (assignEach es X.env).findIdx? (·.1) = none := by rfl) : PG X (.Tuple es k pos) (gTup K n t) := by subst h0; exact pg_tup hc h hn hst
end
end Sc
namespace Sc
open PySem PySem.Spec PyProof.Rows L2
/-! ### a walk over a list or a tuple -/
def iSeq (K : PySem.W.Frag) (t : TE) : TI := fun σ H R => t σ H fun x H1 => (∃ a, x = .ref a ∧ (∃ xs, SqL K H1 a xs) ∧ R (Itl K a) H1) ∨ ∃ a, x = .ref a ∧ (∃ xs, SqT K H1 a xs) ∧ R (Itt K a) H1
theorem pi_seq {X : Cx} {tg e : Expr} {t : TE} (he : PE X e t) : PI X tg e (iSeq X.K t) :=
  ⟨fun pins s σ H R I h => thn (he.run pins s σ H _ I h) fun v s1 hh => by
    obtain ⟨x, H1, I1, r1, q1⟩ := hh
    have free : ∀ c ∈ [s1.heap.objs.size], FpOk X pins H1 c := fun c hc => by
      rw [List.mem_singleton.mp hc]
      exact I1.fpOk Nat.le.refl (I1.hok.fresh Nat.le.refl)
    rcases q1 with ⟨a, rfl, ⟨ys, hy⟩, q⟩ | ⟨a, rfl, ⟨ys, hy⟩, q⟩
    · cases r1
      obtain ⟨us, _, pl, _⟩ := I1.list hy
      exact wpAny_pyIter_list pl.isList ⟨_, [s1.heap.objs.size], _, _, H1, rfl, I1.kept (t' := s1.toks) fun _ _ z => Heap.get?_push_of_some _ z, turn_list a _, ⟨_, Heap.get?_push_size _ rfl, rfl, rfl⟩, free, q⟩
    · cases r1
      obtain ⟨us, _, pl, _⟩ := I1.tuple hy
      exact wpAny_pyIter_tuple (show s1.heap.IsTuple a us.toArray from pl) ⟨_, [s1.heap.objs.size], _, _, H1, rfl, I1.kept (t' := s1.toks) fun _ _ z => Heap.get?_push_of_some _ z, turn_tuple a _, ⟨_, Heap.get?_push_size _ rfl, rfl, rfl⟩, free, q⟩⟩
end Sc
namespace Sc
open PySem PySem.Spec PyProof.Rows L2
/-! ### an exception out of a comprehension's item -/
theorem inv_xe {Y : Cx} {e : Value → Shared → Prop} {pins : List (Addr × Obj)} {σ : L2.St} {H : Hp} {s : Shared} (I : Inv Y pins σ H s) : Inv { Y with xe := e } pins σ H s := by
  obtain ⟨ok, h1, h2, h3, h4, h5, h6, h7, h8, h9, h10⟩ := I
  exact ⟨⟨ok.mod, ok.kind, ok.glob, ok.blt, ok.above, ok.inj, ok.has, ok.cab, ok.hd, ok.frames, ok.stk, ok.exf, ok.bs, ok.bsz, ok.noex, ok.exfs, ok.funs, ok.frf⟩, h1, h2, h3, h4, h5, h6, h7, h8, h9, h10⟩
theorem inv_ex {Y : Cx} {e : Value → Shared → Prop} {pins : List (Addr × Obj)} {σ : L2.St} {H : Hp} {s : Shared} (I : Inv { Y with xe := e } pins σ H s) : Inv Y pins σ H s := by
  obtain ⟨ok, h1, h2, h3, h4, h5, h6, h7, h8, h9, h10⟩ := I
  exact ⟨⟨ok.mod, ok.kind, ok.glob, ok.blt, ok.above, ok.inj, ok.has, ok.cab, ok.hd, ok.frames, ok.stk, ok.exf, ok.bs, ok.bsz, ok.noex, ok.exfs, ok.funs, ok.frf⟩, h1, h2, h3, h4, h5, h6, h7, h8, h9, h10⟩
theorem blk_passes {X : Cx} {E : XK} {pins : List (Addr × Obj)} {σ : L2.St} {H3 : Hp} {s3 : Shared} {scope : Scope} {ce : Env} {fp : List Addr} (tk : Takes X (fun cls d _ H => E cls d H)) (hst : X.stack = X.env :: X.outer) (hfe : X.env.frame = some X.env.locals)
    (I3 : Inv X pins σ H3 s3) (f3 : ∀ b ∈ fp, FpOk X pins H3 b) (hl : ce.locals = s3.heap.objs.size) (hf : ce.frame = X.env.frame) :
    ∀ σ', PassesAt (L2.CX X.prog X.w) { X.blk s3 H3 scope ce fp with xe := notedBy (model X.prog X.w) X.A ce (CompFails (model X.prog X.w) X.A X.xe ce) } σ' E := by
  rintro σ' pins' H' s' u s'' I0 c
  have I : Inv (X.blk s3 H3 scope ce fp) pins' σ' H' s' := inv_ex I0
  obtain ⟨a, B, H'', cls, d, rfl, fl, hok, ub, na, os, ag, hE⟩ := c
  have fl : HandSPX.FlyingZ B X.stack a (Zc cls d) s''.heap := fl
  have ub : UB (frs X.stack) H' H'' s'.heap B s''.heap := ub
  have base : Un (frs X.stack) fp H3 H' s3.heap s'.heap := I.base
  have fC : ∀ b ∈ frs X.stack, b ≠ ce.locals ∧ ∃ o, s3.heap.get? b = some o := fun b hb => by
    obtain ⟨_, o', e', _⟩ := I3.stack.mem hb
    refine ⟨fun z => ?_, o', e'⟩
    have := Heap.lt_size e'
    rw [z, hl] at this
    exact Nat.lt_irrefl _ this
  have nC : ce.locals ∉ frs X.stack := fun hm => (fC _ hm).1 rfl
  obtain ⟨m0, ⟨oC, es, ep, hoC, rC⟩, _⟩ := I.loc
  have hoC : s'.heap.get? ce.locals = some oC := hoC
  have freeC : H' ce.locals = none := I.free
  have BC : B.get? ce.locals = some oC := ub.keep _ _ hoC freeC nC
  have freeC' : H'' ce.locals = none := ub.free _ _ hoC freeC
  show wpAny (model X.prog X.w) X.A (noteFrame (.ref a) ce) (fun _ s1 => CompFails (model X.prog X.w) X.A X.xe ce (.ref a) s1) _ s''
  rw [noteFrame_env _ hf]
  have hfr : X.A.frames = some (X.env :: X.outer) := by rw [I3.ok.frames, hst]
  rw [hst] at fl
  refine HandSPX.looks_onZ Zc.steady hfr hfe fl fun h1 held up1 => ?_
  obtain ⟨hB, hen, hfun, oe, vs, T, oT, ts, he, hz, hd, h1v, hnT, hTe, hT, hdT, h3v⟩ := held
  refine ⟨m0, ⟨oC, es, ep, hB _ _ BC, rC⟩, fun h2 m2 hn2 sb => ?_⟩
  have ne : ∀ b, b ≠ ce.locals → h2.get? b = h1.get? b := fun b hb => sb.2 b hb
  have aC : a ≠ ce.locals := fun z => by rw [z, BC] at hen; cases hen
  have TC : T ≠ ce.locals := fun z => by rw [z, BC] at hnT; cases hnT
  obtain ⟨B', b1, b2⟩ := restrict B fun b => decide (b ≠ ce.locals)
  have B'b : ∀ b o, B'.get? b = some o → b ≠ ce.locals ∧ B.get? b = some o := fun b o e => by
    by_cases z : b = ce.locals
    · rw [b2 b (by simp [z])] at e; cases e
    · exact ⟨z, by rw [← b1 b (by simp [z])]; exact e⟩
  have B'n : ∀ b, B.get? b = none → B'.get? b = none := fun b e => by
    cases q : B'.get? b with
    | none => rfl
    | some o => rw [(B'b b o q).2] at e; cases e
  have held2 : HandSPX.HeldZ B' (X.env :: X.outer) a (Zc cls d) X.env.locals h2 := by
    refine ⟨fun b o e => ?_, B'n a hen, ?_, oe, vs, T, oT, ts, ?_, hz, hd, h1v, B'n T hnT, hTe, ?_, hdT, h3v⟩
    · obtain ⟨z, e⟩ := B'b b o e
      rw [ne b z]
      exact hB b o e
    · refine funFrames_none (Heap.FunFrames.sameBut sb hn2 hfun) fun L hL => B'n L ?_
      exact (hfun.mem hL).1
    · rw [ne a aC]; exact he
    · rw [ne T TC]; exact hT
  have hl2 := held2
  obtain ⟨_, _, _, oe', vs', T', oT', ts', he', hz', hd', h1v', _⟩ := hl2
  unfold PySem.passOn
  refine wpAny_bind (wpAny_field he' hd' h1v' ?_)
  rw [if_neg (show ¬ ((Value.ref T' == Value.none) = true) from by simp), hf, hfe]
  refine wpAny_bind (HandSPX.setFlight_onZ (s := { s'' with heap := h2 }) held2 fun h3 held3 up3 => wpAny_throw ?_)
  obtain ⟨hB3, hen3, hfun3, ht3⟩ := id held3
  -- the state without the exception
  obtain ⟨G, g1, g2⟩ := restrict h3 fun b => (B'.get? b).isSome || decide (b ∈ frs X.stack)
  have gB : ∀ b o, B'.get? b = some o → G.get? b = some o := fun b o e => by
    rw [g1 b (by simp [e])]
    exact hB3 b o e
  have gF : ∀ b, b ∈ frs X.stack → G.get? b = h3.get? b := fun b hb => g1 b (by simp [hb])
  have og : ∀ b o, G.get? b = some o → h3.get? b = some o ∧ ((B'.get? b).isSome = true ∨ b ∈ frs X.stack) := fun b o e => by
    cases q : ((B'.get? b).isSome || decide (b ∈ frs X.stack)) with
    | false => (rw [g2 b q] at e; cases e)
    | true =>
      rw [g1 b q] at e
      exact ⟨e, (by simpa [Bool.or_eq_true] using q)⟩
  have B'of : ∀ b o, b ≠ ce.locals → B.get? b = some o → B'.get? b = some o := fun b o z e => by rw [b1 b (by simp [z])]; exact e
  have old : ∀ b o, s3.heap.get? b = some o → b ≠ ce.locals := fun b o e z => by
    have := Heap.lt_size e
    rw [z, hl] at this
    exact Nat.lt_irrefl _ this
  -- a frame, from the call to here
  have frm : ∀ b, b ∈ frs X.stack → ∀ o, s'.heap.get? b = some o → (∀ vs, o.data ≠ .fields vs) → ∃ sl, G.get? b = some { o with slots := sl } := fun b hb o e hnf => by
    obtain ⟨sl1, e1⟩ := ub.slot b o e hb
    obtain ⟨sl2, e2⟩ := up1 b _ e1 hnf
    have e2 : h2.get? b = _ := (ne b (fC b hb).1).trans e2
    obtain ⟨sl3, e3⟩ := up3 b _ e2 hnf
    exact ⟨sl3, by rw [gF b hb]; exact e3⟩
  have frn : ∀ b, b ∈ frs X.stack → ∃ o, s'.heap.get? b = some o ∧ (∀ vs, o.data ≠ .fields vs) ∧ ∃ sl o0, s3.heap.get? b = some o0 ∧ o = { o0 with slots := sl } := fun b hb => by
    obtain ⟨_, o', e', hnf⟩ := I3.stack.mem hb
    obtain ⟨sl, e1⟩ := base.slot b o' e' (I3.stkFree b hb) hb fun hq => (List.mem_cons.mp (I3.stkSub b hb)).elim (f3 b hq).2.1 (f3 b hq).2.2.1
    exact ⟨_, e1, hnf, sl, o', e', rfl⟩
  refine tk _ _ ⟨a, B', { s3 with heap := G, gens := s''.gens, drawn := s''.drawn, toks := s''.toks }, pins, σ, H'', cls, d, rfl, ?_, fun b o e hb => ?_, Heap.UpToSlots.of_keeps fun b o e => (og b o e).1, .inr (.inr (by rw [hst]; exact held3)), na, os.trans I.os, ag, hE⟩
  · refine I3.call (ch := fp) ⟨fun b o e n hb hx => ?_, fun b o e n hb hx => ?_, fun b o e n hx => ?_, fun b o e hx => ?_, fun b xs e => ub.tups b xs (base.tups b xs e), fun b o xs e => ub.frzs b o xs (base.frzs b o xs e), fun b ps e => ?_⟩ ?_ ag fun b hb => ⟨(f3 b hb).2.2.2.1, (f3 b hb).2.1, (f3 b hb).2.2.2.2.1, (f3 b hb).2.2.2.2.2⟩
    · exact gB b o (B'of b o (old b o e) (ub.keep b o (base.keep b o e n hb hx) (base.free b o e n hx) hb))
    · obtain ⟨_, o', e', hnf⟩ := I3.stack.mem hb
      rw [e] at e'; cases e'
      obtain ⟨sl, e1⟩ := base.slot b o e n hb hx
      obtain ⟨sl2, e2⟩ := frm b hb _ e1 hnf
      exact ⟨sl2, e2⟩
    · obtain ⟨o', e1⟩ := base.there b o e hx
      exact ub.free b o' e1 (base.free b o e n hx)
    · obtain ⟨o', e1⟩ := base.there b o e hx
      by_cases hb : b ∈ frs X.stack
      · obtain ⟨o2, e2, hnf, _⟩ := frn b hb
        obtain ⟨sl2, e3⟩ := frm b hb _ e2 hnf
        exact ⟨_, e3⟩
      · obtain ⟨o2, e2⟩ := ub.there b o' e1 hb
        exact ⟨o2, gB b o2 (B'of b o2 (old b o e) e2)⟩
    · obtain ⟨m1, e1⟩ := base.tbls b ps e
      obtain ⟨m2, e2⟩ := (ub.tbls b _ e1)
      exact ⟨m1 ++ m2, e2.trans (by simp only [Array.append_assoc])⟩
    · refine fun b o q => (hok b o q).stay (fun c v hc r => gB c v (B'of c v (fun z => ?_) r)) (fun _ r => r) fun _ _ r => r
      subst z
      rcases hc with hc | hc
      · rw [hc, q] at freeC'; cases freeC'
      · rw [hc] at freeC'; cases freeC'
  · obtain ⟨e', h⟩ := og b o e
    rcases h with h | h
    · obtain ⟨o', q⟩ := (Option.isSome_iff_exists.mp h)
      have z := hB3 b o' q
      rw [e'] at z; cases z
      exact q
    · exact absurd h hb
section
variable {X : Cx} {s3 : Shared} {H3 : Hp} {scope : Scope} {ce : Env} {fp : List Addr}
/-- within the block: what its iterator holds stands by itself -/
theorem bl_fp {st : L2.St} {H' : Hp} {s' : Shared} (I : Inv (X.blk s3 H3 scope ce fp) [] st H' s') (hn : ∀ b ∈ fp, H' b = none) : ∀ b ∈ fp, FpOk (X.blk s3 H3 scope ce fp) [] H' b := by
  intro b hb
  have e := I.ok.exf b hb
  exact ⟨hn b hb, e.1, I.ok.exfs b hb, Or.inl hb, fun y c k => e.2 y c k, fun p hp => nomatch hp⟩
/-- out of the block again -/
theorem bl_out {pins : List (Addr × Obj)} {σ st : L2.St} {H' : Hp} {s' : Shared} (I3 : Inv X pins σ H3 s3) (hf : ∀ b ∈ fp, FpOk X pins H3 b) (I : Inv (X.blk s3 H3 scope ce fp) [] st H' s') : Inv X pins σ H' s' := by
  refine I3.call' (ch := fp) I.os I.base I.hok I.bare ?_
  intro b hb
  obtain ⟨_, a1, _, a3, a4, a5⟩ := hf b hb
  exact ⟨a3, a1, a4, a5⟩
/-- a turn's end is the next one's begin -/
theorem bl_next {tg : Expr} {J : It} {it : Addr} {tn : Nat → Heap → Prop} {vs : List Nat} {σ st : L2.St} {i : Nat} {s7 s' : Shared} {H' : Hp} (T : Turn X.prog X.w X.K tg J fp it tn) (t7 : tn i s7.heap) (hw : wipe st vs = wipe σ vs)
    (I : Inv (X.blk s3 H3 scope ce fp) ([] ++ pinsAt fp s7.heap) st H' s') : Inv (X.blk s3 H3 scope ce fp) [] (wipe σ vs) H' s' ∧ tn i s'.heap ∧ ∀ b ∈ fp, H' b = none := by
  have pin : ∀ b ∈ fp, ∀ o, s7.heap.get? b = some o → s'.heap.get? b = some o ∧ H' b = none := by
    intro b hb o e
    obtain ⟨p1, p2, _⟩ := I.pin (b, o) (List.mem_append.mpr (Or.inr (by simpa using mem_pinsAt hb e)))
    exact ⟨p1, p2⟩
  refine ⟨?_, T.keep i _ _ t7 fun b hb o e => (pin b hb o e).1, fun b hb => ?_⟩
  · refine Inv.weak (Inv.unpinned (pins := []) I) (by rw [← hw, wipe_length]) ?_
    intro j v e
    rw [← hw] at e
    exact (wipe_some e).left
  · obtain ⟨o, e, _⟩ := T.obj i _ t7 b hb
    exact (pin b hb o e).2
/-- the block: from its begin on -/
theorem lcx_block {E : XK} {pins : List (Addr × Obj)} {σ : L2.St} {Q : VK} {elt tg iter : Expr} {ifs : List Expr} {own : List (Str × Nat)} {pos : Pos} {g : TG} {tt : TT} {te : TE} {use : Value → Sem Unit} {Qf : Value → Shared → Prop}
    {J : It} {it D : Addr} {tn : Nat → Heap → Prop} {W : Nat → Nat → Hp → Prop} {m0 : Nat} (tk : Takes X (fun cls d _ H => E cls d H)) (hst : X.stack = X.env :: X.outer) (hfe : X.env.frame = some X.env.locals) (hc : X.calm = true) (hN : X.N.Nodup)
    (ok : BlkOk X.N X.env.scope scope own) (hce : compEnvC scope (cellsFrom (s3.heap.objs.size + 1) scope.names (cloFrom X.env.cells scope.names [])) s3.heap.objs.size X.env = ce)
    (pg : PG (X.blk s3 H3 scope ce fp) tg g) (pt : PTs (X.blk s3 H3 scope ce fp) ifs tt) (pe : ∀ xe : Value → Shared → Prop, (∀ st, PassesAt (L2.CX X.prog X.w) { X.blk s3 H3 scope ce fp with xe := xe } st E) → PE { X.blk s3 H3 scope ce fp with xe := xe } elt te)
    (I3 : Inv X pins σ H3 s3) (f3 : ∀ b ∈ fp, FpOk X pins H3 b ∧ b < s3.heap.objs.size) (T : Turn X.prog X.w X.K tg J fp it tn) (t3 : tn 0 s3.heap) (w0 : W 0 m0 H3)
    (turn : ∀ i m H, W i m H → (J.stop i H ∧ Q (.ref D) H) ∨ (J.go i H ∧ ∃ Nx : Hp → Prop, (∀ H', Nx H' → ∃ m', m' < m ∧ W (i + 1) m' H') ∧ ∀ x H', J.yld i H x H' → g x (wipe σ (own.map (·.2))) H' fun σ2 H2 => wipe σ2 (own.map (·.2)) = wipe σ (own.map (·.2)) ∧ tt σ2 H2 fun b H3 => if b = true then te σ2 H3 fun y H4 => ∃ acc, H4 D = some (.lst acc) ∧ acc.length < sizeLine ∧ Nx (upd H4 D (.lst (acc ++ [y]))) else Nx H3))
    (last : ∀ s' m H', Inv X pins σ H' s' → Q (.ref D) H' → s'.heap.Ns ce.locals m → FpOk X pins H' ce.locals → compEnds (model X.prog X.w) X.A X.xe (some use) Qf (.ref D) ce (.ok .next) s') :
    codeAny (model X.prog X.w) X.A (.compStart (.ListComp elt [⟨tg, iter, ifs, 0⟩] scope pos) 0 (.ref it) (.ref D) ce) (compEnds (model X.prog X.w) X.A X.xe (some use) Qf (.ref D) ce) { s3 with heap := pushCells (s3.heap.push { cls := .type "dict", data := .dict #[] }) scope.names } := by
  have hf : ∀ b ∈ fp, FpOk X pins H3 b := fun b hb => (f3 b hb).1
  have cL : ce.locals = s3.heap.objs.size := by rw [← hce]; rfl
  have B0 := block_start I3 ok hN f3
  rw [hce] at B0
  have px := pe _ (blk_passes tk hst hfe I3 hf cL (by rw [← hce]; rfl))
  have t4 : tn 0 (pushCells (s3.heap.push { cls := .type "dict", data := .dict #[] }) scope.names) := T.keep 0 _ _ t3 fun b _ o e => pushCells_keeps _ _ b o (Heap.get?_push_of_some _ e)
  obtain ⟨s4, e4⟩ : ∃ s4 : Shared, s4 = { s3 with heap := pushCells (s3.heap.push { cls := .type "dict", data := .dict #[] }) scope.names } := ⟨_, rfl⟩
  rw [← e4] at B0 ⊢
  have t4 : tn 0 s4.heap := by rw [e4]; exact t4
  have loop : codeAny (model X.prog X.w) X.A (.compLoop (.ListComp elt [⟨tg, iter, ifs, 0⟩] scope pos) 0 (.ref it) (.ref D) ce) (compEnds (model X.prog X.w) X.A X.xe (some use) Qf (.ref D) ce) s4 := by
    refine compLoop_any (fun n s' => ∃ i H', (Inv (X.blk s3 H3 scope ce fp) [] (wipe σ (own.map (·.2))) H' s' ∧ tn i s'.heap ∧ ∀ b ∈ fp, H' b = none) ∧ W i n H') ?_ m0 ⟨0, H3, ⟨B0, t4, fun b hb => (hf b hb).1⟩, w0⟩
    rintro n s5 ⟨i, H5, ⟨B5, t5, n5⟩, w5⟩
    rcases turn i n H5 w5 with ⟨stop, hq⟩ | ⟨go, Nx, less, step⟩
    · refine thnF (T.done (X.blk s3 H3 scope ce fp) rfl rfl rfl hc i [] s5 _ H5 _ B5 (bl_fp B5 n5) t5 stop) ?_
      rintro _ s6 ⟨rfl, B6⟩
      obtain ⟨m, hm, _⟩ := B6.loc
      have free : H5 ce.locals = none := B6.free
      refine last s6 m H5 (bl_out I3 hf B6) hq hm (I3.fpOk ?_ free)
      rw [cL]
      exact Nat.le_refl _
    · refine thnF (T.item (X.blk s3 H3 scope ce fp) rfl rfl rfl hc i [] s5 _ H5 _ B5 (bl_fp B5 n5) t5 go) ?_
      rintro _ s6 ⟨u, rfl, h6⟩
      refine thnF h6 ?_
      rintro _ s7 ⟨x, H7, B7, r7, y7, t7, n7⟩
      refine thnF (PG.run pg _ s7 _ H7 x u _ (B7.pinned (bl_fp B7 n7) (T.obj _ _ t7)) r7 (step x H7 y7)) ?_
      rintro _ s8 ⟨st8, H8, B8, hw, q8⟩
      refine thnF (PTs.run pt _ s8 st8 H8 _ B8 q8) ?_
      rintro b s9 ⟨H9, B9, q9⟩
      have fin : ∀ {s' : Shared} {H' : Hp}, Inv (X.blk s3 H3 scope ce fp) ([] ++ pinsAt fp s7.heap) st8 H' s' → Nx H' → ∃ m, m < n ∧ ∃ i H', (Inv (X.blk s3 H3 scope ce fp) [] (wipe σ (own.map (·.2))) H' s' ∧ tn i s'.heap ∧ ∀ b ∈ fp, H' b = none) ∧ W i m H' := fun B k => by
        obtain ⟨m', lt, w'⟩ := less _ k
        exact ⟨m', lt, i + 1, _, bl_next T t7 hw B, w'⟩
      cases b
      · simp only [if_false, Bool.false_eq_true] at q9 ⊢
        exact fin B9 q9
      · simp only [↓reduceIte] at q9 ⊢
        refine thn (px.run _ s9 st8 H9 _ (inv_xe B9) q9) ?_
        rintro z s10 ⟨yv, H10, B10, r10, acc, d10, l10, k⟩
        exact app_ok (X := X.blk s3 H3 scope ce fp) (inv_ex B10) d10 l10 r10 fun s11 B11 => fin B11 k
  exact codeAny_compStart_list loop (T.self X.A 0 s4 _ _ t4 loop)
end
/-- the whole comprehension whose list goes to a use -/
theorem lcx_core {X : Cx} {E : XK} {pins : List (Addr × Obj)} {s : Shared} {σ : L2.St} {H : Hp} {Q : VK} {elt tg iter : Expr} {ifs : List Expr} {scope : Scope} {own : List (Str × Nat)} {pos pos' : Pos} {wi : TI} {g : TG} {tt : TT} {te : TE} {use : Value → Sem Unit} {Qf : Value → Shared → Prop}
    (tk : Takes X (fun cls d _ H => E cls d H)) (hst : X.stack = X.env :: X.outer) (hfe : X.env.frame = some X.env.locals) (hc : X.calm = true) (hN : X.N.Nodup) (I : Inv X pins σ H s) (hi : PI X tg iter wi) (ok : BlkOk X.N X.env.scope scope own)
    (hg : ∀ s H C cl fp, PG (X.blk s H scope (compEnvC scope cl C X.env) fp) tg g) (ht : ∀ s H C cl fp, PTs (X.blk s H scope (compEnvC scope cl C X.env) fp) ifs tt)
    (he : ∀ (s : Shared) (H : Hp) (C : Addr) (cl : List (Str × Addr)) (fp : List Addr) (xe : Value → Shared → Prop), (∀ σ, PassesAt (L2.CX X.prog X.w) { X.blk s H scope (compEnvC scope cl C X.env) fp with xe := xe } σ E) → PE { X.blk s H scope (compEnvC scope cl C X.env) fp with xe := xe } elt te) (hs : ∀ x, foldedSetIterable iter X.env x = pure x) (h : tLc wi g tt te (own.map (·.2)) σ H Q)
    (last : ∀ D s' m H' (ce : Env), Inv X pins σ H' s' → Q (.ref D) H' → s'.heap.Ns ce.locals m → FpOk X pins H' ce.locals → compEnds (model X.prog X.w) X.A X.xe (some use) Qf (.ref D) ce (.ok .next) s') :
    wpAny (model X.prog X.w) X.A (comprehension (.ListComp elt [⟨tg, iter, ifs, 0⟩] scope pos) scope X.env pos' (newList []) false (eval iter X.env) (some use)) Qf X.xe s := by
  have clo : ∀ y ∈ scope.names, y.2 = .free → ∃ c, X.env.cells.lookup y.1 = some c := fun y hy e => (ok.free y hy e).elim (fun k => I.ok.has _ (Or.inl k)) fun k => I.ok.has _ (Or.inr k)
  refine comprehension_at (use := some use) rfl hs (closure_ok clo) ok.kind (fun y hy e => (ok.uniq y hy).trans (congrArg some e)) ?_
  refine thn (hi.run pins s σ H _ I h) fun _ s1 hx => thn hx ?_
  rintro _ s2 ⟨it, fp, tn, J, H2, rfl, I2, T, t2, f2, q⟩
  refine wpAny_newObj_type (newEnv_comp ?_) (Nat.zero_le _)
  have nL : H2 s2.heap.objs.size = none := I2.hok.fresh (Nat.le_refl _)
  obtain ⟨W, ⟨m0, w0⟩, turn⟩ := q _ nL
  have more : ∀ b o, s2.heap.get? b = some o → (s2.heap.push { cls := .type "list", data := .seq ([] : List Value).toArray }).get? b = some o := fun b o e => Heap.get?_push_of_some _ e
  refine lcx_block (Q := Q) (J := J) (W := W) (m0 := m0) (tn := tn) (H3 := upd H2 s2.heap.objs.size (.lst [])) (s3 := { s2 with heap := s2.heap.push { cls := .type "list", data := .seq ([] : List Value).toArray } }) tk hst hfe hc hN ok rfl (hg _ _ _ _ fp) (ht _ _ _ _ fp) (he _ _ _ _ fp)
    (I2.laid (t' := s2.toks) more (Nat.le_refl _) ⟨Nat.zero_le _, [], 0, .nil, Heap.get?_push_size _ rfl⟩) (fun b hb => ?_) T (T.keep 0 _ _ t2 fun b _ o e => more b o e) w0 turn fun s' m H' => last _ s' m H' _
  obtain ⟨o, eo, _⟩ := T.obj 0 _ t2 b hb
  have lt := Heap.lt_size eo
  obtain ⟨a0, a1⟩ := f2 b hb
  refine ⟨⟨?_, a1⟩, Nat.lt_of_lt_of_le lt (by rw [Heap.size_push]; omega)⟩
  rw [upd_ne (Nat.ne_of_lt lt)]
  exact a0
/-! ### a comprehension whose item may raise: y = [..] -/
theorem ps_setLcX {X : Cx} {E : XK} {i : Nat} {y : Str} {py : Pos} {elt tg iter : Expr} {ifs : List Expr} {scope : Scope} {own : List (Str × Nat)} {pos spos : Pos} {wi : TI} {g : TG} {tt : TT} {te : TE} (hc : X.calm = true) (hN : X.N.Nodup) (hy : X.N[i]? = some y) (hyl : X.env.scope.names.lookup y = some .local)
    (hsw : swapsWith (.ListComp elt [⟨tg, iter, ifs, 0⟩] scope pos) (some (.Name y py)) spos.line X.env = pure true) (tk : Takes X (fun cls d _ H => E cls d H)) (hi : PI X tg iter wi) (ok : BlkOk X.N X.env.scope scope own) (hg : ∀ (s : Shared) (H : Hp) (C : Addr) (cl : List (Str × Addr)) (fp : List Addr), PG (X.blk s H scope (compEnvC scope cl C X.env) fp) tg g) (ht : ∀ (s : Shared) (H : Hp) (C : Addr) (cl : List (Str × Addr)) (fp : List Addr), PTs (X.blk s H scope (compEnvC scope cl C X.env) fp) ifs tt)
    (he : ∀ (s : Shared) (H : Hp) (C : Addr) (cl : List (Str × Addr)) (fp : List Addr) (xe : Value → Shared → Prop), (∀ σ, PassesAt (L2.CX X.prog X.w) { X.blk s H scope (compEnvC scope cl C X.env) fp with xe := xe } σ E) → PE { X.blk s H scope (compEnvC scope cl C X.env) fp with xe := xe } elt te) (hs : ∀ x, foldedSetIterable iter X.env x = pure x := by intro _; rfl)
    (hst : X.stack = X.env :: X.outer := by rfl) (hfe : X.env.frame = some X.env.locals := by rfl) : PS X (.Assign [.Name y py] (.ListComp elt [⟨tg, iter, ifs, 0⟩] scope pos) spos) (tAsg (tLc wi g tt te (own.map (·.2))) (gName i)) := by
  refine ⟨fun pins s σ H D I h => ?_⟩
  rw [exec_Assign_Name_used (hs := hsw)]
  apply wpAny_bind
  refine wpAny_standAt (wpAny_bind ?_)
  show wpAny _ X.A (do let _ ← comprehension (.ListComp elt [⟨tg, iter, ifs, 0⟩] scope pos) scope X.env (firstIterPos [⟨tg, iter, ifs, 0⟩] pos) (newList []) false (eval iter X.env) (some (PySem.assign (.Name y py) X.env))) _ _ s
  refine wpAny_bind (thn (lcx_core (Q := fun x H1 => gName i x σ H1 D.nx) (Qf := fun _ s' => SP X pins D .next s') tk hst hfe hc hN I hi ok hg ht he hs h ?_) fun _ s' hq => wpAny_pure (wpAny_pure hq))
  intro L s' m H' ce I' q hn f
  show wpAny _ _ (PySem.assign (.Name y py) X.env (.ref L)) _ _ _
  refine wpAny_assign_Name ?_
  refine store_ok2 (v := V.ref L) I' hN hy (Or.inl hyl) rfl ?_ (Or.inr hyl)
  rintro s2 I2 ⟨a, sb, ha⟩
  have far : ce.locals ≠ a := by
    rcases ha with z | z
    · rw [z]
      exact f.2.1
    · exact fun k => f.2.2.2.2.1 y a z k.symm
  exact ⟨m, hn.sameBut sb far, fun h3 b3 => ⟨_, H', I2.turned (t' := s2.toks) (fun b o hb e => (b3.2 b hb).trans e) f.1 f.2.1 f.2.2.2.1 f.2.2.2.2.1 f.2.2.2.2.2, q⟩⟩
end Sc
namespace Sc
open PySem PySem.Spec PyProof.Rows L2
open Vbpoag (Fact Scan Body)
/-! ### facts as tuples -/
def factI (f : Fact) : List Int := match f.body with
  | .scan x => [0, (f.device : Int), (f.number : Int), (f.epoch : Int), (f.clock : Int), (x.item : Int), (x.kind : Int), (x.office : Int), (x.sign : Int)]
  | .sync t => [1, (f.device : Int), (f.number : Int), (f.epoch : Int), (f.clock : Int), (t : Int)]
def factD (f : Fact) : PyData := tupI (factI f)
def factsD (fs : List Fact) : PyData := .list (fs.map factD)
theorem factI_inj {f g : Fact} (h : factI f = factI g) : f = g := by
  obtain ⟨d, n, p, c, b⟩ := f
  obtain ⟨d', n', p', c', b'⟩ := g
  cases b with
  | scan x =>
    cases b' with
    | sync t => simp [factI] at h
    | scan y =>
      obtain ⟨x1, x2, x3, x4⟩ := x
      obtain ⟨y1, y2, y3, y4⟩ := y
      simp only [factI, List.cons.injEq, and_true] at h
      obtain ⟨_, h1, h2, h3, h4, h5, h6, h7, h8⟩ := h
      have h1 := Int.ofNat.inj h1
      have h2 := Int.ofNat.inj h2
      have h3 := Int.ofNat.inj h3
      have h4 := Int.ofNat.inj h4
      have h5 := Int.ofNat.inj h5
      have h6 := Int.ofNat.inj h6
      have h7 := Int.ofNat.inj h7
      have h8 := Int.ofNat.inj h8
      subst h1 h2 h3 h4 h5 h6 h7 h8
      rfl
  | sync x =>
    cases b' with
    | scan t => simp [factI] at h
    | sync y =>
      simp only [factI, List.cons.injEq, and_true] at h
      obtain ⟨_, h1, h2, h3, h4, h5⟩ := h
      have h1 := Int.ofNat.inj h1
      have h2 := Int.ofNat.inj h2
      have h3 := Int.ofNat.inj h3
      have h4 := Int.ofNat.inj h4
      have h5 := Int.ofNat.inj h5
      subst h1 h2 h3 h4 h5
      rfl
def btw (lo n hi : Int) : Bool := decide (lo ≤ n) && decide (n ≤ hi)
def hdOk (d n e c : Int) : Bool := btw 0 d 7 && btw 1 n 9999 && (btw 0 e 9 && btw 0 c 99999)
/-- a fact's numbers, whatever they are -/
inductive RF where
  | scan (d n e c i k o g : Int)
  | look (d n e c t : Int)
def RF.l : RF → List Int
  | .scan d n e c i k o g => [0, d, n, e, c, i, k, o, g]
  | .look d n e c t => [1, d, n, e, c, t]
def RF.ok : RF → Bool
  | .scan d n e c i k o g => hdOk d n e c && (btw 1 i 99 && btw 0 k 9 && (btw 0 o 5 && btw 0 g 999999))
  | .look d n e c t => hdOk d n e c && btw 0 t 99999
def RF.f : RF → Fact
  | .scan d n e c i k o g => { device := d.toNat, number := n.toNat, epoch := e.toNat, clock := c.toNat, body := .scan { item := i.toNat, kind := k.toNat, office := o.toNat, sign := g.toNat } }
  | .look d n e c t => { device := d.toNat, number := n.toNat, epoch := e.toNat, clock := c.toNat, body := .sync t.toNat }
theorem btw_iff {lo n hi : Int} : btw lo n hi = true ↔ lo ≤ n ∧ n ≤ hi := by unfold btw; simp
theorem RF.f_l {r : RF} (h : r.ok = true) : factI r.f = r.l := by
  cases r with
  | scan d n e c i k o g =>
    simp only [RF.ok, hdOk, Bool.and_eq_true, btw_iff] at h
    simp only [RF.f, RF.l, factI, List.cons.injEq, and_true, true_and]
    omega
  | look d n e c t =>
    simp only [RF.ok, hdOk, Bool.and_eq_true, btw_iff] at h
    simp only [RF.f, RF.l, factI, List.cons.injEq, and_true, true_and]
    omega
theorem inRange_scan (d n e c i k o g : Nat) : Vbpoag.inRange { device := d, number := n, epoch := e, clock := c, body := .scan { item := i, kind := k, office := o, sign := g } } = true ↔ (d < 8 ∧ 1 ≤ n ∧ n ≤ 9999 ∧ e ≤ 9 ∧ c ≤ 99999) ∧ (1 ≤ i ∧ i ≤ 99 ∧ k < 10 ∧ o < 6 ∧ g ≤ 999999) :=
  Bool.and_eq_true_iff.trans (and_congr decide_eq_true_iff decide_eq_true_iff)
theorem inRange_sync (d n e c t : Nat) : Vbpoag.inRange { device := d, number := n, epoch := e, clock := c, body := .sync t } = true ↔ (d < 8 ∧ 1 ≤ n ∧ n ≤ 9999 ∧ e ≤ 9 ∧ c ≤ 99999) ∧ t ≤ 99999 :=
  Bool.and_eq_true_iff.trans (and_congr decide_eq_true_iff decide_eq_true_iff)
theorem RF.scan_ok (d n e c i k o g : Int) : (RF.scan d n e c i k o g).ok = true ↔ ((((0 ≤ d ∧ d ≤ 7) ∧ (1 ≤ n ∧ n ≤ 9999)) ∧ ((0 ≤ e ∧ e ≤ 9) ∧ (0 ≤ c ∧ c ≤ 99999))) ∧ (((1 ≤ i ∧ i ≤ 99) ∧ (0 ≤ k ∧ k ≤ 9)) ∧ ((0 ≤ o ∧ o ≤ 5) ∧ (0 ≤ g ∧ g ≤ 999999)))) := by
  simp only [RF.ok, hdOk, Bool.and_eq_true, btw_iff]
theorem RF.look_ok (d n e c t : Int) : (RF.look d n e c t).ok = true ↔ ((((0 ≤ d ∧ d ≤ 7) ∧ (1 ≤ n ∧ n ≤ 9999)) ∧ ((0 ≤ e ∧ e ≤ 9) ∧ (0 ≤ c ∧ c ≤ 99999))) ∧ (0 ≤ t ∧ t ≤ 99999)) := by
  simp only [RF.ok, hdOk, Bool.and_eq_true, btw_iff]
theorem RF.f_range {r : RF} (h : r.ok = true) : Vbpoag.inRange r.f = true := by
  cases r with
  | scan d n e c i k o g =>
    obtain ⟨⟨⟨h1, h2⟩, h3, h4⟩, ⟨h5, h6⟩, h7, h8⟩ := (RF.scan_ok ..).mp h
    refine (inRange_scan ..).mpr ⟨⟨?_, ?_, ?_, ?_, ?_⟩, ?_, ?_, ?_, ?_, ?_⟩ <;> omega
  | look d n e c t =>
    obtain ⟨⟨⟨h1, h2⟩, h3, h4⟩, h5⟩ := (RF.look_ok ..).mp h
    refine (inRange_sync ..).mpr ⟨⟨?_, ?_, ?_, ?_, ?_⟩, ?_⟩ <;> omega
/-- a fact's own numbers -/
def RF.of (f : Fact) : RF := match f.body with
  | .scan x => .scan f.device f.number f.epoch f.clock x.item x.kind x.office x.sign
  | .sync t => .look f.device f.number f.epoch f.clock t
theorem RF.of_l (f : Fact) : (RF.of f).l = factI f := by
  obtain ⟨d, n, p, c, b⟩ := f
  cases b <;> rfl
theorem RF.of_ok (f : Fact) : (RF.of f).ok = Vbpoag.inRange f := by
  obtain ⟨d, n, p, c, b⟩ := f
  refine bool_eq_of_iff ?_
  cases b with
  | scan x =>
    obtain ⟨i, k, o, g⟩ := x
    refine (RF.scan_ok ..).trans (Iff.trans ?_ (inRange_scan ..).symm)
    dsimp only
    constructor
    · rintro ⟨⟨⟨h1, h2⟩, h3, h4⟩, ⟨h5, h6⟩, h7, h8⟩
      refine ⟨⟨?_, ?_, ?_, ?_, ?_⟩, ?_, ?_, ?_, ?_, ?_⟩ <;> omega
    · rintro ⟨⟨h1, h2, h3, h4, h5⟩, h6, h7, h8, h9, h10⟩
      refine ⟨⟨⟨?_, ?_⟩, ?_, ?_⟩, ⟨?_, ?_⟩, ?_, ?_⟩ <;> omega
  | sync t =>
    refine (RF.look_ok ..).trans (Iff.trans ?_ (inRange_sync ..).symm)
    dsimp only
    constructor
    · rintro ⟨⟨⟨h1, h2⟩, h3, h4⟩, h5⟩
      refine ⟨⟨?_, ?_, ?_, ?_, ?_⟩, ?_⟩ <;> omega
    · rintro ⟨⟨h1, h2, h3, h4, h5⟩, h6⟩
      refine ⟨⟨⟨?_, ?_⟩, ?_, ?_⟩, ?_⟩ <;> omega
/-! ### words for readings -/
theorem iteB {b : Bool} {A B : Prop} (h1 : b = true → A) (h2 : b = false → B) : if b = true then A else B := by
  cases b with
  | true => exact iteT (h1 rfl)
  | false => exact iteF (h2 rfl)
/-- what stood stands; R of the value and the heap -/
def post (H : Hp) (Q : VK) (R : V → Hp → Prop) : Prop := ∀ v H', Same H H' → R v H' → Q v H'
theorem dp_list_inv {K : PySem.W.Frag} {H : Hp} {v : V} {ds : List PyData} (h : Dp K H v (.list ds)) : ∃ a xs, v = .ref a ∧ SqL K H a xs ∧ DpAll K H xs ds := by
  cases h with
  | lst h1 h2 => exact ⟨_, _, rfl, h1, h2⟩
theorem dp_tup_inv {K : PySem.W.Frag} {H : Hp} {v : V} {ds : List PyData} (h : Dp K H v (.tuple ds)) : ∃ a xs, v = .ref a ∧ SqT K H a xs ∧ DpAll K H xs ds := by
  cases h with
  | tup h1 h2 => exact ⟨_, _, rfl, h1, h2⟩
theorem shaped_of {d : PyData} (h1 : d.canLay0 = true) (h2 : d.depth ≤ 64) : SeqAt.shaped d = true := by
  show (d.canLay0 && decide (d.depth ≤ 64)) = true
  rw [h1, decide_eq_true h2]
  rfl
end Sc
namespace Sc
open PySem PySem.Spec PyProof.Rows L2
/-! ### data without lists stay where lists are written -/
mutual
def lfree : PyData → Bool
  | .list _ => false
  | .dict _ => false
  | .tuple ds => lfreeAll ds
  | _ => true
def lfreeAll : List PyData → Bool
  | [] => true
  | d :: ds => lfree d && lfreeAll ds
end
theorem sqT_upd {K : PySem.W.Frag} {H : Hp} {a l : Addr} {xs ys : List V} {o : HO} (h : SqT K H a xs) (hl : H l = some (.lst ys)) : SqT K (upd H l o) a xs := by
  rcases h with (h | ⟨o', h⟩) | h
  · exact .inl (.inl (by rw [upd_ne (ne_of h hl (by intro z; cases z))]; exact h))
  · exact .inl (.inr ⟨o', by rw [upd_ne (ne_of h hl (by intro z; cases z))]; exact h⟩)
  · exact .inr h
mutual
theorem dp_upd {K : PySem.W.Frag} {H : Hp} {l : Addr} {ys : List V} {o : HO} (hl : H l = some (.lst ys)) : ∀ (d : PyData) (v : V), lfree d = true → Dp K H v d → Dp K (upd H l o) v d
  | .none, _, _, h => by cases h; exact .non
  | .bool _, _, _, h => by cases h; exact .bl _
  | .int _, _, _, h => by cases h; exact .int _
  | .str _, _, _, h => by cases h; exact .str _
  | .list _, _, f, _ => by simp [lfree] at f
  | .tuple ds, _, f, h => by cases h with | tup h1 h2 => exact .tup (sqT_upd h1 hl) (dpAll_upd hl ds _ (by simpa [lfree] using f) h2)
  | .dict _, _, _, h => by cases h
theorem dpAll_upd {K : PySem.W.Frag} {H : Hp} {l : Addr} {ys : List V} {o : HO} (hl : H l = some (.lst ys)) : ∀ (ds : List PyData) (vs : List V), lfreeAll ds = true → DpAll K H vs ds → DpAll K (upd H l o) vs ds
  | [], _, _, h => by cases h; exact .nil
  | d :: ds, _, f, h => by
    rw [lfreeAll, Bool.and_eq_true] at f
    cases h with | cons h1 h2 => exact .cons (dp_upd hl d _ f.1 h1) (dpAll_upd hl ds _ f.2 h2)
end
theorem lfreeAll_of : ∀ {ds : List PyData}, (∀ d ∈ ds, lfree d = true) → lfreeAll ds = true
  | [], _ => rfl
  | d :: ds, h => by rw [lfreeAll, h d (by simp), lfreeAll_of fun e he => h e (List.mem_cons_of_mem _ he)]; rfl
theorem lfree_ints : ∀ ns : List Int, lfreeAll (ns.map .int) = true
  | [] => rfl
  | _ :: ns => by rw [List.map_cons, lfreeAll, lfree_ints ns]; rfl
theorem lfree_tupI (ns : List Int) : lfree (tupI ns) = true := by
  show lfreeAll (ns.map .int) = true
  exact lfree_ints ns
theorem take_next' {α : Type} {l : List α} {i : Nat} {x : α} (h : l[i]? = some x) : l.take (i + 1) = l.take i ++ [x] := by
  rw [List.take_succ, h]; rfl
/-- the list that a comprehension makes at D, turn by turn, as lc_it tells it -/
abbrev Kept (J : It) (g : TG) (tt : TT) (te : TE) (vs : List Nat) (σ : L2.St) (H1 : Hp) (D : Addr) (Qd : Hp → Prop) : Prop := ∃ W : Nat → Nat → Hp → Prop, (∃ m, W 0 m (upd H1 D (.lst []))) ∧ ∀ i m H, W i m H → (J.stop i H ∧ Qd H) ∨ (J.go i H ∧ ∃ Nx : Hp → Prop, (∀ H', Nx H' → ∃ m', m' < m ∧ W (i + 1) m' H') ∧ ∀ x H', J.yld i H x H' → g x (wipe σ vs) H' fun σ2 H2 => wipe σ2 vs = wipe σ vs ∧ tt σ2 H2 fun b H3 => if b = true then te σ2 H3 fun y H4 => ∃ acc, H4 D = some (.lst acc) ∧ acc.length < sizeLine ∧ Nx (upd H4 D (.lst (acc ++ [y]))) else Nx H3)
/-- [e for x in xs if t], the items told by bs: what is kept is told by p, what is made by enc -/
theorem lc_data {K : PySem.W.Frag} {a D : Addr} {xs : List V} {β : Type} {bs : List β} (p : β → Bool) (enc : β → PyData) {g : TG} {tt : TT} {te : TE} {vs : List Nat} {σ : L2.St} {H1 : Hp} {Qd : Hp → Prop}
    (hD : H1 D = none) (hsq : SqL K H1 a xs) (hlen : xs.length = bs.length) (hsz : bs.length < sizeLine) (hfree : ∀ b ∈ bs, p b = true → lfree (enc b) = true)
    (turn : ∀ (i : Nat) (x : V) (b : β) (H : Hp) (Kf : Hp → Prop) (Kt : V → Hp → Prop), xs[i]? = some x → bs[i]? = some b → Same H1 H → (∀ H', Same H H' → p b = false → Kf H') → (∀ y H', Same H H' → p b = true → Dp K H' y (enc b) → Kt y H') →
      g x (wipe σ vs) H fun σ2 H2 => wipe σ2 vs = wipe σ vs ∧ tt σ2 H2 fun c H3 => if c = true then te σ2 H3 Kt else Kf H3)
    (hd : ∀ H ys, Same H1 H → H D = some (.lst ys) → DpAll K H ys ((bs.filter p).map enc) → Qd H) : Kept (Itl K a) g tt te vs σ H1 D Qd := by
  refine lc_it (walk_list (K := K) (a := a) (xs := xs)) (fun i H => Same H1 H ∧ ∃ acc, H D = some (.lst acc) ∧ acc.length ≤ i ∧ DpAll K H acc (((bs.take i).filter p).map enc)) ⟨same_new hD, [], upd_same, Nat.le_refl _, .nil⟩ (fun i H _ h => h.1.seq hsq) ?_ ?_
  · rintro i x H H' hi ⟨hs, acc, ha, hl, hdp⟩ ⟨rfl, hx⟩
    have hib : i < bs.length := by omega
    have hb : bs[i]? = some bs[i] := List.getElem?_eq_getElem hib
    have tk := take_next' hb
    refine turn i x bs[i] H' _ _ hx hb hs (fun H3 s3 hp => ?_) fun y H4 s4 hp d4 => ?_
    · refine ⟨hs.trans s3, acc, s3 _ _ ha, by omega, ?_⟩
      rw [tk, List.filter_append, List.filter_cons, if_neg (by rw [hp]; exact Bool.false_ne_true), List.filter_nil, List.append_nil]
      exact Same.dpAll s3 hdp
    · have ha4 := s4 _ _ ha
      have fr : lfreeAll (((bs.take i).filter p).map enc) = true := lfreeAll_of fun d hd => by
        obtain ⟨b, hb, rfl⟩ := (List.mem_map.mp hd)
        obtain ⟨h1, h2⟩ := List.mem_filter.mp hb
        exact hfree b (List.mem_of_mem_take h1) h2
      have frb := hfree bs[i] (List.getElem_mem _) hp
      refine ⟨acc, ha4, by omega, same_upd (hs.trans s4) hD, acc ++ [y], upd_same, by rw [List.length_append]; simp; omega, ?_⟩
      rw [tk, List.filter_append, List.map_append]
      refine dpAll_app (dpAll_upd ha4 _ _ fr (Same.dpAll s4 hdp)) ?_
      rw [List.filter_cons, if_pos hp]
      exact .cons (dp_upd ha4 _ _ frb d4) .nil
  · rintro H ⟨hs, acc, ha, _, hdp⟩
    rw [hlen, List.take_length] at hdp
    exact hd H acc hs ha hdp
/-- the facts' list, a fact of it -/
theorem facts_at {K : PySem.W.Frag} {H : Hp} {xs : List V} {β : Type} {enc : β → PyData} {bs : List β} {i : Nat} {x : V} {b : β} (h : DpAll K H xs (bs.map enc)) (hx : xs[i]? = some x) (hb : bs[i]? = some b) : Dp K H x (enc b) := by
  obtain ⟨d, h1, h2⟩ := dpAll_getV h hx
  rw [List.getElem?_map, hb] at h1
  cases h1
  exact h2
end Sc
namespace Sc
open PySem PySem.Spec PyProof.Rows L2
open Vbpoag (Fact Scan Body)
/-! ### data of ints: their shape, their equality -/
theorem decN {a b : Nat} : decide (V.int (a : Int) = V.int (b : Int)) = (a == b) := by
  refine bool_eq_of_iff ?_
  simp only [decide_eq_true_eq, V.int.injEq, beq_iff_eq]
  omega
theorem decI {a b : Int} : decide (V.int a = V.int b) = decide (a = b) := by
  refine bool_eq_of_iff ?_
  simp only [decide_eq_true_eq, V.int.injEq]
theorem lay_ints : ∀ ns : List Int, PyData.canLayAll0 (ns.map .int) = true
  | [] => (by simp [PyData.canLayAll0])
  | n :: ns => by simp [PyData.canLayAll0, PyData.canLay0, lay_ints ns]
theorem dep_ints : ∀ ns : List Int, PyData.depthAll (ns.map .int) = 0
  | [] => (by simp [PyData.depthAll])
  | n :: ns => by simp [PyData.depthAll, PyData.depth, dep_ints ns]
theorem lay_tupI (ns : List Int) : (tupI ns).canLay0 = true := by simp only [tupI, PyData.canLay0]; exact lay_ints ns
theorem lay_lstI (ns : List Int) : (lstI ns).canLay0 = true := by simp only [lstI, PyData.canLay0]; exact lay_ints ns
theorem dep_tupI (ns : List Int) : (tupI ns).depth = 1 := by simp only [tupI, PyData.depth, dep_ints]
theorem dep_lstI (ns : List Int) : (lstI ns).depth = 1 := by simp only [lstI, PyData.depth, dep_ints]
theorem sh_tupI (ns : List Int) : SeqAt.shaped (tupI ns) = true := shaped_of (lay_tupI ns) (by rw [dep_tupI]; omega)
theorem sh_lstI (ns : List Int) : SeqAt.shaped (lstI ns) = true := shaped_of (lay_lstI ns) (by rw [dep_lstI]; omega)
theorem lay_all {β : Type} {enc : β → PyData} (h : ∀ b, (enc b).canLay0 = true) : ∀ bs : List β, PyData.canLayAll0 (bs.map enc) = true
  | [] => (by simp [PyData.canLayAll0])
  | b :: bs => by simp [PyData.canLayAll0, h b, lay_all h bs]
theorem dep_all {β : Type} {enc : β → PyData} {n : Nat} (h : ∀ b, (enc b).depth ≤ n) : ∀ bs : List β, PyData.depthAll (bs.map enc) ≤ n
  | [] => (by simp [PyData.depthAll])
  | b :: bs => by
    have h1 := h b
    have h2 := dep_all h bs
    simp only [PyData.depthAll, List.map_cons]
    omega
theorem sh_list {β : Type} {enc : β → PyData} (h : ∀ b, (enc b).canLay0 = true) (h2 : ∀ b, (enc b).depth ≤ 60) (bs : List β) : SeqAt.shaped (.list (bs.map enc)) = true :=
  shaped_of (by simp only [PyData.canLay0]; exact lay_all h bs) (by have := dep_all h2 bs; simp only [PyData.depth]; omega)
theorem sh_facts (fs : List Fact) : SeqAt.shaped (factsD fs) = true := sh_list (fun f => lay_tupI _) (fun f => by show (tupI _).depth ≤ 60; rw [dep_tupI]; omega) fs
theorem sh_nil : SeqAt.shaped (.list []) = true := sh_lstI []
theorem eqvAll_ints : ∀ xs ys : List Int, PyData.eqvAll (xs.map .int) (ys.map .int) = decide (xs = ys)
  | [], [] => by simp [PyData.eqvAll]
  | [], _ :: _ => by simp [PyData.eqvAll]
  | _ :: _, [] => by simp [PyData.eqvAll]
  | x :: xs, y :: ys => by
    simp only [List.map_cons, PyData.eqvAll, PyData.eqv, eqvAll_ints xs ys]
    refine bool_eq_of_iff ?_
    simp
theorem eqv_tupI (xs ys : List Int) : PyData.eqv (tupI xs) (tupI ys) = decide (xs = ys) := by simp only [tupI, PyData.eqv]; exact eqvAll_ints xs ys
theorem eqv_lstI (xs ys : List Int) : PyData.eqv (lstI xs) (lstI ys) = decide (xs = ys) := by simp only [lstI, PyData.eqv]; exact eqvAll_ints xs ys
theorem eqv_nil (ds : List PyData) : PyData.eqv (.list ds) (.list []) = ds.isEmpty := by
  cases ds <;> simp [PyData.eqv, PyData.eqvAll]
theorem eqv_fact (f g : Fact) : PyData.eqv (factD f) (factD g) = decide (f = g) := by
  unfold factD
  rw [eqv_tupI]
  refine bool_eq_of_iff ?_
  simp only [decide_eq_true_eq]
  exact ⟨factI_inj, fun e => by rw [e]⟩
/-! ### pairs -/
def pairI (p : Nat × Nat) : List Int := [(p.1 : Int), (p.2 : Int)]
def pairD (p : Nat × Nat) : PyData := tupI (pairI p)
def pairsD (l : List (Nat × Nat)) : PyData := .list (l.map pairD)
theorem pairI_inj {p q : Nat × Nat} (h : pairI p = pairI q) : p = q := by
  simp only [pairI, List.cons.injEq, and_true] at h
  exact Prod.ext (Int.ofNat.inj h.1) (Int.ofNat.inj h.2)
theorem pairI_lt (p q : Nat × Nat) : pairI p < pairI q ↔ ltP p q := by
  simp only [pairI, List.cons_lt_cons_iff, ltP]
  simp
  omega
/-- rows that are strictly rising pairs -/
theorem pairs_of : ∀ {R : List (List Int)}, (∀ r ∈ R, ∃ p, r = pairI p) → ∃ L : List (Nat × Nat), R = L.map pairI
  | [], _ => ⟨[], rfl⟩
  | r :: R, h => by
    obtain ⟨p, e⟩ := h r (by simp)
    obtain ⟨L, e2⟩ := pairs_of fun r hr => h r (List.mem_cons_of_mem _ hr)
    exact ⟨p :: L, by rw [List.map_cons, ← e, ← e2]⟩
theorem pairs_strict {L : List (Nat × Nat)} (nd : (L.map pairI).Nodup) (pw : (L.map pairI).Pairwise fun y z => ¬ z < y) : L.Pairwise ltP := by
  rw [List.pairwise_map] at pw
  have nd2 : L.Nodup := by
    refine List.Pairwise.of_map pairI (fun a b h e => h (by rw [e])) nd
  refine List.Pairwise.imp_of_mem (fun {a b} ha hb h => ?_) (List.pairwise_and_iff.mpr ⟨pw, nd2⟩)
  rcases lt_tri (pairI a) (pairI b) with q | q | q
  · exact (pairI_lt a b).mp q
  · exact absurd (pairI_inj q) h.2
  · exact absurd q h.1
/-- a list of int tuples, by its addresses -/
theorem tup_addrs {K : PySem.W.Frag} {H : Hp} {β : Type} {g : β → List Int} : ∀ {bs : List β} {ys : List V}, DpAll K H ys (bs.map fun b => tupI (g b)) → ∃ ks : List (Addr × List Int), ys = ks.map (fun p => V.ref p.1) ∧ ks.map (·.2) = bs.map g ∧ ∀ p ∈ ks, SqT K H p.1 (p.2.map V.int)
  | [], _, h => by cases h; exact ⟨[], rfl, rfl, fun p hp => by cases hp⟩
  | b :: bs, _, h => by
    cases h with
    | cons h1 h2 =>
      obtain ⟨a, rfl, hs⟩ := dp_tupI h1
      obtain ⟨ks, e1, e2, e3⟩ := tup_addrs h2
      refine ⟨(a, g b) :: ks, by rw [e1]; rfl, by rw [List.map_cons, e2]; rfl, fun p hp => ?_⟩
      rcases (List.mem_cons.mp hp) with e | e
      · subst e; exact hs
      · exact e3 p e
theorem tups_dp {K : PySem.W.Frag} {H : Hp} : ∀ {M : List (Addr × List Int)}, (∀ p ∈ M, SqT K H p.1 (p.2.map V.int)) → DpAll K H (M.map fun q => V.ref q.1) ((M.map (·.2)).map tupI)
  | [], _ => .nil
  | m :: M, h => .cons (tupI_dp (h m (by simp))) (tups_dp fun p hp => h p (List.mem_cons_of_mem _ hp))
theorem ints_rising {ms : List Int} {ns : List Nat} (pw : ms.Pairwise (· < ·)) (hm : ∀ k : Int, k ∈ ms ↔ k ∈ ns.map fun (n : Nat) => (n : Int)) : ∃ L : List Nat, ms = L.map (fun (n : Nat) => (n : Int)) ∧ L.Pairwise (· < ·) ∧ ∀ n, n ∈ L ↔ n ∈ ns := by
  have hex : ∀ k ∈ ms, ∃ n : Nat, k = (n : Int) := fun k hk => by
    obtain ⟨n, _, e⟩ := List.mem_map.mp ((hm k).mp hk)
    exact ⟨n, e.symm⟩
  have key : ∀ l : List Int, (∀ k ∈ l, ∃ n : Nat, k = (n : Int)) → ∃ L : List Nat, l = L.map fun (n : Nat) => (n : Int) := by
    intro l
    induction l with
    | nil => exact fun _ => ⟨[], rfl⟩
    | cons a r ih =>
      intro h
      obtain ⟨n, e⟩ := h a (by simp)
      obtain ⟨L, e2⟩ := ih fun k hk => h k (List.mem_cons_of_mem _ hk)
      exact ⟨n :: L, by rw [List.map_cons, ← e, ← e2]⟩
  obtain ⟨L, rfl⟩ := key ms hex
  refine ⟨L, rfl, ?_, fun n => ?_⟩
  · rw [List.pairwise_map] at pw
    exact pw.imp fun h => by omega
  · have := hm (n : Int)
    simp only [List.mem_map] at this
    constructor
    · intro h
      obtain ⟨m, h1, h2⟩ := this.mp ⟨n, h, rfl⟩
      have : m = n := by omega
      exact this ▸ h1
    · intro h
      obtain ⟨m, h1, h2⟩ := this.mpr ⟨n, h, rfl⟩
      have : m = n := by omega
      exact this ▸ h1
def natsD (l : List Nat) : PyData := lstI (l.map fun (n : Nat) => (n : Int))
end Sc
namespace Sc
open PySem PySem.Spec PyProof.Rows L2
open Vbpoag (Fact Scan Body)
/-- a comprehension over what a walk gives, the items told by bs: what is kept is told by p, what is made by enc -/
theorem lc_walk {K : PySem.W.Frag} {J : It} {n : Nat} {G : Hp → Prop} {Y : Nat → Hp → V → Hp → Prop} (w : Walk J n G Y) {D : Addr} {β : Type} {bs : List β} (p : β → Bool) (enc : β → PyData) {g : TG} {tt : TT} {te : TE} {vs : List Nat} {σ : L2.St} {H1 : Hp} {Qd : Hp → Prop}
    (hD : H1 D = none) (hlen : n = bs.length) (hsz : bs.length < sizeLine) (hG : ∀ H, Same H1 H → G H) (hY : ∀ i H x H', Same H1 H → Y i H x H' → Same H H') (hfree : ∀ b ∈ bs, p b = true → lfree (enc b) = true)
    (turn : ∀ (i : Nat) (x : V) (b : β) (H H' : Hp) (Kf : Hp → Prop) (Kt : V → Hp → Prop), bs[i]? = some b → Same H1 H → Y i H x H' → (∀ H2, Same H' H2 → p b = false → Kf H2) → (∀ y H2, Same H' H2 → p b = true → Dp K H2 y (enc b) → Kt y H2) →
      g x (wipe σ vs) H' fun σ2 H2 => wipe σ2 vs = wipe σ vs ∧ tt σ2 H2 fun c H3 => if c = true then te σ2 H3 Kt else Kf H3)
    (hd : ∀ H ys, Same H1 H → H D = some (.lst ys) → DpAll K H ys ((bs.filter p).map enc) → Qd H) : Kept J g tt te vs σ H1 D Qd := by
  refine lc_it w (fun i H => Same H1 H ∧ ∃ acc, H D = some (.lst acc) ∧ acc.length ≤ i ∧ DpAll K H acc (((bs.take i).filter p).map enc)) ⟨same_new hD, [], upd_same, Nat.le_refl _, .nil⟩ (fun i H _ h => hG H h.1) ?_ ?_
  · rintro i x H H' hi ⟨hs, acc, ha, hl, hdp⟩ hx
    have hib : i < bs.length := by omega
    have hb : bs[i]? = some bs[i] := List.getElem?_eq_getElem hib
    have tk := take_next' hb
    have sy := hY i H x H' hs hx
    refine turn i x bs[i] H H' _ _ hb hs hx (fun H3 s3 hp => ?_) fun y H4 s4 hp d4 => ?_
    · refine ⟨hs.trans (sy.trans s3), acc, s3 _ _ (sy _ _ ha), by omega, ?_⟩
      rw [tk, List.filter_append, List.filter_cons, if_neg (by rw [hp]; exact Bool.false_ne_true), List.filter_nil, List.append_nil]
      exact Same.dpAll (sy.trans s3) hdp
    · have ha4 := s4 _ _ (sy _ _ ha)
      have fr : lfreeAll (((bs.take i).filter p).map enc) = true := lfreeAll_of fun d hd => by
        obtain ⟨b, hb, rfl⟩ := (List.mem_map.mp hd)
        obtain ⟨h1, h2⟩ := List.mem_filter.mp hb
        exact hfree b (List.mem_of_mem_take h1) h2
      have frb := hfree bs[i] (List.getElem_mem _) hp
      refine ⟨acc, ha4, by omega, same_upd (hs.trans (sy.trans s4)) hD, acc ++ [y], upd_same, by rw [List.length_append]; simp; omega, ?_⟩
      rw [tk, List.filter_append, List.map_append]
      refine dpAll_app (dpAll_upd ha4 _ _ fr (Same.dpAll (sy.trans s4) hdp)) ?_
      rw [List.filter_cons, if_pos hp]
      exact .cons (dp_upd ha4 _ _ frb d4) .nil
  · rintro H ⟨hs, acc, ha, _, hdp⟩
    rw [hlen, List.take_length] at hdp
    exact hd H acc hs ha hdp
theorem filter_true' {α : Type} (l : List α) : l.filter (fun _ => true) = l := List.filter_eq_self.mpr fun _ _ => rfl
theorem big_lt {n : Nat} (h : n ≤ 20000) : n < sizeLine := by rw [sizeLine_eq]; omega
theorem big_le {n : Nat} (h : n ≤ 20000) : n ≤ sizeLine := by rw [sizeLine_eq]; omega
theorem lfree_fact (f : Fact) : lfree (factD f) = true := lfree_tupI _
theorem lfree_pair (p : Nat × Nat) : lfree (pairD p) = true := lfree_tupI _
/-- a fact by its kind -/
theorem fact_cases {K : PySem.W.Frag} {H : Hp} {v : V} {f : Fact} (h : Dp K H v (factD f)) : ∃ a, v = .ref a ∧ SqT K H a ((factI f).map V.int) := dp_tupI h
theorem isLookOf_scan {d e : Nat} {f : Fact} {x : Scan} (h : f.body = .scan x) : isLookOf d e f = false := by unfold isLookOf; rw [h]
theorem isLookOf_sync {d e : Nat} {f : Fact} {t : Nat} (h : f.body = .sync t) : isLookOf d e f = (f.device == d && f.epoch == e) := by unfold isLookOf; rw [h]
theorem factI_scan {f : Fact} {x : Scan} (h : f.body = .scan x) : factI f = [0, (f.device : Int), (f.number : Int), (f.epoch : Int), (f.clock : Int), (x.item : Int), (x.kind : Int), (x.office : Int), (x.sign : Int)] := by unfold factI; rw [h]
theorem factI_sync {f : Fact} {t : Nat} (h : f.body = .sync t) : factI f = [1, (f.device : Int), (f.number : Int), (f.epoch : Int), (f.clock : Int), (t : Int)] := by unfold factI; rw [h]
theorem isScanOf_scan {i : Nat} {f : Fact} {x : Scan} (h : f.body = .scan x) : isScanOf i f = (x.item == i) := by unfold isScanOf; rw [h] <;> rfl
theorem isScanOf_sync {i : Nat} {f : Fact} {t : Nat} (h : f.body = .sync t) : isScanOf i f = false := by unfold isScanOf; rw [h]
theorem isScan_scan {f : Fact} {x : Scan} (h : f.body = .scan x) : isScan f = true := by unfold isScan; rw [h]
theorem isScan_sync {f : Fact} {t : Nat} (h : f.body = .sync t) : isScan f = false := by unfold isScan; rw [h]
end Sc
namespace Sc
open PySem PySem.Spec PyProof.Rows L2
open Vbpoag (Fact Scan Body)
theorem scan_of_range {f : Fact} {x : Scan} (h : Vbpoag.inRange f = true) (hb : f.body = .scan x) : (f.device < 8 ∧ 1 ≤ f.number ∧ f.number ≤ 9999 ∧ f.epoch ≤ 9 ∧ f.clock ≤ 99999) ∧ (1 ≤ x.item ∧ x.item ≤ 99 ∧ x.kind < 10 ∧ x.office < 6 ∧ x.sign ≤ 999999) := by
  obtain ⟨d, n, e, c, b⟩ := f
  obtain ⟨i, k, o, g⟩ := x
  cases hb
  exact (inRange_scan ..).mp h
theorem sync_of_range {f : Fact} {t : Nat} (h : Vbpoag.inRange f = true) (hb : f.body = .sync t) : (f.device < 8 ∧ 1 ≤ f.number ∧ f.number ≤ 9999 ∧ f.epoch ≤ 9 ∧ f.clock ≤ 99999) ∧ t ≤ 99999 := by
  obtain ⟨d, n, e, c, b⟩ := f
  cases hb
  exact (inRange_sync ..).mp h
theorem item_range {f : Fact} (h : Vbpoag.inRange f = true) : itemOf f ≤ 99 := by
  cases hb : f.body with
  | scan x =>
    have := scan_of_range h hb
    unfold itemOf
    rw [hb]
    exact this.2.2.1
  | sync t => unfold itemOf; rw [hb]; exact Nat.zero_le _
theorem clock_range {f : Fact} (h : Vbpoag.inRange f = true) : f.clock ≤ 99999 ∧ ∀ t, f.body = .sync t → t ≤ 99999 := by
  cases hb : f.body with
  | scan x => exact ⟨(scan_of_range h hb).1.2.2.2.2, fun t e => by cases e⟩
  | sync t => exact ⟨(sync_of_range h hb).1.2.2.2.2, fun u e => by cases e; exact (sync_of_range h hb).2⟩
theorem look_sync {d e : Nat} {f : Fact} (h : isLookOf d e f = true) : ∃ t, f.body = .sync t := by
  cases hb : f.body with
  | scan x => rw [isLookOf_scan hb] at h; cases h
  | sync t => exact ⟨t, rfl⟩
theorem scan_of {i : Nat} {f : Fact} (h : isScanOf i f = true) : ∃ x, f.body = .scan x := by
  cases hb : f.body with
  | scan x => exact ⟨x, rfl⟩
  | sync t => rw [isScanOf_sync hb] at h; cases h
theorem lookPair_sync {f : Fact} {t : Nat} (h : f.body = .sync t) : lookPair f = (f.clock, t) := by unfold lookPair; rw [h]
theorem itemOf_scan {f : Fact} {x : Scan} (h : f.body = .scan x) : itemOf f = x.item := by unfold itemOf; rw [h]
end Sc
namespace Sc
open PySem PySem.Spec PyProof.Rows L2
open Vbpoag (Fact Scan Body)
theorem same_none {H H' : Hp} {p : Addr} (s : Same H H') (h : H' p = none) : H p = none := by
  cases e : H p with
  | none => rfl
  | some u => rw [s _ _ e] at h; cases h
theorem same_refl (H : Hp) : Same H H := fun _ _ h => h
theorem at_neg1 {α : Type} {xs : List α} {v : α} (h : xs[xs.length - 1]? = some v) : atI xs (-1) = some v := by
  rcases List.eq_nil_or_concat xs with e | ⟨r, z, e⟩
  · subst e; simp at h
  · rw [List.concat_eq_append] at e
    subst e
    simp at h
    subst h
    exact atI_last r z
theorem at_nat {α : Type} {xs : List α} {j : Nat} {i : Int} {v : α} (h : xs[j]? = some v) (e : i = (j : Int)) : atI xs i = some v := by subst e; exact atI_nat h
theorem dataLt_tupI (xs ys : List Int) : PySem.W.dataLt (tupI xs) (tupI ys) = decide (xs < ys) := (PySem.W.dataLt_tuple ..).trans (PySem.W.dataLt_ints xs ys)
theorem alike_tupI (xs ys : List Int) : PySem.W.alike (tupI xs) (tupI ys) = true := by
  have := PySem.W.alike_ints xs ys
  simpa [tupI, PySem.W.alike] using this
/-- o is no tuple -/
def NoT (o : HO) : Prop := (∀ xs, o ≠ .tup xs) ∧ ∀ o' xs, o ≠ .frz o' (.tup xs)
theorem noT_frzT (o : Obj) (kvs : List (List Key × V)) : NoT (.frz o (.dT kvs)) := ⟨fun _ h => (by cases h), fun _ _ h => (by cases h)⟩
theorem noT_frzK (o : Obj) (kvs : List (Key × V)) : NoT (.frz o (.dK kvs)) := ⟨fun _ h => (by cases h), fun _ _ h => (by cases h)⟩
theorem noT_dT (kvs : List (List Key × V)) : NoT (.dT kvs) := ⟨fun _ h => (by cases h), fun _ _ h => (by cases h)⟩
theorem noT_dK (kvs : List (Key × V)) : NoT (.dK kvs) := ⟨fun _ h => (by cases h), fun _ _ h => (by cases h)⟩
theorem noT_ins (C : Addr) (dx : Addr) (fs : List (Str × V)) : NoT (.ins C dx fs) := ⟨fun _ h => (by cases h), fun _ _ h => (by cases h)⟩
theorem noT_lst (xs : List V) : NoT (.lst xs) := ⟨fun _ h => (by cases h), fun _ _ h => (by cases h)⟩
theorem tup_updN {H : Hp} {a l : Addr} {xs : List V} {o u : HO} (h : H a = some (.tup xs)) (hl : H l = some u) (hn : NoT u) : upd H l o a = some (.tup xs) := by
  rw [upd_ne (fun e => by subst e; rw [h] at hl; cases hl; exact hn.1 _ rfl)]; exact h
theorem sqT_updN {K : PySem.W.Frag} {H : Hp} {a l : Addr} {xs : List V} {o u : HO} (h : SqT K H a xs) (hl : H l = some u) (hn : NoT u) : SqT K (upd H l o) a xs := by
  rcases h with (h | ⟨o', h⟩) | h
  · exact .inl (.inl (tup_updN h hl hn))
  · refine .inl (.inr ⟨o', ?_⟩)
    rw [upd_ne (fun e => by subst e; rw [h] at hl; cases hl; exact hn.2 _ _ rfl)]; exact h
  · exact .inr h
mutual
theorem dp_updN {K : PySem.W.Frag} {H : Hp} {l : Addr} {o u : HO} (hl : H l = some u) (hn : NoT u) : ∀ (d : PyData) (v : V), lfree d = true → Dp K H v d → Dp K (upd H l o) v d
  | .none, _, _, h => by cases h; exact .non
  | .bool _, _, _, h => by cases h; exact .bl _
  | .int _, _, _, h => by cases h; exact .int _
  | .str _, _, _, h => by cases h; exact .str _
  | .list _, _, f, _ => by simp [lfree] at f
  | .tuple ds, _, f, h => by cases h with | tup h1 h2 => exact .tup (sqT_updN h1 hl hn) (dpAll_updN hl hn ds _ (by simpa [lfree] using f) h2)
  | .dict _, _, _, h => by cases h
theorem dpAll_updN {K : PySem.W.Frag} {H : Hp} {l : Addr} {o u : HO} (hl : H l = some u) (hn : NoT u) : ∀ (ds : List PyData) (vs : List V), lfreeAll ds = true → DpAll K H vs ds → DpAll K (upd H l o) vs ds
  | [], _, _, h => by cases h; exact .nil
  | d :: ds, _, f, h => by
    rw [lfreeAll, Bool.and_eq_true] at f
    cases h with | cons h1 h2 => exact .cons (dp_updN hl hn d _ f.1 h1) (dpAll_updN hl hn ds _ f.2 h2)
end
theorem sh_pairs (L : List (Nat × Nat)) : SeqAt.shaped (pairsD L) = true := sh_list (fun f => lay_tupI _) (fun f => by show (tupI _).depth ≤ 60; rw [dep_tupI]; omega) L
theorem eqv_pairs_nil (L : List (Nat × Nat)) : PyData.eqv (pairsD L) (.list []) = L.isEmpty := by
  unfold pairsD
  rw [eqv_nil]
  cases L <;> rfl
/-! ### how many facts bear a pair: the dict -/
def keyP (p : Nat × Nat) : List Key := [Sum.inl (p.1 : Int), Sum.inl (p.2 : Int)]
theorem keyP_inj {p q : Nat × Nat} (h : keyP p = keyP q) : p = q := by
  simp only [keyP, List.cons.injEq, and_true, Sum.inl.injEq] at h
  exact Prod.ext (Int.ofNat.inj h.1) (Int.ofNat.inj h.2)
theorem keyP_V (p : Nat × Nat) : (keyP p).map kV = (pairI p).map V.int := rfl
def firsts (fs : List Fact) : List (Nat × Nat) := fs.foldl (fun ks f => if dn f ∈ ks then ks else ks ++ [dn f]) []
theorem firsts_snoc (fs : List Fact) (f : Fact) : firsts (fs ++ [f]) = if dn f ∈ firsts fs then firsts fs else firsts fs ++ [dn f] := by
  unfold firsts
  rw [List.foldl_append]
  rfl
theorem tally_snoc (fs : List Fact) (f : Fact) (p : Nat × Nat) : tally (fs ++ [f]) p = tally fs p + if dn f = p then 1 else 0 := by
  unfold tally
  rw [List.filter_append, List.length_append]
  by_cases h : dn f = p <;> simp [h]
theorem tally_nil (p : Nat × Nat) : tally [] p = 0 := rfl
theorem snoc_ind {α : Type} {P : List α → Prop} (h0 : P []) (h1 : ∀ l a, P l → P (l ++ [a])) (l : List α) : P l := by
  have key : ∀ m : List α, P m.reverse := by
    intro m
    induction m with
    | nil => exact h0
    | cons a m ih => rw [List.reverse_cons]; exact h1 _ _ ih
  have := key l.reverse
  rwa [List.reverse_reverse] at this
theorem mem_firsts (fs : List Fact) : ∀ p, p ∈ firsts fs ↔ 0 < tally fs p := by
  refine snoc_ind (P := fun fs => ∀ p, p ∈ firsts fs ↔ 0 < tally fs p) (fun p => by simp [firsts, tally]) (fun fs f ih => ?_) fs
  · intro p
    rw [firsts_snoc, tally_snoc]
    by_cases h : dn f ∈ firsts fs
    · rw [if_pos h, ih]
      by_cases e : dn f = p
      · rw [if_pos e]
        have := (ih p).mp (e ▸ h)
        omega
      · rw [if_neg e]; omega
    · rw [if_neg h, List.mem_append, ih, List.mem_singleton]
      by_cases e : dn f = p
      · rw [if_pos e]
        exact ⟨fun _ => by omega, fun _ => .inr e.symm⟩
      · rw [if_neg e]
        exact ⟨fun h => h.elim (fun h => by omega) (fun h => absurd h.symm e), fun h => .inl (by omega)⟩
theorem firsts_nodup (fs : List Fact) : (firsts fs).Nodup := by
  refine snoc_ind (P := fun fs => (firsts fs).Nodup) (by simp [firsts]) (fun fs f ih => ?_) fs
  rw [firsts_snoc]
  by_cases h : dn f ∈ firsts fs
  · rw [if_pos h]; exact ih
  · rw [if_neg h]
    refine List.nodup_append.mpr ⟨ih, by simp, fun a ha b hb => ?_⟩
    rw [List.mem_singleton] at hb
    subst hb
    exact fun e => h (e ▸ ha)
theorem firsts_len (fs : List Fact) : (firsts fs).length ≤ fs.length := by
  refine snoc_ind (P := fun fs => (firsts fs).length ≤ fs.length) (by simp [firsts]) (fun fs f ih => ?_) fs
  rw [firsts_snoc, List.length_append, List.length_singleton]
  by_cases h : dn f ∈ firsts fs
  · rw [if_pos h]; omega
  · rw [if_neg h, List.length_append, List.length_singleton]; omega
def cnt (fs : List Fact) : List (List Key × V) := (firsts fs).map fun p => (keyP p, V.int (tally fs p : Int))
theorem find_keyP (t : Nat × Nat → V) (q : Nat × Nat) : ∀ ks : List (Nat × Nat), valV (ks.map fun p => (keyP p, t p)) (keyP q) = if q ∈ ks then some (t q) else none
  | [] => by simp [valV]
  | p :: ks => by
    rw [List.map_cons]
    by_cases e : p = q
    · subst e
      rw [valV_pos rfl, if_pos (by simp)]
    · rw [valV_neg (fun h => e (keyP_inj h)), find_keyP t q ks]
      have : q ∈ p :: ks ↔ q ∈ ks := by
        rw [List.mem_cons]
        exact ⟨fun h => h.elim (fun h => absurd h.symm e) id, .inr⟩
      by_cases h : q ∈ ks
      · rw [if_pos h, if_pos (this.mpr h)]
      · rw [if_neg h, if_neg fun z => h (this.mp z)]
theorem cnt_val (fs : List Fact) (q : Nat × Nat) : valV (cnt fs) (keyP q) = if q ∈ firsts fs then some (V.int (tally fs q : Int)) else none := find_keyP _ q _
theorem cnt_getD (fs : List Fact) (q : Nat × Nat) : (valV (cnt fs) (keyP q)).getD (V.int 0) = V.int (tally fs q : Int) := by
  rw [cnt_val]
  by_cases h : q ∈ firsts fs
  · rw [if_pos h]; rfl
  · rw [if_neg h]
    have : tally fs q = 0 := by
      have : ¬ 0 < tally fs q := fun z => h ((mem_firsts fs q).mpr z)
      omega
    rw [this]; rfl
theorem cnt_put (fs : List Fact) (f : Fact) : putK (cnt fs) (keyP (dn f)) (V.int ((tally fs (dn f) : Int) + 1)) = cnt (fs ++ [f]) := by
  have e1 : (tally fs (dn f) : Int) + 1 = (tally (fs ++ [f]) (dn f) : Int) := by rw [tally_snoc, if_pos rfl]; omega
  rw [e1]
  by_cases h : dn f ∈ firsts fs
  · unfold putK cnt
    rw [firsts_snoc, if_pos h, if_pos]
    · rw [List.map_map]
      refine List.map_congr_left (fun p hp => ?_)
      show (if keyP p = keyP (dn f) then (keyP p, _) else (keyP p, _)) = _
      by_cases e : p = dn f
      · subst e; rw [if_pos rfl]
      · rw [if_neg fun z => e (keyP_inj z), tally_snoc, if_neg fun z => e z.symm]; rfl
    · rw [List.any_map, List.any_eq_true]
      exact ⟨dn f, h, by simp⟩
  · rw [putK_new _ (by rw [cnt_val, if_neg h])]
    unfold cnt
    rw [firsts_snoc, if_neg h, List.map_append]
    congr 1
    refine List.map_congr_left (fun p hp => ?_)
    rw [tally_snoc, if_neg (show ¬ dn f = p from fun e => h (e ▸ hp))]; rfl
theorem cnt_len (fs : List Fact) : (cnt fs).length ≤ fs.length := by unfold cnt; rw [List.length_map]; exact firsts_len fs
theorem putPair_len (x : Nat × Nat) : ∀ l, (Vbpoag.putPair x l).length ≤ l.length + 1
  | [] => by simp [Vbpoag.putPair]
  | y :: r => by
    unfold Vbpoag.putPair
    split
    · simp
    · split
      · simp
      · have := putPair_len x r
        simp only [List.length_cons]
        omega
theorem syncs_len (fs : List Fact) (d e : Nat) : (Vbpoag.syncsOf fs d e).length ≤ fs.length := by
  unfold Vbpoag.syncsOf
  have key : ∀ (fs : List Fact) (acc : List (Nat × Nat)), (fs.foldl (fun l f => match f.body with | .sync t => if f.device = d ∧ f.epoch = e then Vbpoag.putPair (f.clock, t) l else l | _ => l) acc).length ≤ acc.length + fs.length := by
    intro fs
    induction fs with
    | nil => intro acc; simp
    | cons f fs ih =>
      intro acc
      rw [List.foldl_cons]
      refine Nat.le_trans (ih _) ?_
      rw [List.length_cons]
      split
      · split
        · rename_i t _ _
          have := putPair_len (f.clock, t) acc
          omega
        · omega
      · omega
  have h := key fs []
  rw [List.length_nil] at h; rw [Nat.zero_add] at h
  exact h
end Sc
namespace Sc
open PySem PySem.Spec PyProof.Rows L2
theorem perm_map {α β : Type} {f : α → β} : ∀ {l : List β} {L : List α}, l.Perm (L.map f) → ∃ R : List α, R.Perm L ∧ l = R.map f
  | [], L, h => by
    have : L.map f = [] := h.symm.eq_nil
    exact ⟨[], by rw [List.map_eq_nil_iff.mp this], rfl⟩
  | b :: l, L, h => by
    have hb : b ∈ L.map f := h.mem_iff.mp (by simp)
    obtain ⟨a, ha, rfl⟩ := List.mem_map.mp hb
    obtain ⟨s, t, rfl⟩ := List.append_of_mem ha
    have h2 : (f a :: l).Perm (f a :: (s ++ t).map f) := h.trans (by
      rw [List.map_append, List.map_cons, List.map_append]
      exact List.perm_middle)
    obtain ⟨R, hR, rfl⟩ := perm_map ((List.perm_cons _).mp h2)
    exact ⟨a :: R, (hR.cons a).trans List.perm_middle.symm, rfl⟩
/-- sorted of a list of tuples of ints -/
theorem srt_enc {K : PySem.W.Frag} {H : Hp} {a : Addr} {ys : List V} {β : Type} {L : List β} {enc : β → PyData} {Q : VK} (hs : SqL K H a ys) (hd : DpAll K H ys (L.map enc)) (hal : ∀ b b', PySem.W.alike (enc b) (enc b') = true) (hne : ∀ b, ∃ x r, enc b = .tuple (x :: r)) (hdep : ∀ b, (enc b).depth ≤ 60)
    (k : ∀ (R : List β) (p : Addr) (zs : List V), R.Perm L → (R.Pairwise fun y z => PySem.W.dataLt (enc z) (enc y) = false) → H p = none → DpAll K H zs (R.map enc) → Q (.ref p) (upd H p (.lst zs))) : rSrt K [.ref a] H Q := by
  refine ⟨a, ys, _, rfl, hs, hd, PySem.W.AllAlike.of hal, PySem.W.Sortable.tuples hne, fun d hd => ?_, fun zs p hp pw hn => ?_⟩
  · obtain ⟨b, _, rfl⟩ := List.mem_map.mp hd
    exact hdep b
  · have hlen := dpAll_len hd
    have hm := hp.map Prod.snd
    rw [zip_snd hlen] at hm
    obtain ⟨R, hR, e⟩ := perm_map hm
    refine k R p _ hR ?_ hn ?_
    · have : (zs.map Prod.snd).Pairwise fun y z => PySem.W.dataLt z y = false := by rw [List.pairwise_map]; exact pw
      rw [e, List.pairwise_map] at this
      exact this
    · have := dpAll_of (K := K) (H := H) (zs := zs) fun q hq => dpAll_zip hd q (hp.mem_iff.mp hq)
      rw [e] at this
      exact this
theorem srt_tups {K : PySem.W.Frag} {H : Hp} {a : Addr} {ys : List V} {β : Type} {L : List β} {g : β → List Int} {Q : VK} (hs : SqL K H a ys) (hd : DpAll K H ys (L.map fun b => tupI (g b))) (hne : ∀ b, g b ≠ [])
    (k : ∀ (R : List β) (p : Addr) (zs : List V), R.Perm L → (R.Pairwise fun y z => ¬ g z < g y) → H p = none → DpAll K H zs (R.map fun b => tupI (g b)) → Q (.ref p) (upd H p (.lst zs))) : rSrt K [.ref a] H Q := by
  refine srt_enc hs hd (fun b b' => alike_tupI _ _) (fun b => ?_) (fun b => by rw [dep_tupI]; omega) fun R p zs hR pw hn hz => k R p zs hR (pw.imp fun {y z} h => ?_) hn hz
  · cases e : g b with
    | nil => exact absurd e (hne b)
    | cons x r => exact ⟨.int x, r.map .int, rfl⟩
  · rw [dataLt_tupI] at h
    exact of_decide_eq_false h
theorem pairs_strictL {R : List (Nat × Nat)} (nd : R.Nodup) (pw : R.Pairwise fun y z => ¬ pairI z < pairI y) : R.Pairwise ltP := by
  refine List.Pairwise.imp_of_mem (fun {a b} ha hb h => ?_) (List.pairwise_and_iff.mpr ⟨pw, nd⟩)
  rcases lt_tri (pairI a) (pairI b) with q | q | q
  · exact (pairI_lt a b).mp q
  · exact absurd (pairI_inj q) h.2
  · exact absurd q h.1
end Sc
namespace Sc
open PySem PySem.Spec PyProof.Rows L2
open Vbpoag (Fact Scan Body)
/-- what stood stands, but at l -/
def SX (l : Addr) (H H' : Hp) : Prop := ∀ b u, b ≠ l → H b = some u → H' b = some u
theorem SX.of {l : Addr} {H H' : Hp} (s : Same H H') : SX l H H' := fun b u _ h => s b u h
theorem SX.trans {l : Addr} {H H1 H2 : Hp} (a : SX l H H1) (b : SX l H1 H2) : SX l H H2 := fun c u n h => b c u n (a c u n h)
theorem SX.upd {l : Addr} {H H' : Hp} {o : HO} (s : SX l H H') : SX l H (upd H' l o) := fun b u n h => by rw [upd_ne n]; exact s b u n h
theorem SX.same {l : Addr} {H0 H H' : Hp} (s0 : Same H0 H) (h0 : H0 l = none) (s : SX l H H') : Same H0 H' := fun b u h => s b u (fun e => by rw [e, h0] at h; cases h) (s0 b u h)
theorem SX.lst {l a : Addr} {H H' : Hp} {xs : List V} (s : SX l H H') (n : a ≠ l) (h : H a = some (.lst xs)) : H' a = some (.lst xs) := s _ _ n h
theorem SX.sqL {K : PySem.W.Frag} {l a : Addr} {H H' : Hp} {xs : List V} (s : SX l H H') (n : a ≠ l) (h : SqL K H a xs) : SqL K H' a xs := by
  obtain (h | ⟨o, h⟩) | h := h
  · exact .inl (.inl (s _ _ n h))
  · exact .inl (.inr ⟨o, s _ _ n h⟩)
  · exact .inr h
theorem SX.sqT {K : PySem.W.Frag} {l a : Addr} {H H' : Hp} {xs : List V} {u : HO} (s : SX l H H') (hl : H l = some u) (hn : NoT u) (h : SqT K H a xs) : SqT K H' a xs := by
  obtain (h | ⟨o, h⟩) | h := h
  · exact .inl (.inl (s _ _ (fun e => by subst e; rw [h] at hl; cases hl; exact hn.1 _ rfl) h))
  · exact .inl (.inr ⟨o, s _ _ (fun e => by subst e; rw [h] at hl; cases hl; exact hn.2 _ _ rfl) h⟩)
  · exact .inr h
mutual
theorem SX.dp {K : PySem.W.Frag} {l : Addr} {H H' : Hp} {u : HO} (s : SX l H H') (hl : H l = some u) (hn : NoT u) : ∀ (d : PyData) (v : V), lfree d = true → Dp K H v d → Dp K H' v d
  | .none, _, _, h => by cases h; exact .non
  | .bool _, _, _, h => by cases h; exact .bl _
  | .int _, _, _, h => by cases h; exact .int _
  | .str _, _, _, h => by cases h; exact .str _
  | .list _, _, f, _ => by simp [lfree] at f
  | .tuple ds, _, f, h => by cases h with | tup h1 h2 => exact .tup (s.sqT hl hn h1) (SX.dpAll s hl hn ds _ (by simpa [lfree] using f) h2)
  | .dict _, _, _, h => by cases h
theorem SX.dpAll {K : PySem.W.Frag} {l : Addr} {H H' : Hp} {u : HO} (s : SX l H H') (hl : H l = some u) (hn : NoT u) : ∀ (ds : List PyData) (vs : List V), lfreeAll ds = true → DpAll K H vs ds → DpAll K H' vs ds
  | [], _, _, h => by cases h; exact .nil
  | d :: ds, _, f, h => by
    rw [lfreeAll, Bool.and_eq_true] at f
    cases h with | cons h1 h2 => exact .cons (SX.dp s hl hn d _ f.1 h1) (SX.dpAll s hl hn ds _ f.2 h2)
end
theorem lfree_map {β : Type} {enc : β → PyData} (h : ∀ b, lfree (enc b) = true) (bs : List β) : lfreeAll (bs.map enc) = true := lfreeAll_of fun d hd => by
  obtain ⟨b, _, rfl⟩ := (List.mem_map.mp hd)
  exact h b
theorem ne_of_new {H : Hp} {a b : Addr} {u : HO} (h : H a = some u) (n : H b = none) : a ≠ b := fun e => by rw [e, n] at h; cases h
theorem ne_of_new' {H : Hp} {a b : Addr} {u : HO} (h : H a = some u) (n : H b = none) : b ≠ a := fun e => by rw [← e, n] at h; cases h
/-! ### the object that tells how an item stands -/
def natV (n : Nat) : V := .int (n : Int)
def sgV : Option (Nat × Nat × Nat) → List V
  | none => []
  | some z => [natV z.1, natV z.2.1, natV z.2.2]
def stF (x : Vbpoag.Standing) (lo ls : Addr) : List (Str × V) := [("state", natV x.state), ("office", natV x.office), ("attempts", natV x.attempts), ("odd", .ref lo), ("signer", .ref ls)]
structure StandAt (G : Gx) (H : Hp) (a lo ls dx : Addr) (x : Vbpoag.Standing) : Prop where
  o : H a = some (.ins G.CS dx (stF x lo ls))
  odd : H lo = some (.lst (x.odd.map natV))
  sg : H ls = some (.lst (sgV x.signed))
  ne : lo ≠ ls
theorem StandAt.same {G : Gx} {H H' : Hp} {a lo ls dx : Addr} {x : Vbpoag.Standing} (s : Same H H') (h : StandAt G H a lo ls dx x) : StandAt G H' a lo ls dx x := ⟨s _ _ h.o, s _ _ h.odd, s _ _ h.sg, h.ne⟩
/-- what stood stands, but at a and l -/
def SX2 (a l : Addr) (H H' : Hp) : Prop := ∀ b u, b ≠ a → b ≠ l → H b = some u → H' b = some u
theorem SX2.trans {a l : Addr} {H H1 H2 : Hp} (s : SX2 a l H H1) (t : SX2 a l H1 H2) : SX2 a l H H2 := fun c u n m h => t c u n m (s c u n m h)
theorem SX2.of {a l : Addr} {H H' : Hp} (s : Same H H') : SX2 a l H H' := fun b u _ _ h => s b u h
theorem SX2.updA {a l : Addr} {H H' : Hp} {o : HO} (s : SX2 a l H H') : SX2 a l H (L2.upd H' a o) := fun b u n m h => by rw [upd_ne n]; exact s b u n m h
theorem SX2.updL {a l : Addr} {H H' : Hp} {o : HO} (s : SX2 a l H H') : SX2 a l H (L2.upd H' l o) := fun b u n m h => by rw [upd_ne m]; exact s b u n m h
theorem SX2.same {a l : Addr} {H0 H H' : Hp} (s0 : Same H0 H) (h0 : H0 a = none) (h1 : H0 l = none) (s : SX2 a l H H') : Same H0 H' := fun b u h => s b u (fun e => by rw [e, h0] at h; cases h) (fun e => by rw [e, h1] at h; cases h) (s0 b u h)
theorem SX2.sqT {K : PySem.W.Frag} {a l b : Addr} {H H' : Hp} {xs : List V} {u v : HO} (s : SX2 a l H H') (ha : H a = some v) (hv : NoT v) (hl : H l = some u) (hn : NoT u) (h : SqT K H b xs) : SqT K H' b xs := by
  obtain (h | ⟨o, h⟩) | h := h
  · exact .inl (.inl (s _ _ (fun e => by subst e; rw [h] at ha; cases ha; exact hv.1 _ rfl) (fun e => by subst e; rw [h] at hl; cases hl; exact hn.1 _ rfl) h))
  · exact .inl (.inr ⟨o, s _ _ (fun e => by subst e; rw [h] at ha; cases ha; exact hv.2 _ _ rfl) (fun e => by subst e; rw [h] at hl; cases hl; exact hn.2 _ _ rfl) h⟩)
  · exact .inr h
theorem in_nats (n : Nat) (l : List Nat) : inV (natV n) (l.map natV) = l.contains n := by
  unfold inV
  rw [List.any_map]
  induction l with
  | nil => rfl
  | cons a l ih =>
    rw [List.any_cons, ih]
    show ((a : Int) == (n : Int) || l.contains n) = _
    rw [List.contains_cons]
    congr 1
    refine bool_eq_of_iff ?_
    simp only [beq_iff_eq]
    omega
theorem flat_nats (l : List Nat) : (l.map natV).all flatV = true := by
  rw [List.all_map]
  exact List.all_eq_true.mpr (fun _ _ => rfl)
theorem fits_tab {K : PySem.W.Frag} {a : Addr} (dp : ∀ H, Dp K H (.ref a) dFITS) (H : Hp) {k : Nat} (hk : k < 10) : ∃ (xs : List V) (b : Addr), SqT K H a xs ∧ xs[k]? = some (.ref b) ∧ SqT K H b ((fitsL.getD k []).map natV) := by
  obtain ⟨a', xs, e, hs, hx⟩ := dp_tup_inv (dp H)
  cases e
  have hk' : k < fitsL.length := hk
  have e1 : dFITS = .tuple (fitsL.map fun l => tupI (l.map fun (n : Nat) => (n : Int))) := rfl
  obtain ⟨v, h1, h2⟩ := dpAll_get (d := tupI ((fitsL.getD k []).map fun (n : Nat) => (n : Int))) hx (by
    show (fitsL.map fun l => tupI (l.map fun (n : Nat) => (n : Int)))[k]? = _
    rw [List.getElem?_map, List.getD_eq_getElem?_getD, List.getElem?_eq_getElem hk']
    rfl)
  obtain ⟨b, rfl, hb⟩ := dp_tupI h2
  rw [List.map_map] at hb
  exact ⟨xs, b, hs, h1, hb⟩
theorem behind_tab {K : PySem.W.Frag} {a : Addr} (dp : ∀ H, Dp K H (.ref a) dBEHIND) (H : Hp) {k : Nat} (hk : k < 10) : SqT K H a (behindL.map natV) := by
  obtain ⟨a', e, hs⟩ := dp_tupI (ns := behindL.map fun (n : Nat) => (n : Int)) (dp H)
  cases e
  rw [List.map_map] at hs
  exact hs
theorem in_two (n a b : Nat) : (if false = true then !inV (natV n) [natV a, natV b] else inV (natV n) [natV a, natV b]) = (n == a || n == b) := by
  rw [if_neg (Bool.false_ne_true)]
  refine (in_nats n [a, b]).trans ?_
  rw [List.contains_cons, List.contains_cons, List.contains_nil, Bool.or_false]
theorem putF_len (f : Str) (v : V) : ∀ fs : List (Str × V), (putF f v fs).length ≤ fs.length + 1
  | [] => by simp [putF]
  | (g, x) :: r => by
    unfold putF
    split
    · simp
    · have := putF_len f v r
      simp only [List.length_cons]
      omega
theorem putF_lt {f : Str} {v : V} {fs : List (Str × V)} {n : Nat} (h : fs.length + 1 < n) : (putF f v fs).length < n := Nat.lt_of_le_of_lt (putF_len f v fs) h
theorem cut_T {P T : Hp → Prop} {g : Prop} (mk : (∀ H3, P H3 → T H3) → g) (fin : ∀ H3, P H3 → T H3) : g := mk fin
theorem nil_t {σ : L2.St} {H : Hp} {Q : List V → Hp → Prop} (h : Q [] H) : tNil σ H Q := h
theorem sx_none {a q : Addr} {H H' : Hp} {u : HO} (s : SX a H H') (ha : H' a = some u) (hq : H' q = none) : H q = none := by
  cases e : H q with
  | none => rfl
  | some v =>
    rw [s q v (ne_of_new' ha hq) e] at hq
    cases hq
theorem sx2_none {a k q : Addr} {H H' : Hp} {u v : HO} (s : SX2 a k H H') (ha : H' a = some u) (hk : H' k = some v) (hq : H' q = none) : H q = none := by
  cases e : H q with
  | none => rfl
  | some w =>
    rw [s q w (ne_of_new' ha hq) (ne_of_new' hk hq) e] at hq
    cases hq
end Sc
namespace Sc
open PySem PySem.Spec PyProof.Rows L2
/-- a comprehension whose items are new lists -/
theorem lc_rows {J : It} {n : Nat} {G : Hp → Prop} {Y : Nat → Hp → V → Hp → Prop} (w : Walk J n G Y) {D : Addr} {β : Type} {bs : List β} (row : β → List V) {g : TG} {tt : TT} {te : TE} {vs : List Nat} {σ : L2.St} {H1 : Hp} {Qd : Hp → Prop}
    (hD : H1 D = none) (hlen : n = bs.length) (hsz : bs.length < sizeLine) (hG : ∀ H, Same H1 H → G H) (hY : ∀ i H x H', Same H1 H → Y i H x H' → Same H H')
    (turn : ∀ (i : Nat) (x : V) (b : β) (H H' : Hp) (Kf : Hp → Prop) (Kt : V → Hp → Prop), bs[i]? = some b → Same H1 H → Y i H x H' → (∀ p H2, Same H' H2 → H' p = none → H2 p = some (.lst (row b)) → Kt (.ref p) H2) →
      g x (wipe σ vs) H' fun σ2 H2 => wipe σ2 vs = wipe σ vs ∧ tt σ2 H2 fun c H3 => if c = true then te σ2 H3 Kt else Kf H3)
    (hd : ∀ H (L : List Addr), Same H1 H → H D = some (.lst (L.map V.ref)) → L.length = bs.length → (∀ (j : Nat) (a : Addr) (b : β), L[j]? = some a → bs[j]? = some b → H a = some (.lst (row b))) → Qd H) : Kept J g tt te vs σ H1 D Qd := by
  refine lc_it w (fun i H => Same H1 H ∧ ∃ L : List Addr, H D = some (.lst (L.map V.ref)) ∧ L.length = i ∧ ∀ (j : Nat) (a : Addr) (b : β), L[j]? = some a → bs[j]? = some b → H a = some (.lst (row b)) ∧ a ≠ D) ⟨same_new hD, [], upd_same, rfl, fun j a b h _ => by simp at h⟩ (fun i H _ h => hG H h.1) ?_ ?_
  · rintro i x H H' hi ⟨hs, L, hL, hl, hr⟩ hx
    have hib : i < bs.length := by omega
    have hb : bs[i]? = some bs[i] := List.getElem?_eq_getElem hib
    have sy := hY i H x H' hs hx
    refine turn i x bs[i] H H' _ _ hb hs hx fun p H4 s4 hp h4 => ?_
    have hDp : p ≠ D := ne_of_new' (sy _ _ hL) hp
    refine ⟨L.map V.ref, s4 _ _ (sy _ _ hL), by rw [List.length_map]; omega, same_upd (hs.trans (sy.trans s4)) hD, L ++ [p], by rw [List.map_append]; exact upd_same, by rw [List.length_append, hl]; rfl, fun j a b hj hb => ?_⟩
    by_cases c : j < L.length
    · rw [List.getElem?_append_left c] at hj
      obtain ⟨h1, h2⟩ := hr j a b hj hb
      exact ⟨by rw [upd_ne h2]; exact s4 _ _ (sy _ _ h1), h2⟩
    · have e : j = L.length := by
        have := (List.getElem?_eq_some_iff.mp hj).1
        rw [List.length_append, List.length_singleton] at this
        omega
      subst e
      rw [List.getElem?_append_right (Nat.le_refl _), Nat.sub_self] at hj
      cases hj
      rw [hl] at hb
      rw [List.getElem?_eq_getElem hib] at hb
      cases hb
      exact ⟨by rw [upd_ne hDp]; exact h4, hDp⟩
  · rintro H ⟨hs, L, hL, hl, hr⟩
    exact hd H L hs hL (by omega) fun j a b h1 h2 => (hr j a b h1 h2).1
/-- rows at addresses, as data -/
theorem rows_dp {K : PySem.W.Frag} {H : Hp} : ∀ {L : List Addr} {ws : List (List Nat)}, L.length = ws.length → (∀ (j : Nat) (a : Addr) (w : List Nat), L[j]? = some a → ws[j]? = some w → H a = some (.lst (w.map natV))) → DpAll K H (L.map V.ref) (ws.map natsD)
  | [], [], _, _ => .nil
  | a :: L, w :: ws, h, k => by
    refine .cons ?_ (rows_dp (by simpa using h) fun j a w h1 h2 => k (j + 1) a w (by simpa using h1) (by simpa using h2))
    have := k 0 a w rfl rfl
    unfold natsD
    refine lstI_dp ?_
    rw [List.map_map]
    exact .inl (.inl this)
theorem bs_dp {K : PySem.W.Frag} {H : Hp} {a : Addr} {l : List Nat} (h : SqL K H a (l.map natV)) : Dp K H (.ref a) (natsD l) := by
  unfold natsD
  refine lstI_dp ?_
  rw [List.map_map]
  exact h
theorem dp_bs {K : PySem.W.Frag} {H : Hp} {v : V} {l : List Nat} (h : Dp K H v (natsD l)) : ∃ a, v = .ref a ∧ SqL K H a (l.map natV) := by
  obtain ⟨a, e, hs⟩ := dp_lstI (ns := l.map fun (n : Nat) => (n : Int)) h
  rw [List.map_map] at hs
  exact ⟨a, e, hs⟩
theorem sh_nats (l : List Nat) : SeqAt.shaped (natsD l) = true := sh_lstI _
theorem lay_nats (l : List Nat) : (natsD l).canLay0 = true := lay_lstI _
theorem sh_rows (ws : List (List Nat)) : SeqAt.shaped (.list (ws.map natsD)) = true := sh_list lay_nats (fun l => by unfold natsD; rw [dep_lstI]; omega) ws
theorem eqv_nats (x y : List Nat) : PyData.eqv (natsD x) (natsD y) = decide (x = y) := by
  unfold natsD
  rw [eqv_lstI]
  refine bool_eq_of_iff ?_
  simp only [decide_eq_true_eq]
  exact ⟨fun h => ofN_inj h, fun h => by rw [h]⟩
theorem any_nats (ws : List (List Nat)) (w : List Nat) : ((ws.map natsD).any fun z => PyData.eqv z (natsD w)) = ws.contains w := by
  rw [List.any_map]
  induction ws with
  | nil => rfl
  | cons a l ih =>
    rw [List.any_cons, ih, List.contains_cons]
    congr 1
    show PyData.eqv (natsD a) (natsD w) = _
    rw [eqv_nats]
    refine bool_eq_of_iff ?_
    simp only [decide_eq_true_eq, beq_iff_eq]
    exact ⟨fun h => h.symm, fun h => h.symm⟩
theorem dpAll_bls_inv {K : PySem.W.Frag} {H : Hp} : ∀ {bs : List Bool} {vs : List V}, DpAll K H vs (bs.map PyData.bool) → vs = bs.map V.bl
  | [], _, h => by cases h; rfl
  | b :: bs, _, h => by
    cases h with
    | cons h1 h2 =>
      cases h1
      rw [dpAll_bls_inv h2]
      rfl
/-- what there is, or a wrong line -/
def OutW {α : Type} (G : Gx) (H : Hp) (E : XK) (o : Option α) (ok : α → Prop) : Prop := (∀ n, o = some n → ok n) ∧ (o = none → ∀ H', Same H H' → E (.ref G.CW) none H')
end Sc
namespace Sc
open PySem PySem.Spec PyProof.Rows L2
theorem cutV_take {xs : List V} {n : Nat} {i : Int} (e : i = (n : Int)) : cutV xs none (some i) = xs.take n := by
  subst e
  unfold cutV
  have h1 : HT.sIx xs.length 0 none = 0 := rfl
  have h2 : HT.sIx xs.length xs.length (some (n : Int)) = min n xs.length := by
    simp [HT.sIx]
    omega
  rw [h1, h2]
  simp [List.take_eq_take_iff]
theorem cutV_drop {xs : List V} {n : Nat} {i : Int} (e : i = (n : Int)) : cutV xs (some i) none = xs.drop n := by
  subst e
  unfold cutV
  have h1 : HT.sIx xs.length 0 (some (n : Int)) = min n xs.length := by
    simp [HT.sIx]
    omega
  have h2 : HT.sIx xs.length xs.length none = xs.length := rfl
  rw [h1, h2]
  by_cases h : n ≤ xs.length
  · rw [Nat.min_eq_left h]
    exact List.take_of_length_le (by simp only [List.length_drop]; omega)
  · rw [Nat.min_eq_right (by omega), List.drop_length, List.drop_eq_nil_of_le (by omega), List.take_nil]
theorem cut_E {P : Hp → Prop} {t : TE} {σ : L2.St} {Q : VK} {g : Prop} (mk : (∀ H3, P H3 → t σ H3 Q) → g) (fin : ∀ H3, P H3 → t σ H3 Q) : g := mk fin
theorem cut_to (w : List Nat) {n : Nat} {i : Int} (e : i = (n : Int)) : cutV (w.map natV) none (some i) = (w.take n).map natV := by rw [cutV_take e, List.map_take]
theorem cut_from (w : List Nat) {n : Nat} {i : Int} (e : i = (n : Int)) : cutV (w.map natV) (some i) none = (w.drop n).map natV := by rw [cutV_drop e, List.map_drop]
theorem sqL_eq {K : PySem.W.Frag} {H : Hp} {a : Addr} {xs ys : List V} (h : H a = some (.lst xs)) (e : xs = ys) : SqL K H a ys := .inl (.inl (by rw [h, e]))
end Sc
namespace Sc
open PySem PySem.Spec PyProof.Rows L2
theorem dpAll_strs_inv {K : PySem.W.Frag} {H : Hp} : ∀ {zs : List Str} {vs : List V}, DpAll K H vs (zs.map PyData.str) → vs = zs.map V.str
  | [], _, h => by cases h; rfl
  | z :: zs, _, h => by
    cases h with
    | cons h1 h2 =>
      cases h1
      rw [dpAll_strs_inv h2]
      rfl
theorem tab_strs {K : PySem.W.Frag} {H : Hp} {a : Addr} {zs : List Str} (h : Dp K H (.ref a) (.tuple (zs.map .str))) : SqT K H a (zs.map V.str) := by
  obtain ⟨b, xs, e, hs, hx⟩ := dp_tup_inv h
  cases e
  rw [dpAll_strs_inv hx] at hs
  exact hs
def zKINDS : List Str := ["PST", "ARR", "LFT", "OUT", "ATT", "HLD", "DLV", "RET", "CIN", "COT"]
def zNAMES : List Str := ["EVT", "DEV", "SEQ", "EPO", "CLK", "OFF", "ITM", "SIG", "TRU"]
def zOFFS : List Str := ("ABCDEF" : Str).cps.toList.map fun c => ⟨#[c]⟩
theorem kinds_codes : (zKINDS.map fun z => z.cps.toList) = Vbpoag.CODES := by decide +kernel
theorem names_keys : (zNAMES.map fun z => z.cps.toList) = keyNames := by decide +kernel
theorem offs_letters : (zOFFS.map fun z => z.cps.toList) = letters := by decide +kernel
theorem kinds_size : ∀ z ∈ zKINDS, z.cps.size ≤ 1000 := by decide +kernel
theorem names_size : ∀ z ∈ zNAMES, z.cps.size ≤ 1000 := by decide +kernel
theorem offs_size : ∀ z ∈ zOFFS, z.cps.size ≤ 1000 := by decide +kernel
theorem code_find (w : List Nat) : Vbpoag.codeOf w = (zKINDS.map fun z => z.cps.toList).findIdx? fun c => c == w := by rw [kinds_codes]; rfl
theorem office_find (w : List Nat) : Vbpoag.office w = (zOFFS.map fun z => z.cps.toList).findIdx? fun c => c == w := by rw [offs_letters]; exact office_eq w
theorem checked_ok {f : Vbpoag.Fact} (h : (RF.of f).ok = true) : Vbpoag.checkedFact f = some f := by
  rw [RF.of_ok] at h
  unfold Vbpoag.checkedFact
  rw [if_pos h]
theorem checked_no {f : Vbpoag.Fact} (h : (RF.of f).ok = false) : Vbpoag.checkedFact f = none := by
  rw [RF.of_ok] at h
  unfold Vbpoag.checkedFact
  rw [if_neg (by rw [h]; exact Bool.false_ne_true)]
end Sc
namespace Sc
open PySem PySem.Spec PyProof.Rows L2
/-! ### the dict of names -/
def nmS (j : Nat) : Str := zNAMES.getD j ""
def nmK (j : Nat) : Key := Sum.inr (nmS j)
theorem nmS_inj : ∀ i, i < 9 → ∀ j, j < 9 → nmS i = nmS j → i = j := by decide +kernel
/-- the entries: the name's number, the value's list, the value -/
def kvsOf (L : List (Nat × Addr × List Nat)) : List (Key × V) := L.map fun q => (nmK q.1, V.ref q.2.1)
def valsOf (L : List (Nat × Addr × List Nat)) : List (Nat × List Nat) := L.map fun q => (q.1, q.2.2)
theorem val_find : ∀ {L : List (Nat × Addr × List Nat)} {j : Nat}, (∀ q ∈ L, q.1 < 9) → j < 9 → valV (kvsOf L) (nmK j) = (L.find? fun q => q.1 == j).map fun q => V.ref q.2.1
  | [], j, _, _ => rfl
  | q :: L, j, h, hj => by
    unfold kvsOf
    rw [List.map_cons]
    by_cases e : q.1 = j
    · subst e
      rw [valV_pos rfl, List.find?_cons_of_pos (by simp)]
      rfl
    · rw [valV_neg (fun z => e (nmS_inj _ (h q (by simp)) _ hj (Sum.inr.inj z))), List.find?_cons_of_neg (by simpa using e)]
      exact val_find (fun r hr => h r (List.mem_cons_of_mem _ hr)) hj
theorem getV_find (L : List (Nat × Addr × List Nat)) (j : Nat) : getV (valsOf L) j = (L.find? fun q => q.1 == j).map fun q => q.2.2 := by
  unfold getV valsOf
  rw [List.find?_map]
  cases h : L.find? fun q => q.1 == j with
  | none =>
    have : L.find? ((fun q => q.1 == j) ∘ fun q : Nat × Addr × List Nat => (q.1, q.2.2)) = none := h
    rw [this]; rfl
  | some q =>
    have : L.find? ((fun q => q.1 == j) ∘ fun q : Nat × Addr × List Nat => (q.1, q.2.2)) = some q := h
    rw [this]; rfl
theorem any_find (L : List (Nat × Addr × List Nat)) (j : Nat) : ((valsOf L).any fun q => q.1 == j) = (L.find? fun q => q.1 == j).isSome := by
  unfold valsOf
  rw [List.any_map]
  induction L with
  | nil => rfl
  | cons q L ih =>
    rw [List.any_cons, ih]
    show ((q.1 == j) || _) = _
    cases e : q.1 == j with
    | true => rw [List.find?_cons_of_pos (by simpa using e)]; rfl
    | false => rw [List.find?_cons_of_neg (by simp [e])]; rfl
structure Named (H : Hp) (d : Addr) (L : List (Nat × Addr × List Nat)) : Prop where
  top : H d = some (.dK (kvsOf L))
  row : ∀ q ∈ L, H q.2.1 = some (.lst (q.2.2.map natV)) ∧ q.1 < 9 ∧ q.2.2.length ≤ 10000
theorem Named.same {H H' : Hp} {d : Addr} {L : List (Nat × Addr × List Nat)} (s : Same H H') (h : Named H d L) : Named H' d L := ⟨s _ _ h.top, fun q hq => ⟨s _ _ (h.row q hq).1, (h.row q hq).2⟩⟩
theorem Named.get {H : Hp} {d : Addr} {L : List (Nat × Addr × List Nat)} (h : Named H d L) {j : Nat} (hj : j < 9) {w : List Nat} (hw : getV (valsOf L) j = some w) : ∃ a, valV (kvsOf L) (nmK j) = some (.ref a) ∧ H a = some (.lst (w.map natV)) ∧ w.length ≤ 10000 := by
  rw [getV_find] at hw
  rw [val_find (fun q hq => (h.row q hq).2.1) hj]
  cases hf : L.find? fun q => q.1 == j with
  | none => rw [hf] at hw; cases hw
  | some q =>
    rw [hf] at hw
    cases hw
    have := h.row q (List.mem_of_find?_eq_some hf)
    exact ⟨q.2.1, rfl, this.1, this.2.2⟩
theorem Named.none {H : Hp} {d : Addr} {L : List (Nat × Addr × List Nat)} (h : Named H d L) {j : Nat} (hj : j < 9) : (valV (kvsOf L) (nmK j)).isSome = (getV (valsOf L) j).isSome := by
  rw [getV_find, val_find (fun q hq => (h.row q hq).2.1) hj]
  cases L.find? fun q => q.1 == j <;> rfl
theorem idx_at {p : List Nat} (h : 58 ∈ p) : p[p.idxOf 58]? = some 58 ∧ ∀ m z, m < p.idxOf 58 → p[m]? = some z → z ≠ 58 := by
  have hl : p.idxOf 58 < p.length := List.idxOf_lt_length_iff.mpr h
  refine ⟨?_, fun m z hm hz e => ?_⟩
  · rw [List.getElem?_eq_getElem hl]
    exact congrArg some (List.getElem_idxOf hl)
  · subst e
    have hml := (List.getElem?_eq_some_iff.mp hz)
    obtain ⟨h1, h2⟩ := hml
    have := List.not_of_lt_findIdx (p := fun x => x == 58) (xs := p) (i := m) hm
    rw [h2] at this
    simp at this
end Sc
namespace Sc
open PySem PySem.Spec PyProof.Rows L2
/-- as lc_walk, where an item may be refused: ok of each item that was made -/
theorem lc_walkX {K : PySem.W.Frag} {J : It} {n : Nat} {G : Hp → Prop} {Y : Nat → Hp → V → Hp → Prop} (w : Walk J n G Y) {D : Addr} {β : Type} {bs : List β} (ok : β → Prop) (enc : β → PyData) {g : TG} {tt : TT} {te : TE} {vs : List Nat} {σ : L2.St} {H1 : Hp} {Qd : Hp → Prop}
    (hD : H1 D = none) (hlen : n = bs.length) (hsz : bs.length < sizeLine) (hG : ∀ H, Same H1 H → G H) (hY : ∀ i H x H', Same H1 H → Y i H x H' → Same H H') (hfree : ∀ b, lfree (enc b) = true)
    (turn : ∀ (i : Nat) (x : V) (b : β) (H H' : Hp) (Kf : Hp → Prop) (Kt : V → Hp → Prop), bs[i]? = some b → Same H1 H → Y i H x H' → (∀ y H2, Same H' H2 → ok b → Dp K H2 y (enc b) → Kt y H2) →
      g x (wipe σ vs) H' fun σ2 H2 => wipe σ2 vs = wipe σ vs ∧ tt σ2 H2 fun c H3 => if c = true then te σ2 H3 Kt else Kf H3)
    (hd : ∀ H ys, Same H1 H → (∀ b ∈ bs, ok b) → H D = some (.lst ys) → DpAll K H ys (bs.map enc) → Qd H) : Kept J g tt te vs σ H1 D Qd := by
  refine lc_it w (fun i H => Same H1 H ∧ (∀ b ∈ bs.take i, ok b) ∧ ∃ acc, H D = some (.lst acc) ∧ acc.length ≤ i ∧ DpAll K H acc ((bs.take i).map enc)) ⟨same_new hD, fun b hb => (by cases hb), [], upd_same, Nat.le_refl _, .nil⟩ (fun i H _ h => hG H h.1) ?_ ?_
  · rintro i x H H' hi ⟨hs, hok, acc, ha, hl, hdp⟩ hx
    have hib : i < bs.length := by omega
    have hb : bs[i]? = some bs[i] := List.getElem?_eq_getElem hib
    have tk := take_next' hb
    have sy := hY i H x H' hs hx
    refine turn i x bs[i] H H' _ _ hb hs hx fun y H4 s4 hp d4 => ?_
    have ha4 := s4 _ _ (sy _ _ ha)
    refine ⟨acc, ha4, by omega, same_upd (hs.trans (sy.trans s4)) hD, fun b hb => ?_, acc ++ [y], upd_same, by rw [List.length_append]; simp; omega, ?_⟩
    · rw [tk] at hb
      rcases (List.mem_append.mp hb) with hb | hb
      · exact hok b hb
      · rw [List.mem_singleton.mp hb]; exact hp
    · rw [tk, List.map_append]
      refine dpAll_app (dpAll_upd ha4 _ _ (lfree_map hfree _) (Same.dpAll (sy.trans s4) hdp)) (.cons (dp_upd ha4 _ _ (hfree _) d4) .nil)
  · rintro H ⟨hs, hok, acc, ha, _, hdp⟩
    rw [hlen, List.take_length] at hdp hok
    exact hd H acc hs hok ha hdp
/-! ### names in order -/
theorem rising_pair : ∀ (r : List Str) (p : Str), risingS p r = true → (p :: r).Pairwise fun a b => ¬ b.cps.toList < a.cps.toList
  | [], p, _ => by simp
  | x :: r, p, h => by
    have h : (!ltCps x.cps.toList p.cps.toList && risingS x r) = true := h
    rw [Bool.and_eq_true, ltCps_eq] at h
    have ih := rising_pair r x h.2
    have hx : ¬ x.cps.toList < p.cps.toList := by simpa using h.1
    refine List.pairwise_cons.mpr ⟨fun b hb => ?_, ih⟩
    rcases (List.mem_cons.mp hb) with e | e
    · subst e; exact hx
    · have := (List.pairwise_cons.mp ih).1 b e
      have h1 : p.cps.toList ≤ x.cps.toList := List.not_lt.mp hx
      have h2 : x.cps.toList ≤ b.cps.toList := List.not_lt.mp this
      exact List.not_lt.mpr (List.le_trans h1 h2)
theorem sorted_pair {ys : List Str} (h : sortedS ys = true) : ys.Pairwise fun a b => ¬ b.cps.toList < a.cps.toList := by
  cases ys with
  | nil => simp
  | cons x r => exact rising_pair r x h
theorem str_ext {a b : Str} (h : a.cps.toList = b.cps.toList) : a = b := by
  obtain ⟨⟨l⟩⟩ := a
  obtain ⟨⟨m⟩⟩ := b
  cases h
  rfl
theorem sorted_eq {ys S : List Str} (hy : sortedS ys = true) (hs : sortedS S = true) (hp : ys.Perm S) : ys = S := by
  refine List.Perm.eq_of_pairwise (le := fun a b => ¬ b.cps.toList < a.cps.toList) (fun a b _ _ h1 h2 => ?_) (sorted_pair hy) (sorted_pair hs) hp
  exact str_ext (List.le_antisymm (List.not_lt.mp h1) (List.not_lt.mp h2))
theorem names_iff {ks K : List Nat} (hk : ∀ k ∈ ks, k < 9) (hK : ∀ k ∈ K, k < 9) (hs : sortedS (K.map nmS) = true) {ys : List Str} (hp : ys.Perm (ks.map nmS)) (hy : sortedS ys = true) : decide (ys = K.map nmS) = ks.isPerm K := by
  refine bool_eq_of_iff ?_
  rw [decide_eq_true_iff, List.isPerm_iff]
  constructor
  · intro e
    rw [e] at hp
    obtain ⟨R, hR, e2⟩ := perm_map hp
    have hR9 : ∀ k ∈ R, k < 9 := fun k h => hk k (hR.mem_iff.mp h)
    have : K = R := by
      have key : ∀ {A B : List Nat}, (∀ k ∈ A, k < 9) → (∀ k ∈ B, k < 9) → A.map nmS = B.map nmS → A = B := by
        intro A
        induction A with
        | nil =>
          intro B _ _ h
          cases B with
          | nil => rfl
          | cons b B => cases h
        | cons a A ih =>
          intro B ha hb h
          cases B with
          | nil => cases h
          | cons b B =>
            rw [List.map_cons, List.map_cons, List.cons.injEq] at h
            rw [nmS_inj a (ha a (by simp)) b (hb b (by simp)) h.1, ih (fun k hk => ha k (List.mem_cons_of_mem _ hk)) (fun k hk => hb k (List.mem_cons_of_mem _ hk)) h.2]
      exact key hK hR9 e2
    rw [this]
    exact hR.symm
  · intro h
    exact sorted_eq hy hs (hp.trans (h.map nmS))
theorem lay_strs : ∀ zs : List Str, (∀ z ∈ zs, PyData.strOk z = true) → PyData.canLayAll0 (zs.map .str) = true
  | [], _ => by simp [PyData.canLayAll0]
  | n :: ns, h => by simp [PyData.canLayAll0, PyData.canLay0, h n (by simp), lay_strs ns fun z hz => h z (List.mem_cons_of_mem _ hz)]
theorem dep_strs : ∀ ns : List Str, PyData.depthAll (ns.map .str) = 0
  | [] => (by simp [PyData.depthAll])
  | n :: ns => by simp [PyData.depthAll, PyData.depth, dep_strs ns]
theorem sh_strs {zs : List Str} (h : ∀ z ∈ zs, PyData.strOk z = true) : SeqAt.shaped (.tuple (zs.map .str)) = true := shaped_of (by simp only [PyData.canLay0]; exact lay_strs zs h) (by simp only [PyData.depth, dep_strs]; omega)
theorem nm_ok : ∀ j, j < 9 → PyData.strOk (nmS j) = true := by decide +kernel
theorem nms_ok {ks : List Nat} (h : ∀ k ∈ ks, k < 9) : ∀ z ∈ ks.map nmS, PyData.strOk z = true := fun z hz => by
  obtain ⟨k, hk, rfl⟩ := List.mem_map.mp hz
  exact nm_ok k (h k hk)
theorem sh_two {xs ys : List Str} (h1 : ∀ z ∈ xs, PyData.strOk z = true) (h2 : ∀ z ∈ ys, PyData.strOk z = true) : SeqAt.shaped (.tuple [.tuple (xs.map .str), .tuple (ys.map .str)]) = true := shaped_of (by simp [PyData.canLay0, PyData.canLayAll0, lay_strs xs h1, lay_strs ys h2]) (by simp [PyData.depth, PyData.depthAll, dep_strs])
theorem eqvAll_strs : ∀ xs ys : List Str, PyData.eqvAll (xs.map .str) (ys.map .str) = decide (xs = ys)
  | [], [] => by simp [PyData.eqvAll]
  | [], _ :: _ => by simp [PyData.eqvAll]
  | _ :: _, [] => by simp [PyData.eqvAll]
  | x :: xs, y :: ys => by
    simp only [List.map_cons, PyData.eqvAll, PyData.eqv, eqvAll_strs xs ys]
    refine bool_eq_of_iff ?_
    simp
theorem eqv_strs (xs ys : List Str) : PyData.eqv (.tuple (xs.map .str)) (.tuple (ys.map .str)) = decide (xs = ys) := by simp only [PyData.eqv]; exact eqvAll_strs xs ys
theorem scan_names : dSCAN_NAMES = .tuple ((scanKeys.map nmS).map .str) := by rfl
theorem look_names : dLOOK_NAMES = .tuple ((lookKeys.map nmS).map .str) := by rfl
end Sc
namespace Sc
open PySem PySem.Spec PyProof.Rows L2
theorem lock_same {H1 H4 : Hp} {d : Addr} {u : HO} {od : Obj} (hd : H1 d = some u) (s : Same (upd H1 d (.frz od u)) H4) : Same H1 (upd H4 d u) := fun b v hb => by
  by_cases e : b = d
  · subst e; rw [hd] at hb; cases hb; exact upd_same
  · rw [upd_ne e]; exact s _ _ (by rw [upd_ne e]; exact hb)
theorem sig_ne {j : Nat} (h : j < 9) : (!decide (V.str (nmS j) = V.str "SIG")) = (j != 7) := by
  have e : (decide (V.str (nmS j) = V.str "SIG")) = (j == 7) := by
    refine bool_eq_of_iff ?_
    simp only [decide_eq_true_eq, V.str.injEq, beq_iff_eq]
    exact ⟨fun z => nmS_inj j h 7 (by decide) z, fun z => by subst z; rfl⟩
  rw [e]; rfl
theorem keys_fst (L : List (Nat × Addr × List Nat)) : (L.filter fun q => q.1 != 7).map (fun q => nmS q.1) = (keysL (valsOf L)).map nmS := by
  unfold keysL valsOf
  rw [List.map_map]
  have : (L.map ((fun q : Nat × List Nat => q.1) ∘ fun q => (q.1, q.2.2))).filter (fun j => j != 7) = (L.filter fun q => q.1 != 7).map fun q => q.1 := by
    rw [List.filter_map]; rfl
  rw [this, List.map_map]
  rfl
theorem decide_comm' {α : Type} [DecidableEq α] (a b : α) : decide (a = b) = decide (b = a) := by
  refine bool_eq_of_iff ?_
  simp only [decide_eq_true_eq]
  exact eq_comm
theorem dpAll_strs {K : PySem.W.Frag} {H : Hp} : ∀ zs : List Str, DpAll K H (zs.map V.str) (zs.map PyData.str)
  | [] => .nil
  | z :: zs => .cons (.str z) (dpAll_strs zs)
theorem cut_S {P T : L2.St → Hp → Prop} {g : Prop} (mk : (∀ σ H, P σ H → T σ H) → g) (fin : ∀ σ H, P σ H → T σ H) : g := mk fin
theorem syn_text : ("SYN" : Str).cps.toList = Vbpoag.text "SYN" := by decide +kernel
theorem cut_seq {P : L2.St → Hp → Prop} {t u : TS} {D : Ends} {σ : L2.St} {H : Hp} (mk : (∀ σ' H', P σ' H' → u D σ' H') → t { D with nx := u D } σ H) (fin : ∀ σ' H', P σ' H' → u D σ' H') : tSeq t u D σ H := mk fin
end Sc
namespace Sc
open PySem PySem.Spec PyProof.Rows L2
/-- a text's codes -/
def cp (z : Str) : List Nat := z.cps.toList
theorem cp_of (s : String) : cp (Str.ofString s) = s.toList.map Char.toNat := by
  unfold cp
  rw [Str.ofString_eq_toList]
theorem cp_app (a b : Str) : cp (a ++ b) = cp a ++ cp b := by
  unfold cp
  show (a.cps ++ b.cps).toList = _
  rw [Array.toList_append]
theorem cp_len (z : Str) : z.length = (cp z).length := by
  unfold cp
  rw [Array.length_toList]
  rfl
theorem cp_size (z : Str) : z.cps.size = (cp z).length := by
  unfold cp
  rw [Array.length_toList]
theorem cp_int (n : Nat) : cp (toString (n : Int)) = Vbpoag.decimal n := cp_of _
theorem cp_ext {a b : Str} (h : cp a = cp b) : a = b := str_ext h
theorem rep_fold (c : Array Nat) : ∀ (k : Nat) (acc : Array Nat), ((List.replicate k c).foldl (· ++ ·) acc).toList = acc.toList ++ (List.replicate k c.toList).flatten
  | 0, acc => by simp
  | k + 1, acc => by
    rw [List.replicate_succ, List.foldl_cons, rep_fold c k, Array.toList_append, List.replicate_succ, List.flatten_cons, List.append_assoc]
theorem cp_mul0 (z : Str) (hz : cp z = [48]) (n : Nat) : cp (Txt.mul z (n : Int)) = List.replicate n 48 := by
  unfold Txt.mul
  by_cases h1 : (n : Int) < 1
  · rw [if_pos h1]
    have : n = 0 := by omega
    subst this
    rfl
  · rw [if_neg h1]
    split
    · rename_i h
      have hl : z.length = 1 := by rw [cp_len, hz]; rfl
      simp only [hl, Bool.or_eq_true, beq_iff_eq] at h
      have : n = 1 := by omega
      subst this
      rw [hz]; rfl
    · show ((List.replicate (n : Int).toNat z.cps).foldl (· ++ ·) #[]).toList = _
      rw [rep_fold, Int.toNat_natCast]
      have : z.cps.toList = [48] := hz
      rw [this]
      simp
theorem cp_join (sep : Str) {c : Nat} (h : cp sep = [c]) : ∀ ys : List Str, cp (Txt.join sep ys) = Vbpoag.joined c (ys.map cp) := by
  intro ys
  rw [show Txt.join sep ys = Str.join sep ys from StrLaws.glued_eq_join sep ys]
  induction ys with
  | nil => rfl
  | cons y r ih =>
    cases r with
    | nil => rfl
    | cons z r =>
      show cp (y ++ sep ++ Str.join sep (z :: r)) = _
      rw [cp_app, cp_app, h, ih, List.append_assoc]
      rfl
theorem sum_len (ys : List Str) (B : Nat) (h : ∀ y ∈ ys, (cp y).length ≤ B) : (ys.map (·.length)).sum ≤ ys.length * B := by
  induction ys with
  | nil => simp
  | cons y r ih =>
    rw [List.length_cons, List.map_cons, List.sum_cons, Nat.succ_mul]
    have h1 := h y (by simp)
    have h2 := ih fun z hz => h z (List.mem_cons_of_mem _ hz)
    have h3 : y.length = (cp y).length := cp_len y
    show y.length + _ ≤ _
    omega
/-- one of a list of texts, by its codes -/
theorem kind_at {K : PySem.W.Frag} {H : Hp} {a : Addr} (h : Dp K H (.ref a) dKINDS) {k : Nat} (hk : k < 10) : ∃ z : Str, SqT K H a (zKINDS.map V.str) ∧ (zKINDS.map V.str)[k]? = some (.str z) ∧ cp z = Vbpoag.CODES.getD k [] := by
  have hk' : k < zKINDS.length := hk
  refine ⟨zKINDS[k], tab_strs h, by rw [List.getElem?_map, List.getElem?_eq_getElem hk']; rfl, ?_⟩
  rw [← kinds_codes, List.getD_eq_getElem?_getD, List.getElem?_map, List.getElem?_eq_getElem hk']
  rfl
theorem log_ok {n : Nat} (h : n < 10000000000) : (n : Int).natAbs.log2 < 1920 := by
  have h2 : (n : Int).natAbs = n := rfl
  rw [h2]
  by_cases h0 : n = 0
  · subst h0; decide
  · rw [Nat.log2_lt h0]
    exact Nat.lt_trans h (by decide +kernel)
theorem dec_len {n : Nat} (h : n < 1000000) : (Vbpoag.decimal n).length ≤ 6 := decimal_len 6 (by decide) h
theorem str_len (n : Nat) : (toString (n : Int) : Str).length = (Vbpoag.decimal n).length := by rw [cp_len, cp_int]
theorem off_at {o : Nat} (h : o < 6) : atI ("ABCDEF" : Str).cps.toList (o : Int) = some (65 + o) := at_nat (j := o) (by
  have : ∀ o, o < 6 → ("ABCDEF" : Str).cps.toList[o]? = some (65 + o) := by decide
  exact this _ h) rfl
theorem code_len {k : Nat} (h : k < 10) : (Vbpoag.CODES.getD k []).length = 3 := by
  have : ∀ j, j < 10 → (Vbpoag.CODES.getD j []).length = 3 := by decide
  exact this _ h
/-- the front of the other form -/
def front (f : Vbpoag.Fact) : List (List Nat) :=
  let kv (k : String) (v : List Nat) : List Nat := Vbpoag.text k ++ (58 :: v)
  match f.body with
  | .scan x => [kv "EVT" (Vbpoag.CODES.getD x.kind []), kv "OFF" [65 + x.office], kv "ITM" (Vbpoag.decimal x.item)] ++ (if x.sign = 0 then [] else [kv "SIG" (Vbpoag.decimal x.sign)])
  | .sync t => [kv "EVT" (Vbpoag.text "SYN"), kv "TRU" (Vbpoag.decimal t)]
theorem fact_hd {K : PySem.W.Frag} {H : Hp} {v : V} {f : Vbpoag.Fact} (h : Dp K H v (factD f)) : ∃ a xs, v = .ref a ∧ SqT K H a (.int (factI f)[0]! :: .int (f.device : Int) :: .int (f.number : Int) :: .int (f.epoch : Int) :: .int (f.clock : Int) :: xs) := by
  obtain ⟨a, rfl, hS⟩ := dp_tupI h
  cases hb : f.body with
  | scan x => rw [factI_scan hb] at hS; exact ⟨a, _, rfl, by rw [factI_scan hb]; exact hS⟩
  | sync t => rw [factI_sync hb] at hS; exact ⟨a, _, rfl, by rw [factI_sync hb]; exact hS⟩
theorem cp_eq {s : String} {l : List Nat} (h : s.toList.map Char.toNat = l) : cp (Str.ofString s) = l := (cp_of s).trans h
theorem head_range {f : Vbpoag.Fact} (h : Vbpoag.inRange f = true) : f.device < 8 ∧ 1 ≤ f.number ∧ f.number ≤ 9999 ∧ f.epoch ≤ 9 ∧ f.clock ≤ 99999 := by
  cases hb : f.body with
  | scan x => exact (scan_of_range h hb).1
  | sync t => exact (sync_of_range h hb).1
end Sc
namespace Sc
open PySem PySem.Spec PyProof.Rows L2
open Vbpoag (Fact State)
/-- a call is refused: its number -/
def RefE (G : Gx) (H : Hp) (E : XK) (n : Int) : Prop := ∀ d H', Same H H' → H' d = some (.xd [("number", .int n)]) → E (.ref G.CR) (some d) H'
theorem RefE.same {G : Gx} {H H' : Hp} {E : XK} {n : Int} (s : Same H H') (h : RefE G H E n) : RefE G H' E n := fun d H2 s2 h2 => h d H2 (s.trans s2) h2
/-! ### the three places -/
structure DeskAt (G : Gx) (H : Hp) (a dx k : Addr) (A : List Addr) (s : State) : Prop where
  o : H a = some (.ins G.CD dx [("known", .ref k)])
  kn : H k = some (.lst (A.map V.ref))
  len : A.length = 3
  good : Sc.GoodS s
  row : ∀ (p : Nat) (b : Addr) (l : List Fact), A[p]? = some b → s.places[p]? = some l → ∃ ys, H b = some (.lst ys) ∧ DpAll G.K H ys (l.map factD)
  ne : k ∉ A
theorem DeskAt.same {G : Gx} {H H' : Hp} {a dx k : Addr} {A : List Addr} {s : State} (e : Same H H') (h : DeskAt G H a dx k A s) : DeskAt G H' a dx k A s :=
  ⟨e _ _ h.o, e _ _ h.kn, h.len, h.good, fun p b l h1 h2 => let ⟨ys, h3, h4⟩ := h.row p b l h1 h2; ⟨ys, e _ _ h3, Same.dpAll e h4⟩, h.ne⟩
theorem DeskAt.na {G : Gx} {H : Hp} {a dx k : Addr} {A : List Addr} {s : State} (h : DeskAt G H a dx k A s) : a ≠ k := fun e => by have := h.o; rw [e, h.kn] at this; cases this
/-- the facts of a place -/
theorem DeskAt.at {G : Gx} {H : Hp} {a dx k : Addr} {A : List Addr} {s : State} (h : DeskAt G H a dx k A s) {n : Nat} (hn : n < 3) : ∃ b ys, A[n]? = some b ∧ H b = some (.lst ys) ∧ DpAll G.K H ys ((Vbpoag.factsAt s n).map factD) ∧ (Vbpoag.factsAt s n).Nodup ∧ (Vbpoag.factsAt s n).length ≤ 100 ∧ ∀ f ∈ Vbpoag.factsAt s n, Vbpoag.inRange f = true := by
  have hA : n < A.length := by rw [h.len]; exact hn
  have hs : n < s.places.length := by rw [h.good.1]; exact hn
  have e1 : A[n]? = some A[n] := List.getElem?_eq_getElem hA
  have e2 : s.places[n]? = some (Vbpoag.factsAt s n) := by
    unfold Vbpoag.factsAt
    rw [List.getD_eq_getElem?_getD, List.getElem?_eq_getElem hs]; rfl
  obtain ⟨ys, h1, h2⟩ := h.row n _ _ e1 e2
  exact ⟨_, ys, e1, h1, h2, h.good.2 _ (List.mem_of_getElem? e2)⟩
/-- what a call leaves and answers -/
def DoneA (G : Gx) (H : Hp) (a dx k : Addr) (r : State × List Int) (Q : VK) : Prop := ∀ (b k' : Addr) (A' : List Addr) (H' : Hp), SX2 a k H H' → (k' = k ∨ H k' = none) → DeskAt G H' a dx k' A' r.1 → H' b = some (.lst (r.2.map V.int)) → H b = none → (∀ q ∈ A', ∀ vs, H k = some (.lst vs) → H q ≠ none → V.ref q ∈ vs) → Q (.ref b) H'
def DoneX (G : Gx) (H : Hp) (a dx k : Addr) (A : List Addr) (s : State) (r : State × List Int) (E : XK) : Prop := ∀ n, r = (s, [n]) → RefE G H E n
/-- what stood stands; b is new -/
def Fresh (H H' : Hp) (b : Addr) : Prop := Same H H' ∧ H b = none
theorem Fresh.new {H : Hp} {b : Addr} {o : HO} (h : H b = none) : Fresh H (upd H b o) b := ⟨same_new h, h⟩
theorem same_tr {H H1 H2 : Hp} {b : Addr} (s : Same H H1) (f : Fresh H1 H2 b) : Fresh H H2 b := ⟨s.trans f.1, same_none s f.2⟩
theorem DoneA.same {G : Gx} {H H' : Hp} {a dx k : Addr} {A : List Addr} {s : State} {l : List Int} {Q : VK} {b : Addr} (h : DoneA G H a dx k (s, l) Q) (hd : DeskAt G H a dx k A s) (e : Fresh H H' b) (hb : H' b = some (.lst (l.map V.int))) : Q (.ref b) H' := h b k A H' (SX2.of e.1) (.inl rfl) (hd.same e.1) hb e.2 (fun q hq vs hv _ => by rw [hd.kn] at hv; cases hv; exact List.mem_map.mpr ⟨q, hq, rfl⟩)
end Sc
namespace Sc
open PySem PySem.Spec PyProof.Rows L2
open Vbpoag (Fact State)
theorem any_facts (l : List Fact) (f : Fact) : ((l.map factD).any fun z => PyData.eqv z (factD f)) = l.contains f := by
  rw [List.any_map]
  induction l with
  | nil => rfl
  | cons a l ih =>
    rw [List.any_cons, ih, List.contains_cons]
    congr 1
    show PyData.eqv (factD a) (factD f) = _
    rw [eqv_fact]
    refine bool_eq_of_iff ?_
    simp only [decide_eq_true_eq, beq_iff_eq]
    exact ⟨fun h => h.symm, fun h => h.symm⟩
theorem sh_fact (f : Fact) : SeqAt.shaped (factD f) = true := sh_tupI _
theorem facts_dp {K : PySem.W.Frag} {H : Hp} {b : Addr} {ys : List V} {l : List Fact} (h : H b = some (.lst ys)) (hd : DpAll K H ys (l.map factD)) : Dp K H (.ref b) (factsD l) := .lst (.inl (.inl h)) hd
theorem within_btw (z : Int) (lo hi : Nat) : Vbpoag.within z lo hi = btw (lo : Int) z (hi : Int) := rfl
theorem upd_get {α : Type} {l : List α} {n p : Nat} {a b : α} (h : (l.set n a)[p]? = some b) : (p = n ∧ b = a) ∨ (p ≠ n ∧ l[p]? = some b) := by
  by_cases e : n = p
  · subst e
    rw [List.getElem?_set_self' ] at h
    cases hl : l[n]? with
    | none => (rw [hl] at h; cases h)
    | some x => rw [hl] at h; exact .inl ⟨rfl, (Option.some.inj h).symm⟩
  · rw [List.getElem?_set_ne e] at h
    exact .inr ⟨fun z => e z.symm, h⟩
end Sc
namespace Sc
open PySem PySem.Spec PyProof.Rows L2
open Vbpoag (Fact State)
theorem desk_put {G : Gx} {H : Hp} {a dx k q : Addr} {A : List Addr} {s : State} {zs : List V} {m : List Fact} {n : Nat} (h : DeskAt G H a dx k A s) (hq : H q = none) (hz : DpAll G.K H zs (m.map factD)) (hm : m.Nodup ∧ m.length ≤ 100 ∧ ∀ f ∈ m, Vbpoag.inRange f = true) :
    SX2 a k H (upd (upd H q (.lst zs)) k (.lst ((A.map V.ref).set n (.ref q)))) ∧ DeskAt G (upd (upd H q (.lst zs)) k (.lst ((A.map V.ref).set n (.ref q)))) a dx k (A.set n q) (Vbpoag.setFacts s n m) := by
  have nq : q ≠ k := ne_of_new' h.kn hq
  have kn1 := same_new (o := .lst zs) hq _ _ h.kn
  refine ⟨(SX2.of (same_new hq)).updL, ⟨?_, ?_, by rw [List.length_set]; exact h.len, good_set h.good hm, fun p b l hb hl => ?_, fun hk => ?_⟩⟩
  · rw [upd_ne h.na]; exact same_new hq _ _ h.o
  · rw [upd_same, List.map_set]
  · have hl : (s.places.set n m)[p]? = some l := hl
    rcases upd_get hb with ⟨e1, e2⟩ | ⟨e1, e2⟩
    · subst e1; subst e2
      rcases upd_get hl with ⟨_, e4⟩ | ⟨e3, _⟩
      · subst e4
        exact ⟨zs, by rw [upd_ne nq]; exact upd_same, dpAll_upd kn1 _ _ (lfree_map lfree_fact _) (Same.dpAll (same_new hq) hz)⟩
      · exact absurd rfl e3
    · rcases upd_get hl with ⟨e3, _⟩ | ⟨_, e4⟩
      · exact absurd e3 e1
      · obtain ⟨ys, h1, h2⟩ := h.row p b l e2 e4
        have nb : b ≠ k := fun e => h.ne (e ▸ List.mem_of_getElem? e2)
        exact ⟨ys, by rw [upd_ne nb]; exact same_new hq _ _ h1, dpAll_upd kn1 _ _ (lfree_map lfree_fact _) (Same.dpAll (same_new hq) h2)⟩
  · rcases List.mem_or_eq_of_mem_set hk with e | e
    · exact h.ne e
    · exact nq e.symm
end Sc
namespace Sc
open Vbpoag
def flatA (x : State × Answer) : State × List Int := (x.1, x.2.value :: (x.2.more ++ x.2.rows.flatMap fun r => (r.length : Int) :: r))
theorem neut_if (s : State) {c : Call} {b : Bool} {x : State × Answer} (h : step s c = if b = false then no s (-1) else x) : neut s c = if b = true then flatA x else (s, [-1]) := by
  unfold neut
  rw [h]
  cases b <;> rfl
theorem if_congr3 {α : Type} {b : Bool} {x y z : α} (h : x = y) : (if b = true then x else z) = if b = true then y else z := by rw [h]
def rowD (l : List Int) : List Int := (l.length : Int) :: l
theorem rowD_app (l : List Int) : rowD l = (l.length : Int) :: (l ++ []) := by rw [List.append_nil]; rfl
theorem neut_scan (s : State) (p d n e c i k o g : Int) : neut s (.scan p d n e c i k o g) = if (isPlace p && (RF.scan d n e c i k o g).ok) = true then toldL s p.toNat [(RF.scan d n e c i k o g).f] else (s, [-1]) := by
  have hb : (isPlace p && (RF.scan d n e c i k o g).ok) = (isPlace p && (within d 0 7 && (within n 1 9999 && (within e 0 9 && (within c 0 99999 && (isItem i && (within k 0 9 && (within o 0 5 && within g 0 999999)))))))) := by
    show (isPlace p && (btw 0 d 7 && btw 1 n 9999 && (btw 0 e 9 && btw 0 c 99999) && (btw 1 i 99 && btw 0 k 9 && (btw 0 o 5 && btw 0 g 999999)))) = (isPlace p && (btw 0 d 7 && (btw 1 n 9999 && (btw 0 e 9 && (btw 0 c 99999 && (btw 1 i 99 && (btw 0 k 9 && (btw 0 o 5 && btw 0 g 999999))))))))
    simp only [Bool.and_assoc]
  rw [hb]
  exact neut_if s rfl
theorem neut_sync (s : State) (p d n e c t : Int) : neut s (.sync p d n e c t) = if (isPlace p && (RF.look d n e c t).ok) = true then toldL s p.toNat [(RF.look d n e c t).f] else (s, [-1]) := by
  have hb : (isPlace p && (RF.look d n e c t).ok) = (isPlace p && (within d 0 7 && (within n 1 9999 && (within e 0 9 && (within c 0 99999 && within t 0 99999))))) := by
    show (isPlace p && (btw 0 d 7 && btw 1 n 9999 && (btw 0 e 9 && btw 0 c 99999) && btw 0 t 99999)) = (isPlace p && (btw 0 d 7 && (btw 1 n 9999 && (btw 0 e 9 && (btw 0 c 99999 && btw 0 t 99999)))))
    simp only [Bool.and_assoc]
  rw [hb]
  exact neut_if s rfl
theorem neut_send (s : State) (a b k : Int) : neut s (.send a b k) = if (isPlace a && (isPlace b && (a != b && within k 0 100))) = true then toldL s b.toNat ((factsAt s a.toNat).drop k.toNat) else (s, [-1]) := (neut_if s rfl).trans (if_congr3 rfl)
theorem neut_state (s : State) (p i : Int) : neut s (.state_ p i) = if (isPlace p && isItem i) = true then (s, Vbpoag.ints [(standing (factsAt s p.toNat) i.toNat).state, (standing (factsAt s p.toNat) i.toNat).office, (standing (factsAt s p.toNat) i.toNat).attempts, (standing (factsAt s p.toNat) i.toNat).odd.length]) else (s, [-1]) := (neut_if s rfl).trans (if_congr3 rfl)
def histRow (fs : List Fact) (i : Nat) : List Int := (eventsOf fs i).zipIdx.flatMap fun y => [y.1.time, (y.1.kind : Int), (y.1.office : Int), (y.1.device : Int), (y.1.number : Int), (y.1.sign : Int), if (standing fs i).odd.contains y.2 = true then 1 else 0]
theorem flat1 (s : State) (v : Int) (m : List Int) (r : List Int) : flatA (s, { value := v, more := m, rows := [r] }) = (s, v :: (m ++ rowD r)) := by
  unfold flatA rowD
  simp
theorem neut_history (s : State) (p i : Int) : neut s (.history p i) = if (isPlace p && isItem i) = true then (s, ((eventsOf (factsAt s p.toNat) i.toNat).length : Int) :: rowD (histRow (factsAt s p.toNat) i.toNat)) else (s, [-1]) := (neut_if s rfl).trans (if_congr3 (flat1 s _ [] _))
theorem neut_time (s : State) (p d e c : Int) : neut s (.time p d e c) = if (isPlace p && (within d 0 7 && (within e 0 9 && within c 0 99999))) = true then (s, [0, rightTime (factsAt s p.toNat) d.toNat e.toNat c.toNat, ((syncsOf (factsAt s p.toNat) d.toNat e.toNat).length : Int)]) else (s, [-1]) := (neut_if s rfl).trans (if_congr3 rfl)
theorem neut_clashes (s : State) (p : Int) : neut s (.clashes p) = if isPlace p = true then (s, ((clashesIn (factsAt s p.toNat)).length : Int) :: rowD ((clashesIn (factsAt s p.toNat)).flatMap fun x => Vbpoag.ints [x.1, x.2])) else (s, [-1]) := (neut_if s rfl).trans (if_congr3 (flat1 s _ [] _))
theorem neut_since (s : State) (p k : Int) : neut s (.since p k) = if (isPlace p && within k 0 100) = true then (s, ((changedSince (factsAt s p.toNat) k.toNat).length : Int) :: rowD (Vbpoag.ints (changedSince (factsAt s p.toNat) k.toNat))) else (s, [-1]) := (neut_if s rfl).trans (if_congr3 (flat1 s _ [] _))
def expB (i : Int) (f : Fact) : Bool := i == 0 || (match f.body with
        | .scan x => (x.item : Int) == i
        | .sync _ => true)
theorem neut_export (s : State) (p i form : Int) : neut s (.export_ p i form) = if (isPlace p && (within i 0 99 && within form 0 1)) = true then (s, (((factsAt s p.toNat).filter (expB i)).length : Int) :: rowD (Vbpoag.ints (written form.toNat ((factsAt s p.toNat).filter (expB i))))) else (s, [-1]) := (neut_if s rfl).trans (if_congr3 (flat1 s _ [] _))
theorem neut_import (s : State) (p form : Int) (t : List Int) : neut s (.import_ p form t) = if (isPlace p && within form 0 1) = true then (match bytesOf t with
    | none => (s, [-2])
    | some b => match readText form.toNat b with
      | .error n => (s, [0, -1, (n : Int)])
      | .ok fs => toldL s p.toNat fs) else (s, [-1]) := by
  refine (neut_if s rfl).trans (if_congr3 ?_)
  cases bytesOf t with
  | none => rfl
  | some b =>
    dsimp only
    cases readText form.toNat b <;> rfl
theorem neut_convert (s : State) (form : Int) (t : List Int) : neut s (.convert form t) = if within form 0 1 = true then (match bytesOf t with
    | none => (s, [-2])
    | some b => match readText form.toNat b with
      | .error n => (s, [0, -1, (n : Int)])
      | .ok fs => (s, (fs.length : Int) :: rowD (Vbpoag.ints (written (1 - form.toNat) fs)))) else (s, [-1]) := by
  refine (neut_if s rfl).trans (if_congr3 ?_)
  cases bytesOf t with
  | none => rfl
  | some b =>
    dsimp only
    cases readText form.toNat b with
    | error n => rfl
    | ok fs => exact flat1 s _ [] _
theorem neut_same (s : State) (a b : Int) : neut s (.same a b) = if (isPlace a && isPlace b) = true then (s, [if sameSet (factsAt s a.toNat) (factsAt s b.toNat) = true then 1 else 0, if ((List.range (ITEMS + 1)).all fun i => decide (standing (factsAt s a.toNat) i = standing (factsAt s b.toNat) i)) = true then 1 else 0]) else (s, [-1]) := (neut_if s rfl).trans (if_congr3 rfl)
theorem neut_signed (s : State) (p i : Int) : neut s (.signed p i) = if (isPlace p && isItem i) = true then (s, match (standing (factsAt s p.toNat) i.toNat).signed with | none => [0] | some x => 1 :: Vbpoag.ints [x.1, x.2.1, x.2.2]) else (s, [-1]) := by
  refine (neut_if s rfl).trans (if_congr3 ?_)
  cases (standing (factsAt s p.toNat) i.toNat).signed <;> rfl
theorem neut_missing (s : State) (p d : Int) : neut s (.missing p d) = if (isPlace p && within d 0 7) = true then (s, ((missingOf (factsAt s p.toNat) d.toNat).length : Int) :: rowD (Vbpoag.ints ((missingOf (factsAt s p.toNat) d.toNat).take 50))) else (s, [-1]) := (neut_if s rfl).trans (if_congr3 (flat1 s _ [] _))
def atB (fs : List Fact) (o : Int) (i : Nat) : Bool := [1, 4, 7].contains (standing fs i).state && ((standing fs i).office : Int) == o
theorem neut_at (s : State) (p o : Int) : neut s (.at_ p o) = if (isPlace p && within o 0 5) = true then (s, (((itemsOf (factsAt s p.toNat)).filter (atB (factsAt s p.toNat) o)).length : Int) :: rowD (Vbpoag.ints ((itemsOf (factsAt s p.toNat)).filter (atB (factsAt s p.toNat) o)))) else (s, [-1]) := (neut_if s rfl).trans (if_congr3 (flat1 s _ [] _))
theorem neut_sign (s : State) (i d n : Int) : neut s (.sign i d n) = if (isItem i && (within d 0 7 && within n 1 9999)) = true then (s, [if (i.toNat + 3 * d.toNat + 5 * n.toNat) % 97 = 0 then 97 else ((((i.toNat + 3 * d.toNat + 5 * n.toNat) % 97 : Nat)) : Int)]) else (s, [-1]) := (neut_if s rfl).trans (if_congr3 rfl)
theorem neut_differ (s : State) (a b : Int) : neut s (.differ a b) = if (isPlace a && isPlace b) = true then (s, [(((factsAt s a.toNat).filter fun f => !(factsAt s b.toNat).contains f).length : Int), (((factsAt s b.toNat).filter fun f => !(factsAt s a.toNat).contains f).length : Int)]) else (s, [-1]) := (neut_if s rfl).trans (if_congr3 rfl)
theorem neut_counts (s : State) (p : Int) : neut s (.counts p) = if isPlace p = true then (s, [((factsAt s p.toNat).length : Int), ((itemsOf (factsAt s p.toNat)).length : Int), ((clashesIn (factsAt s p.toNat)).length : Int)]) else (s, [-1]) := (neut_if s rfl).trans (if_congr3 rfl)
end Sc
namespace Sc
open PySem PySem.Spec PyProof.Rows L2
open Vbpoag (Fact State)
theorem DoneA.mono {G : Gx} {H H1 : Hp} {a dx k : Addr} {r : State × List Int} {Q : VK} (h : DoneA G H a dx k r Q) (s : Same H H1) : DoneA G H1 a dx k r Q := fun b k' A' H' sx hk hd hb hb0 hq => h b k' A' H' ((SX2.of s).trans sx) (hk.imp id fun e => same_none s e) hd hb (same_none s hb0) fun q hm vs hv hn => hq q hm vs (s _ _ hv) fun z => hn (same_none s z)
theorem DoneX.mono {G : Gx} {H H1 : Hp} {a dx k : Addr} {A : List Addr} {s : State} {r : State × List Int} {E : XK} (h : DoneX G H a dx k A s r E) (e : Same H H1) : DoneX G H1 a dx k A s r E := fun n hr => (h n hr).same e
theorem DoneX.no {G : Gx} {H : Hp} {a dx k : Addr} {A : List Addr} {s : State} {b : Bool} {x : State × List Int} {E : XK} (h : DoneX G H a dx k A s (if b = true then x else (s, [-1])) E) (hb : b = false) : RefE G H E (-1) := h (-1) (by rw [hb, if_neg Bool.false_ne_true])
theorem place_of {n : Nat} (h : n < 3) : Vbpoag.isPlace (n : Int) = true := by
  unfold Vbpoag.isPlace Vbpoag.within
  simp only [decide_eq_true_eq, Bool.and_eq_true]
  omega
end Sc
namespace Sc
open PySem PySem.Spec PyProof.Rows L2
open Vbpoag (Fact State Standing)
/-! ### how an item stands, as data -/
def sgL : Option (Nat × Nat × Nat) → List Nat
  | none => []
  | some z => [z.1, z.2.1, z.2.2]
theorem sgL_inj {x y : Option (Nat × Nat × Nat)} (h : sgL x = sgL y) : x = y := by
  cases x with
  | none => cases y with
    | none => rfl
    | some z => cases h
  | some w => cases y with
    | none => cases h
    | some z =>
      obtain ⟨a, b, c⟩ := w
      obtain ⟨a', b', c'⟩ := z
      simp only [sgL, List.cons.injEq, and_true] at h
      obtain ⟨h1, h2, h3⟩ := h
      subst h1; subst h2; subst h3; rfl
def stD' (x : Standing) : PyData := .tuple [.int (x.state : Int), .int (x.office : Int), .int (x.attempts : Int), natsD x.odd, natsD (sgL x.signed)]
theorem dep_nats (l : List Nat) : (natsD l).depth = 1 := dep_lstI _
theorem sh_stD (x : Standing) : SeqAt.shaped (stD' x) = true := shaped_of (by simp [stD', PyData.canLay0, PyData.canLayAll0, lay_nats]) (by simp [stD', PyData.depth, PyData.depthAll, dep_nats])
theorem eqv_stD (x y : Standing) : PyData.eqv (stD' x) (stD' y) = decide (x = y) := by
  simp only [stD', PyData.eqv, PyData.eqvAll, eqv_nats, Bool.and_true]
  refine bool_eq_of_iff ?_
  simp only [Bool.and_eq_true, beq_iff_eq, decide_eq_true_eq]
  constructor
  · rintro ⟨h1, h2, h3, h4, h5⟩
    obtain ⟨a, b, c, d, e⟩ := x
    obtain ⟨a', b', c', d', e'⟩ := y
    have g1 : a = a' := Int.ofNat.inj h1
    have g2 : b = b' := Int.ofNat.inj h2
    have g3 : c = c' := Int.ofNat.inj h3
    have g4 : d = d' := h4
    have g5 : e = e' := sgL_inj h5
    rw [g1, g2, g3, g4, g5]
  · intro e
    subst e
    simp
theorem ints_V (l : List Nat) : (Vbpoag.ints l).map V.int = l.map natV := by
  unfold Vbpoag.ints
  rw [List.map_map]
  rfl
theorem items_len {fs : List Fact} (hr : ∀ f ∈ fs, Vbpoag.inRange f = true) : (Vbpoag.itemsOf fs).length ≤ 100 := by
  unfold Vbpoag.itemsOf
  exact Nat.le_trans (List.length_filter_le ..) (by simp [Vbpoag.ITEMS])
theorem nats_of {K : PySem.W.Frag} {H : Hp} {ys : List V} {l : List Nat} (h : DpAll K H ys (l.map fun (n : Nat) => PyData.int (n : Int))) : ys = l.map natV := by
  have e1 : l.map (fun (n : Nat) => PyData.int (n : Int)) = (l.map fun (n : Nat) => (n : Int)).map PyData.int := by rw [List.map_map]; rfl
  rw [e1] at h
  rw [dpAll_ints_inv h, List.map_map]
  rfl
theorem written_len {form : Nat} {fs : List Fact} (h : ∀ f ∈ fs, (Vbpoag.lineOf form f).length ≤ 100) : (Vbpoag.written form fs).length ≤ fs.length * 101 := by
  unfold Vbpoag.written
  have := joined_len 10 (fs.map (Vbpoag.lineOf form)) 100 fun w hw => by
    obtain ⟨f, hf, rfl⟩ := List.mem_map.mp hw
    exact h f hf
  rw [List.length_map] at this
  exact this
end Sc
namespace Sc
theorem shape_cases {c : Int} {m r : Nat} (h : PyVbpoag.shape c = some (m, r)) :
    (c = 0 ∧ m = 0 ∧ r = 0) ∨ (c = 1 ∧ m = 9 ∧ r = 0) ∨ (c = 2 ∧ m = 6 ∧ r = 0) ∨ (c = 3 ∧ m = 3 ∧ r = 0) ∨ (c = 4 ∧ m = 2 ∧ r = 0) ∨ (c = 5 ∧ m = 2 ∧ r = 0) ∨ (c = 6 ∧ m = 4 ∧ r = 0) ∨ (c = 7 ∧ m = 1 ∧ r = 0) ∨ (c = 8 ∧ m = 2 ∧ r = 0) ∨ (c = 9 ∧ m = 3 ∧ r = 0) ∨ (c = 10 ∧ m = 2 ∧ r = 1) ∨ (c = 11 ∧ m = 1 ∧ r = 1) ∨ (c = 12 ∧ m = 2 ∧ r = 0) ∨ (c = 13 ∧ m = 2 ∧ r = 0) ∨ (c = 14 ∧ m = 2 ∧ r = 0) ∨ (c = 15 ∧ m = 2 ∧ r = 0) ∨ (c = 16 ∧ m = 3 ∧ r = 0) ∨ (c = 17 ∧ m = 2 ∧ r = 0) ∨ (c = 18 ∧ m = 1 ∧ r = 0) := by
  unfold PyVbpoag.shape at h
  by_cases h0 : c = 0
  · rw [if_pos h0] at h
    cases h
    exact .inl ⟨h0, rfl, rfl⟩
  rw [if_neg h0] at h
  by_cases h1 : c = 1
  · rw [if_pos h1] at h
    cases h
    exact .inr <| .inl ⟨h1, rfl, rfl⟩
  rw [if_neg h1] at h
  by_cases h2 : c = 2
  · rw [if_pos h2] at h
    cases h
    exact .inr <| .inr <| .inl ⟨h2, rfl, rfl⟩
  rw [if_neg h2] at h
  by_cases h3 : c = 3
  · rw [if_pos h3] at h
    cases h
    exact .inr <| .inr <| .inr <| .inl ⟨h3, rfl, rfl⟩
  rw [if_neg h3] at h
  by_cases h4 : c = 4
  · rw [if_pos h4] at h
    cases h
    exact .inr <| .inr <| .inr <| .inr <| .inl ⟨h4, rfl, rfl⟩
  rw [if_neg h4] at h
  by_cases h5 : c = 5
  · rw [if_pos h5] at h
    cases h
    exact .inr <| .inr <| .inr <| .inr <| .inr <| .inl ⟨h5, rfl, rfl⟩
  rw [if_neg h5] at h
  by_cases h6 : c = 6
  · rw [if_pos h6] at h
    cases h
    exact .inr <| .inr <| .inr <| .inr <| .inr <| .inr <| .inl ⟨h6, rfl, rfl⟩
  rw [if_neg h6] at h
  by_cases h7 : c = 7
  · rw [if_pos h7] at h
    cases h
    exact .inr <| .inr <| .inr <| .inr <| .inr <| .inr <| .inr <| .inl ⟨h7, rfl, rfl⟩
  rw [if_neg h7] at h
  by_cases h8 : c = 8
  · rw [if_pos h8] at h
    cases h
    exact .inr <| .inr <| .inr <| .inr <| .inr <| .inr <| .inr <| .inr <| .inl ⟨h8, rfl, rfl⟩
  rw [if_neg h8] at h
  by_cases h9 : c = 9
  · rw [if_pos h9] at h
    cases h
    exact .inr <| .inr <| .inr <| .inr <| .inr <| .inr <| .inr <| .inr <| .inr <| .inl ⟨h9, rfl, rfl⟩
  rw [if_neg h9] at h
  by_cases h10 : c = 10
  · rw [if_pos h10] at h
    cases h
    exact .inr <| .inr <| .inr <| .inr <| .inr <| .inr <| .inr <| .inr <| .inr <| .inr <| .inl ⟨h10, rfl, rfl⟩
  rw [if_neg h10] at h
  by_cases h11 : c = 11
  · rw [if_pos h11] at h
    cases h
    exact .inr <| .inr <| .inr <| .inr <| .inr <| .inr <| .inr <| .inr <| .inr <| .inr <| .inr <| .inl ⟨h11, rfl, rfl⟩
  rw [if_neg h11] at h
  by_cases h12 : c = 12
  · rw [if_pos h12] at h
    cases h
    exact .inr <| .inr <| .inr <| .inr <| .inr <| .inr <| .inr <| .inr <| .inr <| .inr <| .inr <| .inr <| .inl ⟨h12, rfl, rfl⟩
  rw [if_neg h12] at h
  by_cases h13 : c = 13
  · rw [if_pos h13] at h
    cases h
    exact .inr <| .inr <| .inr <| .inr <| .inr <| .inr <| .inr <| .inr <| .inr <| .inr <| .inr <| .inr <| .inr <| .inl ⟨h13, rfl, rfl⟩
  rw [if_neg h13] at h
  by_cases h14 : c = 14
  · rw [if_pos h14] at h
    cases h
    exact .inr <| .inr <| .inr <| .inr <| .inr <| .inr <| .inr <| .inr <| .inr <| .inr <| .inr <| .inr <| .inr <| .inr <| .inl ⟨h14, rfl, rfl⟩
  rw [if_neg h14] at h
  by_cases h15 : c = 15
  · rw [if_pos h15] at h
    cases h
    exact .inr <| .inr <| .inr <| .inr <| .inr <| .inr <| .inr <| .inr <| .inr <| .inr <| .inr <| .inr <| .inr <| .inr <| .inr <| .inl ⟨h15, rfl, rfl⟩
  rw [if_neg h15] at h
  by_cases h16 : c = 16
  · rw [if_pos h16] at h
    cases h
    exact .inr <| .inr <| .inr <| .inr <| .inr <| .inr <| .inr <| .inr <| .inr <| .inr <| .inr <| .inr <| .inr <| .inr <| .inr <| .inr <| .inl ⟨h16, rfl, rfl⟩
  rw [if_neg h16] at h
  by_cases h17 : c = 17
  · rw [if_pos h17] at h
    cases h
    exact .inr <| .inr <| .inr <| .inr <| .inr <| .inr <| .inr <| .inr <| .inr <| .inr <| .inr <| .inr <| .inr <| .inr <| .inr <| .inr <| .inr <| .inl ⟨h17, rfl, rfl⟩
  rw [if_neg h17] at h
  by_cases h18 : c = 18
  · rw [if_pos h18] at h
    cases h
    exact .inr <| .inr <| .inr <| .inr <| .inr <| .inr <| .inr <| .inr <| .inr <| .inr <| .inr <| .inr <| .inr <| .inr <| .inr <| .inr <| .inr <| .inr <| ⟨h18, rfl, rfl⟩
  rw [if_neg h18] at h
  cases h
theorem len1 {α : Type} {l : List α} (h : l.length = 1) : ∃ a, l = [a] := by
  match l, h with
  | [a], _ => exact ⟨a, rfl⟩
theorem len2 {α : Type} {l : List α} (h : l.length = 2) : ∃ a b, l = [a, b] := by
  match l, h with
  | [a, b], _ => exact ⟨a, b, rfl⟩
theorem len3 {α : Type} {l : List α} (h : l.length = 3) : ∃ a b c, l = [a, b, c] := by
  match l, h with
  | [a, b, c], _ => exact ⟨a, b, c, rfl⟩
theorem len4 {α : Type} {l : List α} (h : l.length = 4) : ∃ a b c d, l = [a, b, c, d] := by
  match l, h with
  | [a, b, c, d], _ => exact ⟨a, b, c, d, rfl⟩
theorem len6 {α : Type} {l : List α} (h : l.length = 6) : ∃ a b c d e f, l = [a, b, c, d, e, f] := six_of h
theorem len9 {α : Type} {l : List α} (h : l.length = 9) : ∃ a b c d e f g i j, l = [a, b, c, d, e, f, g, i, j] := by
  match l, h with
  | [a, b, c, d, e, f, g, i, j], _ => exact ⟨a, b, c, d, e, f, g, i, j, rfl⟩
end Sc
namespace Sc
open PySem PySem.Spec PyProof.Rows L2
def shL : List (Nat × Nat) := [(0, 0), (9, 0), (6, 0), (3, 0), (2, 0), (2, 0), (4, 0), (1, 0), (2, 0), (3, 0), (2, 1), (1, 1), (2, 0), (2, 0), (2, 0), (2, 0), (3, 0), (2, 0), (1, 0)]
theorem shapes_data : dSHAPES = .tuple (shL.map pairD) := by rfl
theorem shape_get {c : Int} {m r : Nat} (h : PyVbpoag.shape c = some (m, r)) : ∃ n : Nat, c = (n : Int) ∧ shL[n]? = some (m, r) ∧ r ≤ 1 ∧ m ≤ 9 := by
  rcases shape_cases h with ⟨hc, hm, hr⟩ | ⟨hc, hm, hr⟩ | ⟨hc, hm, hr⟩ | ⟨hc, hm, hr⟩ | ⟨hc, hm, hr⟩ | ⟨hc, hm, hr⟩ | ⟨hc, hm, hr⟩ | ⟨hc, hm, hr⟩ | ⟨hc, hm, hr⟩ | ⟨hc, hm, hr⟩ | ⟨hc, hm, hr⟩ | ⟨hc, hm, hr⟩ | ⟨hc, hm, hr⟩ | ⟨hc, hm, hr⟩ | ⟨hc, hm, hr⟩ | ⟨hc, hm, hr⟩ | ⟨hc, hm, hr⟩ | ⟨hc, hm, hr⟩ | ⟨hc, hm, hr⟩
  all_goals
    subst hc; subst hm; subst hr
  · exact ⟨0, rfl, rfl, by decide, by decide⟩
  · exact ⟨1, rfl, rfl, by decide, by decide⟩
  · exact ⟨2, rfl, rfl, by decide, by decide⟩
  · exact ⟨3, rfl, rfl, by decide, by decide⟩
  · exact ⟨4, rfl, rfl, by decide, by decide⟩
  · exact ⟨5, rfl, rfl, by decide, by decide⟩
  · exact ⟨6, rfl, rfl, by decide, by decide⟩
  · exact ⟨7, rfl, rfl, by decide, by decide⟩
  · exact ⟨8, rfl, rfl, by decide, by decide⟩
  · exact ⟨9, rfl, rfl, by decide, by decide⟩
  · exact ⟨10, rfl, rfl, by decide, by decide⟩
  · exact ⟨11, rfl, rfl, by decide, by decide⟩
  · exact ⟨12, rfl, rfl, by decide, by decide⟩
  · exact ⟨13, rfl, rfl, by decide, by decide⟩
  · exact ⟨14, rfl, rfl, by decide, by decide⟩
  · exact ⟨15, rfl, rfl, by decide, by decide⟩
  · exact ⟨16, rfl, rfl, by decide, by decide⟩
  · exact ⟨17, rfl, rfl, by decide, by decide⟩
  · exact ⟨18, rfl, rfl, by decide, by decide⟩
theorem shape_tab {K : PySem.W.Frag} {H : Hp} {a : Addr} (h : Dp K H (.ref a) dSHAPES) {c : Int} {m r : Nat} (hs : PyVbpoag.shape c = some (m, r)) : ∃ xs b, SqT K H a xs ∧ atI xs c = some (.ref b) ∧ SqT K H b [.int (m : Int), .int (r : Int)] := by
  obtain ⟨n, rfl, hn, _⟩ := shape_get hs
  rw [shapes_data] at h
  obtain ⟨a', xs, e, hx, hd⟩ := dp_tup_inv h
  cases e
  obtain ⟨v, h1, h2⟩ := dpAll_get (d := pairD (m, r)) hd (by rw [List.getElem?_map, hn]; rfl)
  obtain ⟨b, rfl, hb⟩ := dp_tupI h2
  exact ⟨xs, b, hx, at_nat h1 rfl, hb⟩
theorem cutV_both {xs : List V} {i j : Nat} {x y : Int} (hx : x = (i : Int)) (hy : y = (j : Int)) (hij : i ≤ j) (hj : j ≤ xs.length) : cutV xs (some x) (some y) = (xs.drop i).take (j - i) := by
  subst hx; subst hy
  unfold cutV
  rw [HT.sIx_nat, HT.sIx_nat, Nat.min_eq_left hj, Nat.min_eq_left (by omega)]
theorem whole_id (c : List (List Int)) : PyVbpoag.whole c = c := by
  unfold PyVbpoag.whole
  split <;> rfl
theorem row_some {l x t : List Int} (h : PyFlat.row l = some (x, t)) : ∃ n r, l = n :: r ∧ 0 ≤ n ∧ n.toNat ≤ r.length ∧ x = r.take n.toNat ∧ t = r.drop n.toNat := by
  cases l with
  | nil => cases h
  | cons n r =>
    unfold PyFlat.row at h
    dsimp only at h
    by_cases c : 0 ≤ n ∧ n.toNat ≤ r.length
    · rw [if_pos c] at h
      cases h
      exact ⟨n, r, rfl, c.1, c.2, rfl, rfl⟩
    · rw [if_neg c] at h; cases h
theorem rows0 {l t : List Int} {xs : List (List Int)} (h : PyFlat.rows 0 l = some (xs, t)) : xs = [] ∧ t = l := by
  cases h; exact ⟨rfl, rfl⟩
theorem rows1 {l t : List Int} {xs : List (List Int)} (h : PyFlat.rows 1 l = some (xs, t)) : ∃ x, xs = [x] ∧ PyFlat.row l = some (x, t) := by
  unfold PyFlat.rows at h
  cases hr : PyFlat.row l with
  | none => rw [hr] at h; cases h
  | some z =>
    obtain ⟨x, s⟩ := z
    rw [hr] at h
    cases h
    exact ⟨x, rfl, rfl⟩
theorem calls_step {f : Nat} {p : Int} {r : List Int} {cs : List (List (List Int))} (h : PyFlat.calls PyVbpoag.shape f (p :: r) = some cs) : ∃ g n k xs t cs', f = g + 1 ∧ PyVbpoag.shape p = some (n, k) ∧ n ≤ r.length ∧ PyFlat.rows k (r.drop n) = some (xs, t) ∧ PyFlat.calls PyVbpoag.shape g t = some cs' ∧ cs = ((p :: r.take n) :: xs) :: cs' := by
  cases f with
  | zero => cases h
  | succ g =>
    unfold PyFlat.calls at h
    cases hc : PyFlat.call PyVbpoag.shape (p :: r) with
    | none => (rw [hc] at h; cases h)
    | some z =>
      obtain ⟨c, t⟩ := z
      rw [hc] at h
      dsimp only at h
      cases hs : PyFlat.calls PyVbpoag.shape g t with
      | none => (rw [hs] at h; cases h)
      | some cs' =>
        rw [hs] at h
        cases h
        unfold PyFlat.call at hc
        dsimp only at hc
        cases hp : PyVbpoag.shape p with
        | none => rw [hp] at hc; cases hc
        | some w =>
          obtain ⟨n, k⟩ := w
          rw [hp] at hc
          dsimp only at hc
          by_cases hl : r.length < n
          · rw [if_pos hl] at hc; cases hc
          · rw [if_neg hl] at hc
            cases hr : PyFlat.rows k (r.drop n) with
            | none => rw [hr] at hc; cases hc
            | some v =>
              obtain ⟨xs, t'⟩ := v
              rw [hr] at hc
              cases hc
              exact ⟨g, n, k, xs, t, cs', rfl, rfl, by omega, hr, hs, rfl⟩
theorem rows_len : ∀ {k : Nat} {l t : List Int} {xs : List (List Int)}, PyFlat.rows k l = some (xs, t) → xs.length = k
  | 0, l, t, xs, h => by rw [(rows0 h).1]; rfl
  | k + 1, l, t, xs, h => by
    unfold PyFlat.rows at h
    cases hr : PyFlat.row l with
    | none => rw [hr] at h; cases h
    | some z =>
      obtain ⟨x, s⟩ := z
      rw [hr] at h
      dsimp only at h
      cases hq : PyFlat.rows k s with
      | none => (rw [hq] at h; cases h)
      | some w =>
        obtain ⟨ys, u⟩ := w
        rw [hq] at h
        cases h
        rw [List.length_cons, rows_len hq]
/-- a call's rows are short -/
def RowOk (c : List (List Int)) : Prop := ∀ x ∈ c.tail, x.length ≤ 5000
theorem inside_rows {p : Int} {ns : List Int} {xs : List (List Int)} {n : Nat} (hs : PyVbpoag.shape p = some (n, xs.length)) (h : PyInside.call PyVbpoag.bound ((p :: ns) :: xs) = true) : ∀ x ∈ xs, x.length ≤ 5000 := by
  have h : (PyInside.each (PyVbpoag.bound p).1 ns && PyInside.lists (PyVbpoag.bound p).2 xs) = true := h
  rw [Bool.and_eq_true] at h
  have one : (PyVbpoag.bound p).2 = [(-1000000000000000000, 1000000000000000000, 0, 5000)] → xs.length = 1 → ∀ x ∈ xs, x.length ≤ 5000 := by
    intro hb hl
    obtain ⟨y, rfl⟩ := len1 hl
    have h2 := h.2
    rw [hb] at h2
    unfold PyInside.lists at h2
    simp only [decide_eq_true_eq, Bool.and_eq_true] at h2
    intro x hx
    rw [List.mem_singleton.mp hx]
    exact h2.1.1.2
  have zero : xs.length = 0 → ∀ x ∈ xs, x.length ≤ 5000 := by
    intro hl x hx
    rw [List.eq_nil_of_length_eq_zero hl] at hx
    cases hx
  rcases shape_cases hs with ⟨hc, hm, hr⟩ | ⟨hc, hm, hr⟩ | ⟨hc, hm, hr⟩ | ⟨hc, hm, hr⟩ | ⟨hc, hm, hr⟩ | ⟨hc, hm, hr⟩ | ⟨hc, hm, hr⟩ | ⟨hc, hm, hr⟩ | ⟨hc, hm, hr⟩ | ⟨hc, hm, hr⟩ | ⟨hc, hm, hr⟩ | ⟨hc, hm, hr⟩ | ⟨hc, hm, hr⟩ | ⟨hc, hm, hr⟩ | ⟨hc, hm, hr⟩ | ⟨hc, hm, hr⟩ | ⟨hc, hm, hr⟩ | ⟨hc, hm, hr⟩ | ⟨hc, hm, hr⟩
  all_goals first
    | exact zero hr
    | (subst hc; exact one rfl hr)
end Sc
namespace Sc
open PySem PySem.Spec PyProof.Rows L2
open C8 (pe_gc)
open Vbpoag (Fact Scan Body goodSign)
theorem iteN {b : Bool} {A B : Prop} (h1 : b = false → A) (h2 : b = true → B) : if (!b) = true then A else B := by
  cases b with
  | true => exact iteF (h2 rfl)
  | false => exact iteT (h1 rfl)
/-! ### facts -/
def sp_is_from (G : Gx) : Sp := fun vs H Q _ => ∃ lo hi n : Int, vs = [.int lo, .int hi, .int n] ∧ Q (.bl (btw lo n hi)) H
theorem cal_is_from {P : Program} {w : World} {mg : Str → Option Value} {base : Heap} {G : Gx} (T : Txt G mg) (h : Has G mg "is_from" s_is_from) : CalN P w G.K mg base 1 "is_from" (sp_is_from G) := by
  obtain ⟨f, fd, F, hm⟩ := h
  have nd := sc_is_from.nd
  refine ⟨f, fd, ["low", "high", "number"], ?_, hm, F.kp, F.bindsN fun _ _ _ _ _ _ us hl => match us, hl with | [_, _, _], _ => rfl⟩
  refine F.ok sc_is_from (fun vs H Q E h => by obtain ⟨lo, hi, n, rfl, _⟩ := h; rfl) fun cdv A outer s H vs Q E hr h => ?_
  refine ⟨_, PSs.nox (pss_one (ps_ret (pe_and (pe_cmpR op_le (pv 0) (pv 2) (nomark _)) (pe_one (pe_cmpR op_le (pv 2) (pv 1) (nomark _)))))), ?_⟩
  obtain ⟨lo, hi, n, rfl, k⟩ := h
  unfold btw at k
  refine ⟨_, rfl, _, rfl, _, _, rfl, rfl, _, rfl, ?_⟩
  by_cases c : lo ≤ n
  · rw [decide_eq_true c, Bool.true_and] at k
    rw [decide_eq_true c]
    exact iteT ⟨_, rfl, _, rfl, _, _, rfl, rfl, k⟩
  · rw [decide_eq_false c, Bool.false_and] at k
    rw [decide_eq_false c]
    exact iteF k
def sp_is_right_head (G : Gx) : Sp := fun vs H Q _ => ∃ d n e c : Int, vs = [.int d, .int n, .int e, .int c] ∧ Q (.bl (hdOk d n e c)) H
theorem cal_is_right_head {P : Program} {w : World} {mg : Str → Option Value} {base : Heap} {G : Gx} (T : Txt G mg) (h : Has G mg "is_right_head" s_is_right_head) (c_is_from : CalN P w G.K mg base 1 "is_from" (sp_is_from G)) : CalN P w G.K mg base 2 "is_right_head" (sp_is_right_head G) := by
  obtain ⟨f, fd, F, hm⟩ := h
  have nd := sc_is_right_head.nd
  refine ⟨f, fd, ["device", "number", "setting", "clock"], ?_, hm, F.kp, F.bindsN fun _ _ _ _ _ _ us hl => match us, hl with | [_, _, _, _], _ => rfl⟩
  refine F.ok sc_is_right_head (fun vs H Q E h => by obtain ⟨d, n, e, c, rfl, _⟩ := h; rfl) fun cdv A outer s H vs Q E hr h => ?_
  refine ⟨_, PSs.nox (pss_cons (ps_if (PW.pt (pw_or (pt_not (pt_val (pe_cn c_is_from hr (by decide) rfl (pa_cons pe_int (pa_cons (pe_gc rfl T.c_MOST_DEVICE) (pa_cons (pv 0) pa_nil)))))) (pw_or1 (pt_not (pt_val (pe_cn c_is_from hr (by decide) rfl (pa_cons pe_int (pa_cons (pe_gc rfl T.c_MOST_NUMBER) (pa_cons (pv 1) pa_nil))))))))) (pss_one (ps_ret pe_bl)) pss_nil)
      (pss_one (ps_ret (pe_and (pe_cn c_is_from hr (by decide) rfl (pa_cons pe_int (pa_cons (pe_gc rfl T.c_MOST_SETTING) (pa_cons (pv 2) pa_nil)))) (pe_one (pe_cn c_is_from hr (by decide) rfl (pa_cons pe_int (pa_cons (pe_gc rfl T.c_MOST_CLOCK) (pa_cons (pv 3) pa_nil))))))))), ?_⟩
  obtain ⟨d, n, e, c, rfl, k⟩ := h
  unfold hdOk at k
  refine ⟨_, rfl, 0, 7, d, rfl, _, rfl, iteN (fun c1 => iteT ?_) fun c1 => ⟨_, rfl, 1, 9999, n, rfl, _, rfl, iteN (fun c2 => ?_) fun c2 => ⟨_, rfl, 0, 9, e, rfl, _, rfl, iteB (fun c3 => ⟨_, rfl, 0, 99999, c, rfl, ?_⟩) fun c3 => ?_⟩⟩⟩
  · rw [c1] at k; exact k
  · rw [c1, c2] at k; exact k
  · rw [c1, c2, c3] at k; exact k
  · rw [c1, c2, c3] at k; exact k
def sp_is_right (G : Gx) : Sp := fun vs H Q _ => ∃ (v : V) (r : RF), vs = [v] ∧ Dp G.K H v (tupI r.l) ∧ Q (.bl r.ok) H
theorem cal_is_right {P : Program} {w : World} {mg : Str → Option Value} {base : Heap} {G : Gx} (T : Txt G mg) (h : Has G mg "is_right" s_is_right) (c_is_right_head : CalN P w G.K mg base 2 "is_right_head" (sp_is_right_head G)) (c_is_from : CalN P w G.K mg base 1 "is_from" (sp_is_from G)) : CalN P w G.K mg base 3 "is_right" (sp_is_right G) := by
  obtain ⟨f, fd, F, hm⟩ := h
  have nd := sc_is_right.nd
  refine ⟨f, fd, ["fact"], ?_, hm, F.kp, F.bindsN fun _ _ _ _ _ _ us hl => match us, hl with | [_], _ => rfl⟩
  refine F.ok sc_is_right (fun vs H Q E h => by obtain ⟨v, r, rfl, _⟩ := h; rfl) fun cdv A outer s H vs Q E hr h => ?_
  refine ⟨_, PSs.nox (pss_cons (ps_if (pt_not (pt_val (pe_cn c_is_right_head hr (by decide) rfl (pa_cons (pe_ix ix_tup (pv 0) (pe_gc rfl T.c_DEVICE) (fun _ _ => rfl)) (pa_cons (pe_ix ix_tup (pv 0) (pe_gc rfl T.c_NUMBER) (fun _ _ => rfl)) (pa_cons (pe_ix ix_tup (pv 0) (pe_gc rfl T.c_SETTING) (fun _ _ => rfl)) (pa_cons (pe_ix ix_tup (pv 0) (pe_gc rfl T.c_CLOCK) (fun _ _ => rfl)) pa_nil))))))) (pss_one (ps_ret pe_bl)) pss_nil)
      (pss_cons (ps_if (pt_cmpR op_eq (pe_ix ix_tup (pv 0) pe_int (fun _ _ => rfl)) (pe_gc rfl T.c_LOOK) (nomark _)) (pss_one (ps_ret (pe_cn c_is_from hr (by decide) rfl (pa_cons pe_int (pa_cons (pe_gc rfl T.c_MOST_CLOCK) (pa_cons (pe_ix ix_tup (pv 0) (pe_gc rfl T.c_TIME) (fun _ _ => rfl)) pa_nil)))))) pss_nil)
      (pss_cons (ps_if (PW.pt (pw_or (pt_not (pt_val (pe_cn c_is_from hr (by decide) rfl (pa_cons pe_int (pa_cons (pe_gc rfl T.c_MOST_ITEM) (pa_cons (pe_ix ix_tup (pv 0) (pe_gc rfl T.c_ITEM) (fun _ _ => rfl)) pa_nil)))))) (pw_or1 (pt_not (pt_val (pe_cn c_is_from hr (by decide) rfl (pa_cons pe_int (pa_cons (pe_gc rfl T.c_MOST_KIND) (pa_cons (pe_ix ix_tup (pv 0) (pe_gc rfl T.c_KIND) (fun _ _ => rfl)) pa_nil))))))))) (pss_one (ps_ret pe_bl)) pss_nil)
      (pss_one (ps_ret (pe_and (pe_cn c_is_from hr (by decide) rfl (pa_cons pe_int (pa_cons (pe_gc rfl T.c_MOST_OFFICE) (pa_cons (pe_ix ix_tup (pv 0) (pe_gc rfl T.c_OFFICE) (fun _ _ => rfl)) pa_nil)))) (pe_one (pe_cn c_is_from hr (by decide) rfl (pa_cons pe_int (pa_cons (pe_gc rfl T.c_MOST_SIGNATURE) (pa_cons (pe_ix ix_tup (pv 0) (pe_gc rfl T.c_SIGNATURE) (fun _ _ => rfl)) pa_nil))))))))))), ?_⟩
  obtain ⟨v, r, rfl, hD, k⟩ := h
  obtain ⟨a, rfl, hS⟩ := dp_tupI hD
  cases r with
  | scan d n e c i kd o g =>
    have hS : SqT G.K H a [.int 0, .int d, .int n, .int e, .int c, .int i, .int kd, .int o, .int g] := hS
    have k : Q (.bl (hdOk d n e c && (btw 1 i 99 && btw 0 kd 9 && (btw 0 o 5 && btw 0 g 999999)))) H := k
    refine ⟨_, rfl, _, _, _, _, rfl, rfl, hS, rfl, _, rfl, _, _, _, _, rfl, rfl, hS, rfl, _, rfl, _, _, _, _, rfl, rfl, hS, rfl, _, rfl, _, _, _, _, rfl, rfl, hS, rfl, d, n, e, c, rfl, _, rfl, iteN (fun c1 => ?_) fun c1 => ⟨_, rfl, _, _, _, _, rfl, rfl, hS, rfl, rfl, _, rfl, iteB (fun z => absurd z (by decide)) fun _ => ?_⟩⟩
    · rw [c1] at k; exact k
    refine ⟨_, rfl, _, _, _, _, rfl, rfl, hS, rfl, 1, 99, i, rfl, _, rfl, iteN (fun c2 => iteT ?_) fun c2 => ⟨_, rfl, _, _, _, _, rfl, rfl, hS, rfl, 0, 9, kd, rfl, _, rfl, iteN (fun c3 => ?_) fun c3 => ⟨_, rfl, _, _, _, _, rfl, rfl, hS, rfl, 0, 5, o, rfl, _, rfl, iteB (fun c4 => ⟨_, rfl, _, _, _, _, rfl, rfl, hS, rfl, 0, 999999, g, rfl, ?_⟩) fun c4 => ?_⟩⟩⟩
    · rw [c1, c2] at k; exact k
    · rw [c1, c2, c3] at k; exact k
    · rw [c1, c2, c3, c4] at k; exact k
    · rw [c1, c2, c3, c4] at k; exact k
  | look d n e c t =>
    have hS : SqT G.K H a [.int 1, .int d, .int n, .int e, .int c, .int t] := hS
    have k : Q (.bl (hdOk d n e c && btw 0 t 99999)) H := k
    refine ⟨_, rfl, _, _, _, _, rfl, rfl, hS, rfl, _, rfl, _, _, _, _, rfl, rfl, hS, rfl, _, rfl, _, _, _, _, rfl, rfl, hS, rfl, _, rfl, _, _, _, _, rfl, rfl, hS, rfl, d, n, e, c, rfl, _, rfl, iteN (fun c1 => ?_) fun c1 => ⟨_, rfl, _, _, _, _, rfl, rfl, hS, rfl, rfl, _, rfl, iteB (fun _ => ⟨_, rfl, _, _, _, _, rfl, rfl, hS, rfl, 0, 99999, t, rfl, ?_⟩) fun z => absurd z (by decide)⟩⟩
    · rw [c1] at k; exact k
    · rw [c1] at k; exact k
def sp_wanted (G : Gx) : Sp := fun vs H Q _ => ∃ i d n : Int, vs = [.int i, .int d, .int n] ∧ Q (.int ((i + 3 * d + 5 * n) % 97)) H
theorem cal_wanted {P : Program} {w : World} {mg : Str → Option Value} {base : Heap} {G : Gx} (T : Txt G mg) (h : Has G mg "wanted" s_wanted) : CalN P w G.K mg base 1 "wanted" (sp_wanted G) := by
  obtain ⟨f, fd, F, hm⟩ := h
  have nd := sc_wanted.nd
  refine ⟨f, fd, ["item", "device", "number"], ?_, hm, F.kp, F.bindsN fun _ _ _ _ _ _ us hl => match us, hl with | [_, _, _], _ => rfl⟩
  refine F.ok sc_wanted (fun vs H Q E h => by obtain ⟨lo, hi, n, rfl, _⟩ := h; rfl) fun cdv A outer s H vs Q E hr h => ?_
  refine ⟨_, PSs.nox (pss_one (ps_ret (pe_op op_mod (pe_op op_add (pe_op op_add (pv 0) (pe_op op_mul pe_int (pv 1))) (pe_op op_mul pe_int (pv 2))) (pe_gc rfl T.c_ROUND)))), ?_⟩
  obtain ⟨i, d, n, rfl, k⟩ := h
  refine ⟨_, rfl, _, rfl, _, _, rfl, rfl, .inl ⟨by decide, by decide⟩, _, _, rfl, rfl, _, rfl, _, _, rfl, rfl, .inl ⟨by decide, by decide⟩, _, _, rfl, rfl, _, _, rfl, rfl, (by show (0 : Int) < 97; decide), k⟩
theorem good_int {i d n s : Nat} : goodSign i d n s = (!decide (V.int (s : Int) = V.int 0) && decide (V.int ((s : Int) % 97) = V.int (((i : Int) + 3 * (d : Int) + 5 * (n : Int)) % 97))) := by
  refine bool_eq_of_iff ?_
  unfold goodSign
  simp only [Bool.and_eq_true, bne_iff_ne, beq_iff_eq, Bool.not_eq_true', decide_eq_false_iff_not, decide_eq_true_eq, V.int.injEq, ne_eq]
  omega
theorem fact_sq {G : Gx} {H : Hp} {v : V} {f : Fact} {x : Scan} (h : Dp G.K H v (factD f)) (hb : f.body = .scan x) : ∃ a, v = .ref a ∧ SqT G.K H a [.int 0, .int (f.device : Int), .int (f.number : Int), .int (f.epoch : Int), .int (f.clock : Int), .int (x.item : Int), .int (x.kind : Int), .int (x.office : Int), .int (x.sign : Int)] := by
  obtain ⟨a, rfl, hS⟩ := dp_tupI h
  refine ⟨a, rfl, ?_⟩
  unfold factI at hS
  rw [hb] at hS
  exact hS
def sp_is_good (G : Gx) : Sp := fun vs H Q _ => ∃ (v : V) (f : Fact) (x : Scan), vs = [v] ∧ f.body = .scan x ∧ Dp G.K H v (factD f) ∧ Q (.bl (goodSign x.item f.device f.number x.sign)) H
theorem cal_is_good {P : Program} {w : World} {mg : Str → Option Value} {base : Heap} {G : Gx} (T : Txt G mg) (h : Has G mg "is_good" s_is_good) (c_wanted : CalN P w G.K mg base 1 "wanted" (sp_wanted G)) : CalN P w G.K mg base 2 "is_good" (sp_is_good G) := by
  obtain ⟨f, fd, F, hm⟩ := h
  have nd := sc_is_good.nd
  refine ⟨f, fd, ["fact"], ?_, hm, F.kp, F.bindsN fun _ _ _ _ _ _ us hl => match us, hl with | [_], _ => rfl⟩
  refine F.ok sc_is_good (fun vs H Q E h => by obtain ⟨v, f, x, rfl, _⟩ := h; rfl) fun cdv A outer s H vs Q E hr h => ?_
  refine ⟨_, PSs.nox (pss_cons (ps_set (i := 1) nd rfl (Or.inl rfl) (pe_ix ix_tup (pv 0) (pe_gc rfl T.c_SIGNATURE) (fun _ _ => rfl)))
      (pss_one (ps_ret (pe_and (pe_cmpR op_ne (pv 1) pe_int (nomark _)) (pe_one (pe_cmpR op_eq (pe_op op_mod (pv 1) (pe_gc rfl T.c_ROUND)) (pe_cn c_wanted hr (by decide) rfl (pa_cons (pe_ix ix_tup (pv 0) (pe_gc rfl T.c_ITEM) (fun _ _ => rfl)) (pa_cons (pe_ix ix_tup (pv 0) (pe_gc rfl T.c_DEVICE) (fun _ _ => rfl)) (pa_cons (pe_ix ix_tup (pv 0) (pe_gc rfl T.c_NUMBER) (fun _ _ => rfl)) pa_nil)))) (nomark _))))))), ?_⟩
  obtain ⟨v, f, x, rfl, hb, hD, k⟩ := h
  obtain ⟨a, rfl, hS⟩ := fact_sq hD hb
  rw [good_int] at k
  refine ⟨_, rfl, _, _, _, _, rfl, rfl, hS, rfl, _, rfl, rfl, _, rfl, iteB (fun c1 => ?_) fun c1 => ?_⟩
  · rw [c1, Bool.true_and] at k
    exact ⟨_, rfl, _, _, rfl, rfl, (by show (0 : Int) < 97; decide), _, rfl, _, _, _, _, rfl, rfl, hS, rfl, _, rfl, _, _, _, _, rfl, rfl, hS, rfl, _, rfl, _, _, _, _, rfl, rfl, hS, rfl, _, _, _, rfl, rfl, k⟩
  · rw [c1, Bool.false_and] at k
    exact k
end Sc
namespace Sc
open PySem PySem.Spec PyProof.Rows L2
open C8 (pe_gc)
open Vbpoag (Fact Scan Body goodSign syncsOf itemsOf clashesIn along rightTime eventsOf)
def sp_scans_of (G : Gx) : Sp := fun vs H Q _ => ∃ (v : V) (fs : List Fact) (i : Nat), vs = [v, .int i] ∧ fs.length ≤ 1000 ∧ Dp G.K H v (factsD fs) ∧ ∀ b ys H', Same H H' → H b = none → H' b = some (.lst ys) → DpAll G.K H' ys ((fs.filter (isScanOf i)).map factD) → Q (.ref b) H'
theorem cal_scans_of {P : Program} {w : World} {mg : Str → Option Value} {base : Heap} {G : Gx} (T : Txt G mg) (h : Has G mg "scans_of" s_scans_of) : CalN P w G.K mg base 1 "scans_of" (sp_scans_of G) := by
  obtain ⟨f, fd, F, hm⟩ := h
  have nd := sc_scans_of.nd
  refine ⟨f, fd, ["facts", "item"], ?_, hm, F.kp, F.bindsN fun _ _ _ _ _ _ us hl => match us, hl with | [_, _], _ => rfl⟩
  refine F.ok sc_scans_of (fun vs H Q E h => by obtain ⟨v, fs, i, rfl, _⟩ := h; rfl) fun cdv A outer s H vs Q E hr h => ?_
  refine ⟨_, PSs.nox (pss_one (ps_ret (pe_lc (own := [("fact", 2)]) rfl nd (pi_list (pv 0)) (blkOk_by (own := [("fact", 2)]) (N := N_scans_of) (sc := defScope s_scans_of) (by decide +kernel)) (fun _ _ _ _ _ => (pg_name (i := 2) nd rfl (Or.inl rfl))) (fun _ _ _ _ _ => pts_one (PW.pt (pw_and (pt_cmpR op_eq (pe_ix (ix_tupK (K := G.K) rfl) (pv 2) pe_int (fun _ _ => rfl)) (pe_gc rfl T.c_SCAN) (nomark _)) (pw_and1 (pt_cmpR op_eq (pe_ix (ix_tupK (K := G.K) rfl) (pv 2) (pe_gc rfl T.c_ITEM) (fun _ _ => rfl)) (pv 1) (nomark _)))))) (fun _ _ _ _ _ => (pv 2))))), ?_⟩
  obtain ⟨v, fs, i, rfl, hl, hd, k⟩ := h
  obtain ⟨a, xs, rfl, hs, hx⟩ := dp_list_inv hd
  have hlen : xs.length = fs.length := by rw [dpAll_len hx, List.length_map]
  refine ⟨_, rfl, a, rfl, ⟨_, hs⟩, fun D hD => lc_data (isScanOf i) factD hD hs hlen (big_lt (by omega)) (fun f _ _ => lfree_fact f) (fun j x f H' Kf Kt hxj hfj s kf kt => ⟨rfl, ?_⟩) fun H' ys s hD' hdp => k _ _ _ s hD hD' hdp⟩
  have hf := Same.dp s (facts_at hx hxj hfj)
  obtain ⟨b, rfl, hS⟩ := dp_tupI hf
  cases hb : f.body with
  | scan z =>
    have e := isScanOf_scan (i := i) hb
    rw [factI_scan hb] at hS
    refine ⟨_, rfl, _, _, _, _, rfl, rfl, hS, rfl, rfl, _, rfl, iteT ⟨_, rfl, _, _, _, _, rfl, rfl, hS, rfl, _, rfl, rfl, _, rfl, ?_⟩⟩
    rw [decN]
    refine iteB (fun c => ⟨_, rfl, kt _ _ (fun _ _ h => h) (e.trans c) hf⟩) fun c => kf _ (fun _ _ h => h) (e.trans c)
  | sync t =>
    have e := isScanOf_sync (i := i) hb
    rw [factI_sync hb] at hS
    refine ⟨_, rfl, _, _, _, _, rfl, rfl, hS, rfl, rfl, _, rfl, iteF ?_⟩
    exact kf _ (fun _ _ h => h) e
def sp_looks_of (G : Gx) : Sp := fun vs H Q _ => ∃ (v : V) (fs : List Fact) (d e : Nat), vs = [v, .int d, .int e] ∧ fs.length ≤ 100 ∧ Dp G.K H v (factsD fs) ∧ post H Q fun u H' => Dp G.K H' u (pairsD (syncsOf fs d e))
theorem cal_looks_of {P : Program} {w : World} {mg : Str → Option Value} {base : Heap} {G : Gx} (T : Txt G mg) (h : Has G mg "looks_of" s_looks_of) : CalN P w G.K mg base 1 "looks_of" (sp_looks_of G) := by
  obtain ⟨f, fd, F, hm⟩ := h
  have nd := sc_looks_of.nd
  refine ⟨f, fd, ["facts", "device", "setting"], ?_, hm, F.kp, F.bindsN fun _ _ _ _ _ _ us hl => match us, hl with | [_, _, _], _ => rfl⟩
  refine F.ok sc_looks_of (fun vs H Q E h => by obtain ⟨v, fs, d, e, rfl, _⟩ := h; rfl) fun cdv A outer s H vs Q E hr h => ?_
  refine ⟨_, PSs.nox (pss_cons (ps_setLc (i := 3) (own := [("fact", 4)]) rfl nd rfl rfl (sw_true rfl rfl rfl (by decide +kernel)) (pi_list (pv 0)) (blkOk_by (own := [("fact", 4)]) (N := N_looks_of) (sc := defScope s_looks_of) (by decide +kernel)) (fun _ _ _ _ _ => (pg_name (i := 4) nd rfl (Or.inl rfl))) (fun _ _ _ _ _ => pts_one (PW.pt (pw_and (pt_cmpR op_eq (pe_ix (ix_tupK (K := G.K) rfl) (pv 4) pe_int (fun _ _ => rfl)) (pe_gc rfl T.c_LOOK) (nomark _)) (pw_and (pt_cmpR op_eq (pe_ix (ix_tupK (K := G.K) rfl) (pv 4) (pe_gc rfl T.c_DEVICE) (fun _ _ => rfl)) (pv 1) (nomark _)) (pw_and1 (pt_cmpR op_eq (pe_ix (ix_tupK (K := G.K) rfl) (pv 4) (pe_gc rfl T.c_SETTING) (fun _ _ => rfl)) (pv 2) (nomark _))))))) (fun _ _ _ _ _ => (pv 4)))
      (pss_one (ps_ret (pe_callB (cr_srtP rfl hr) (by rfl) T.b_sorted (by decide +kernel) (pa_cons (pe_callTy (cr_setP rfl hr) (by rfl) T.b_set (by decide +kernel) (pa_cons (pe_lc (own := [("fact", 4)]) rfl nd (pi_list (pv 3)) (blkOk_by (own := [("fact", 4)]) (N := N_looks_of) (sc := defScope s_looks_of) (by decide +kernel)) (fun _ _ _ _ _ => (pg_name (i := 4) nd rfl (Or.inl rfl))) (fun _ _ _ _ _ => pts_nil) (fun _ _ _ _ _ => (pe_tup (pa_cons (pe_ix (ix_tupK (K := G.K) rfl) (pv 4) (pe_gc rfl T.c_CLOCK) (fun _ _ => rfl)) (pa_cons (pe_ix (ix_tupK (K := G.K) rfl) (pv 4) (pe_gc rfl T.c_TIME) (fun _ _ => rfl)) pa_nil))))) pa_nil)) pa_nil))))), ?_⟩
  obtain ⟨v, fs, d, e, rfl, hl, hd, k⟩ := h
  obtain ⟨a, xs, rfl, hs, hx⟩ := dp_list_inv hd
  have hlen : xs.length = fs.length := by rw [dpAll_len hx, List.length_map]
  refine ⟨_, rfl, a, rfl, ⟨_, hs⟩, fun D hD => lc_data (isLookOf d e) factD hD hs hlen (big_lt (by omega)) (fun f _ _ => lfree_fact f) (fun j x f H' Kf Kt hxj hfj s kf kt => ⟨rfl, ?_⟩) fun H1 ys s1 hD1 hdp1 => ?_⟩
  · have hf := Same.dp s (facts_at hx hxj hfj)
    obtain ⟨b, rfl, hS⟩ := dp_tupI hf
    cases hb : f.body with
    | scan z =>
      rw [factI_scan hb] at hS
      exact ⟨_, rfl, _, _, _, _, rfl, rfl, hS, rfl, rfl, _, rfl, iteF (kf _ (fun _ _ h => h) (isLookOf_scan hb))⟩
    | sync t =>
      have ee := isLookOf_sync (d := d) (e := e) hb
      rw [factI_sync hb] at hS
      refine ⟨_, rfl, _, _, _, _, rfl, rfl, hS, rfl, rfl, _, rfl, iteT ⟨_, rfl, _, _, _, _, rfl, rfl, hS, rfl, _, rfl, rfl, _, rfl, ?_⟩⟩
      rw [decN]
      refine iteB (fun c1 => ⟨_, rfl, _, _, _, _, rfl, rfl, hS, rfl, _, rfl, rfl, _, rfl, ?_⟩) fun c1 => kf _ (fun _ _ h => h) (by rw [ee, c1]; rfl)
      rw [decN]
      refine iteB (fun c2 => ⟨_, rfl, kt _ _ (fun _ _ h => h) (by rw [ee, c1, c2]; rfl) hf⟩) fun c2 => kf _ (fun _ _ h => h) (by rw [ee, c1, c2]; rfl)
  · have hlen1 : ys.length = (fs.filter (isLookOf d e)).length := by rw [dpAll_len hdp1, List.length_map]
    have hle : (fs.filter (isLookOf d e)).length ≤ fs.length := List.length_filter_le ..
    refine ⟨_, rfl, D, rfl, ⟨_, .inl (.inl hD1)⟩, fun D2 hD2 => lc_data (fun _ => true) (fun f => pairD (lookPair f)) hD2 (.inl (.inl hD1)) hlen1 (big_lt (by omega)) (fun f _ _ => lfree_pair _) (fun j x f H' Kf Kt hxj hfj s kf kt => ⟨rfl, ?_⟩) fun H2 zs s2 hD2' hdp2 => ?_⟩
    · have hf := Same.dp s (facts_at hdp1 hxj hfj)
      obtain ⟨b, rfl, hS⟩ := dp_tupI hf
      obtain ⟨t, hb⟩ := look_sync (List.mem_filter.mp (List.mem_of_getElem? hfj)).2
      rw [factI_sync hb] at hS
      refine iteT (B := Kf H') ⟨_, rfl, _, _, _, _, rfl, rfl, hS, rfl, _, rfl, _, _, _, _, rfl, rfl, hS, rfl, (big_le (by simp)), fun p hp => kt _ _ (same_new hp) rfl ?_⟩
      rw [lookPair_sync hb]
      exact tupI_dp (ns := [(f.clock : Int), (t : Int)]) (.inl (.inl upd_same))
    · rw [filter_true'] at hdp2
      obtain ⟨ks, rfl, hk2, hk3⟩ := tup_addrs hdp2
      have hkl : ks.length ≤ 100 := by
        have := congrArg List.length hk2
        rw [List.length_map, List.length_map] at this
        omega
      refine ⟨D2, ks, rfl, .inl (.inl hD2'), hk3, hkl, fun A L hA hL1 hL2 => ⟨A, L, rfl, upd_same, fun p hp => sq_same (same_new hA) (hk3 p (hL1 p hp)), fun p hp => ?_, fun M p hM nd pw hp => ?_⟩⟩
      · have : p.2 ∈ ks.map (·.2) := List.mem_map.mpr ⟨p, hL1 p hp, rfl⟩
        rw [hk2] at this
        obtain ⟨f, _, e⟩ := List.mem_map.mp this
        rw [← e]
        intro z
        cases z
      · have hM1 : ∀ q ∈ M, q ∈ ks := fun q hq => hL1 q (hM.mem_iff.mp hq)
        obtain ⟨R, hR⟩ := pairs_of (R := M.map (·.2)) fun r hr => by
          obtain ⟨q, hq, rfl⟩ := List.mem_map.mp hr
          have : q.2 ∈ ks.map (·.2) := List.mem_map.mpr ⟨q, hM1 q hq, rfl⟩
          rw [hk2] at this
          obtain ⟨f, _, e⟩ := List.mem_map.mp this
          exact ⟨lookPair f, e.symm⟩
        have hst : R.Pairwise ltP := pairs_strict (by rw [← hR]; exact nd) (by rw [← hR, List.pairwise_map]; exact pw)
        have hmem : ∀ q, q ∈ R ↔ q ∈ (fs.filter (isLookOf d e)).map lookPair := fun q => by
          have e1 : q ∈ R ↔ pairI q ∈ M.map (·.2) := by
            rw [hR, List.mem_map]
            exact ⟨fun h => ⟨q, h, rfl⟩, fun ⟨r, h1, h2⟩ => pairI_inj h2 ▸ h1⟩
          have e2 : q ∈ (fs.filter (isLookOf d e)).map lookPair ↔ pairI q ∈ ks.map (·.2) := by
            rw [hk2, List.mem_map, List.mem_map]
            exact ⟨fun ⟨f, h1, h2⟩ => ⟨f, h1, by rw [h2]⟩, fun ⟨f, h1, h2⟩ => ⟨f, h1, pairI_inj h2⟩⟩
          rw [e1, e2]
          constructor
          · intro h
            obtain ⟨r, h1, h2⟩ := List.mem_map.mp h
            exact List.mem_map.mpr ⟨r, hM1 r h1, h2⟩
          · intro h
            obtain ⟨r, h1, h2⟩ := List.mem_map.mp h
            obtain ⟨r', h3, h4⟩ := List.mem_map.mp (hL2 r h1)
            exact List.mem_map.mpr ⟨r', hM.mem_iff.mpr h3, h4.trans h2⟩
        have heq := syncs_eq hst hmem
        have st := same_new (o := SetPO P w A L) hA
        refine k _ _ (s1.trans (s2.trans (st.trans (same_new hp)))) ?_
        refine .lst (.inl (.inl upd_same)) ?_
        have := tups_dp (K := G.K) (H := upd (upd H2 A (SetPO P w A L)) p (.lst (M.map fun q => V.ref q.1))) (M := M) fun q hq => sq_same (same_new hp) (sq_same st (hk3 q (hM1 q hq)))
        rw [hR, heq, List.map_map] at this
        exact this
def sp_items_of (G : Gx) : Sp := fun vs H Q _ => ∃ (v : V) (fs : List Fact), vs = [v] ∧ fs.length ≤ 1000 ∧ (∀ f ∈ fs, Vbpoag.inRange f = true) ∧ Dp G.K H v (factsD fs) ∧ ∀ l H', Same H H' → H' l = some (.lst ((itemsOf fs).map fun (n : Nat) => V.int (n : Int))) → H l = none → Q (.ref l) H'
theorem cal_items_of {P : Program} {w : World} {mg : Str → Option Value} {base : Heap} {G : Gx} (T : Txt G mg) (h : Has G mg "items_of" s_items_of) : CalN P w G.K mg base 1 "items_of" (sp_items_of G) := by
  obtain ⟨f, fd, F, hm⟩ := h
  have nd := sc_items_of.nd
  refine ⟨f, fd, ["facts"], ?_, hm, F.kp, F.bindsN fun _ _ _ _ _ _ us hl => match us, hl with | [_], _ => rfl⟩
  refine F.ok sc_items_of (fun vs H Q E h => by obtain ⟨v, fs, rfl, _⟩ := h; rfl) fun cdv A outer s H vs Q E hr h => ?_
  refine ⟨_, PSs.nox (pss_one (ps_ret (pe_callB (cr_srtN rfl hr) (by rfl) T.b_sorted (by decide +kernel) (pa_cons (pe_callTy (cr_setN rfl hr) (by rfl) T.b_set (by decide +kernel) (pa_cons (pe_lc (own := [("fact", 1)]) rfl nd (pi_list (pv 0)) (blkOk_by (own := [("fact", 1)]) (N := N_items_of) (sc := defScope s_items_of) (by decide +kernel)) (fun _ _ _ _ _ => (pg_name (i := 1) nd rfl (Or.inl rfl))) (fun _ _ _ _ _ => pts_one (pt_cmpR op_eq (pe_ix (ix_tupK (K := G.K) rfl) (pv 1) pe_int (fun _ _ => rfl)) (pe_gc rfl T.c_SCAN) (nomark _))) (fun _ _ _ _ _ => (pe_ix (ix_tupK (K := G.K) rfl) (pv 1) (pe_gc rfl T.c_ITEM) (fun _ _ => rfl)))) pa_nil)) pa_nil)))), ?_⟩
  obtain ⟨v, fs, rfl, hl, hr0, hd, k⟩ := h
  obtain ⟨a, xs, rfl, hs, hx⟩ := dp_list_inv hd
  have hlen : xs.length = fs.length := by rw [dpAll_len hx, List.length_map]
  refine ⟨_, rfl, a, rfl, ⟨_, hs⟩, fun D hD => lc_data isScan (fun f => .int (itemOf f : Int)) hD hs hlen (big_lt (by omega)) (fun f _ _ => rfl) (fun j x f H' Kf Kt hxj hfj s kf kt => ⟨rfl, ?_⟩) fun H1 ys s1 hD1 hdp1 => ?_⟩
  · have hf := Same.dp s (facts_at hx hxj hfj)
    obtain ⟨b, rfl, hS⟩ := dp_tupI hf
    cases hb : f.body with
    | scan z =>
      rw [factI_scan hb] at hS
      refine ⟨_, rfl, _, _, _, _, rfl, rfl, hS, rfl, rfl, _, rfl, iteT ⟨_, rfl, _, _, _, _, rfl, rfl, hS, rfl, kt _ _ (fun _ _ h => h) (isScan_scan hb) ?_⟩⟩
      rw [itemOf_scan hb]
      exact .int _
    | sync t =>
      rw [factI_sync hb] at hS
      exact ⟨_, rfl, _, _, _, _, rfl, rfl, hS, rfl, rfl, _, rfl, iteF (kf _ (fun _ _ h => h) (isScan_sync hb))⟩
  · have e1 : (fs.filter isScan).map (fun f => PyData.int (itemOf f : Int)) = (((fs.filter isScan).map itemOf).map fun (n : Nat) => (n : Int)).map PyData.int := by rw [List.map_map, List.map_map]; rfl
    rw [e1] at hdp1
    have e2 := dpAll_ints_inv hdp1
    subst e2
    have hle : (fs.filter isScan).length ≤ fs.length := List.length_filter_le ..
    refine ⟨D, _, rfl, .inl (.inl hD1), (by rw [List.length_map, List.length_map]; omega), fun A n hA hn => ⟨A, _, n, rfl, upd_same, (by rw [List.length_map, List.length_map] at hn; omega), fun ms p pw hm hp => ?_⟩⟩
    obtain ⟨L, rfl, hL1, hL2⟩ := ints_rising pw fun k => (hm k).trans decide_eq_true_iff
    have heq := items_eq (fun f hf => item_range (hr0 f hf)) hL1 hL2
    subst heq
    have em : (itemsOf fs).map (fun (n : Nat) => V.int (n : Int)) = ((itemsOf fs).map fun (n : Nat) => (n : Int)).map V.int := by rw [List.map_map]; rfl
    have s3 := s1.trans (same_new (o := SetO w A (fun j => decide (j ∈ ((fs.filter isScan).map itemOf).map fun (n : Nat) => (n : Int))) n) hA)
    exact k p _ (s3.trans (same_new hp)) (by rw [em]; exact upd_same) (same_none s3 hp)
def sp_put_right (G : Gx) : Sp := fun vs H Q _ => ∃ (v : V) (L : List (Nat × Nat)) (c : Nat), vs = [v, .int c] ∧ Dp G.K H v (pairsD L) ∧ L.Pairwise ltP ∧ L.length ≤ 1000 ∧ (∀ p ∈ L, p.1 ≤ 99999 ∧ p.2 ≤ 99999) ∧ c ≤ 99999 ∧ ∀ H', Same H H' → Q (.int (along L c)) H'
theorem pair_at {K : PySem.W.Frag} {H : Hp} {xs : List V} {L : List (Nat × Nat)} {j : Nat} {p : Nat × Nat} (hx : DpAll K H xs (L.map pairD)) (h : L[j]? = some p) : ∃ a, xs[j]? = some (.ref a) ∧ SqT K H a [.int (p.1 : Int), .int (p.2 : Int)] := by
  obtain ⟨v, h1, h2⟩ := dpAll_get hx (show (L.map pairD)[j]? = some (pairD p) by rw [List.getElem?_map, h]; rfl)
  obtain ⟨a, rfl, hs⟩ := dp_tupI h2
  exact ⟨a, h1, hs⟩
theorem filter_first {n k : Nat} {q : Nat → Bool} (hk : k < n) (h1 : ∀ j, j < k → q j = false) (h2 : q k = true) : ((List.range n).filter q)[0]? = some k := by
  have e : List.range n = List.range k ++ (List.range' k (n - k)) := by
    rw [List.range_eq_range', List.range_eq_range', show n = k + (n - k) by omega, ← List.range'_append_1]
    simp
  obtain ⟨m, hm⟩ : ∃ m, n - k = m + 1 := ⟨n - k - 1, by omega⟩
  rw [e, List.filter_append, List.filter_eq_nil_iff.mpr (fun j hj => by rw [h1 j (List.mem_range.mp hj)]; decide), hm, List.range'_succ, List.nil_append, List.filter_cons, if_pos h2]
  rfl
theorem cal_put_right {P : Program} {w : World} {mg : Str → Option Value} {base : Heap} {G : Gx} (T : Txt G mg) (h : Has G mg "put_right" s_put_right) : CalN P w G.K mg base 1 "put_right" (sp_put_right G) := by
  obtain ⟨f, fd, F, hm⟩ := h
  have nd := sc_put_right.nd
  refine ⟨f, fd, ["looks", "clock"], ?_, hm, F.kp, F.bindsN fun _ _ _ _ _ _ us hl => match us, hl with | [_, _], _ => rfl⟩
  refine F.ok sc_put_right (fun vs H Q E h => by obtain ⟨v, L, c, rfl, _⟩ := h; rfl) fun cdv A outer s H vs Q E hr h => ?_
  refine ⟨_, PSs.nox (pss_cons (ps_if (pt_cmpR (op_eqD hr.units) (pv 0) (pe_lst pa_nil) (nomark _)) (pss_one (ps_ret (pv 1))) pss_nil)
      (pss_cons (ps_if (pt_cmpR op_lt (pv 1) (pe_ix ix_tup (pe_ix ix_list (pv 0) pe_int (fun _ _ => rfl)) pe_int (fun _ _ => rfl)) (nomark _)) (pss_one (ps_ret (pe_op op_sub (pe_op op_add (pv 1) (pe_ix ix_tup (pe_ix ix_list (pv 0) pe_int (fun _ _ => rfl)) pe_int (fun _ _ => rfl))) (pe_ix ix_tup (pe_ix ix_list (pv 0) pe_int (fun _ _ => rfl)) pe_int (fun _ _ => rfl))))) pss_nil)
      (pss_cons (ps_if (pt_cmpR op_ge (pv 1) (pe_ix ix_tup (pe_ix ix_list (pv 0) (pe_un un_neg pe_int) (fun _ _ => rfl)) pe_int (fun _ _ => rfl)) (nomark _)) (pss_one (ps_ret (pe_op op_sub (pe_op op_add (pv 1) (pe_ix ix_tup (pe_ix ix_list (pv 0) (pe_un un_neg pe_int) (fun _ _ => rfl)) pe_int (fun _ _ => rfl))) (pe_ix ix_tup (pe_ix ix_list (pv 0) (pe_un un_neg pe_int) (fun _ _ => rfl)) pe_int (fun _ _ => rfl))))) pss_nil)
      (pss_cons (ps_set (i := 2) nd rfl (Or.inl rfl) (pe_ix ix_list (pe_lc (own := [("k", 7), ("look", 8)]) rfl nd (pi_enum (by rfl) T.b_enumerate (pa_cons (pv 0) pa_nil)) (blkOk_by (own := [("k", 7), ("look", 8)]) (N := N_put_right) (sc := defScope s_put_right) (by decide +kernel)) (fun _ _ _ _ _ => (pg_tupK (K := G.K) (n := 2) rfl rfl (pgs_cons (pg_name (i := 7) nd rfl (Or.inl rfl)) (pgs_cons (pg_name (i := 8) nd rfl (Or.inl rfl)) pgs_nil)))) (fun _ _ _ _ _ => pts_one (pt_cmpR op_gt (pe_ix (ix_tupK (K := G.K) rfl) (pv 8) pe_int (fun _ _ => rfl)) (pv 1) (nomark _))) (fun _ _ _ _ _ => (pv 7))) pe_int (fun _ _ => rfl)))
      (pss_cons (ps_asg (pe_ix ix_list (pv 0) (pe_op op_sub (pv 2) pe_int) (fun _ _ => rfl)) (pg_tup rfl (pgs_cons (pg_name (i := 3) nd rfl (Or.inl rfl)) (pgs_cons (pg_name (i := 4) nd rfl (Or.inl rfl)) pgs_nil))))
      (pss_cons (ps_asg (pe_ix ix_list (pv 0) (pv 2) (fun _ _ => rfl)) (pg_tup rfl (pgs_cons (pg_name (i := 5) nd rfl (Or.inl rfl)) (pgs_cons (pg_name (i := 6) nd rfl (Or.inl rfl)) pgs_nil))))
      (pss_one (ps_ret (pe_op op_add (pv 4) (pe_op op_fdivN (pe_op op_mul (pe_op op_sub (pv 1) (pv 3)) (pe_op op_sub (pv 6) (pv 4))) (pe_op op_sub (pv 5) (pv 3)))))))))))), ?_⟩
  obtain ⟨v, L, c, rfl, hd, hst, hl, hb, hc, k⟩ := h
  refine ⟨_, rfl, big_le (by simp), fun p hp => ⟨_, _, Same.dp (same_new hp) hd, .lst (.inl (.inl upd_same)) .nil, sh_pairs L, sh_nil, _, rfl, ?_⟩⟩
  rw [eqv_pairs_nil]
  cases hL : L with
  | nil => exact iteT ⟨_, rfl, by have := k _ (same_new (o := .lst []) hp); rw [hL] at this; exact this⟩
  | cons a0 r =>
    rw [← hL]
    refine iteB (fun z => by rw [hL] at z; cases z) fun _ => ?_
    have hd1 := Same.dp (same_new (o := .lst []) hp) hd
    have s1 : Same H (upd H p (.lst [])) := same_new hp
    generalize upd H p (.lst []) = H1 at hd1 s1
    obtain ⟨la, xs, rfl, hs, hx⟩ := dp_list_inv hd1
    have hlen : xs.length = L.length := by rw [dpAll_len hx, List.length_map]
    have h0 : L[0]? = some a0 := by rw [hL]; rfl
    obtain ⟨z, hz⟩ : ∃ z, L[L.length - 1]? = some z := by
      have : L.length - 1 < L.length := by rw [hL]; simp
      exact ⟨_, List.getElem?_eq_getElem this⟩
    obtain ⟨b0, hb0, hS0⟩ := pair_at hx h0
    obtain ⟨bz, hbz, hSz⟩ := pair_at hx hz
    have hb0' : atI xs 0 = some (.ref b0) := at_nat hb0 rfl
    have hbz' : atI xs (-1) = some (.ref bz) := at_neg1 (by rw [hlen]; exact hbz)
    refine ⟨_, rfl, _, rfl, _, _, _, _, rfl, rfl, hs, hb0', _, _, _, _, rfl, rfl, hS0, rfl, _, _, rfl, rfl, _, rfl, iteB (fun c1 => ?_) fun c1 => ?_⟩
    · have c1 : c < a0.1 := by have := of_decide_eq_true c1; omega
      refine ⟨_, rfl, _, rfl, _, _, _, _, rfl, rfl, hs, hb0', _, _, _, _, rfl, rfl, hS0, rfl, _, _, rfl, rfl, _, rfl, _, _, _, _, rfl, rfl, hs, hb0', _, _, _, _, rfl, rfl, hS0, rfl, _, _, rfl, rfl, ?_⟩
      have e : (c : Int) + (a0.2 : Int) - (a0.1 : Int) = along L c := by rw [along_first h0 c1]; omega
      have := k _ s1
      rw [← e] at this
      exact this
    have c1 : a0.1 ≤ c := by have := of_decide_eq_false c1; omega
    refine ⟨_, rfl, _, rfl, _, rfl, _, _, _, _, rfl, rfl, hs, hbz', _, _, _, _, rfl, rfl, hSz, rfl, _, _, rfl, rfl, _, rfl, iteB (fun c2 => ?_) fun c2 => ?_⟩
    · have c2 : z.1 ≤ c := by have := of_decide_eq_true c2; omega
      refine ⟨_, rfl, _, rfl, _, rfl, _, _, _, _, rfl, rfl, hs, hbz', _, _, _, _, rfl, rfl, hSz, rfl, _, _, rfl, rfl, _, rfl, _, rfl, _, _, _, _, rfl, rfl, hs, hbz', _, _, _, _, rfl, rfl, hSz, rfl, _, _, rfl, rfl, ?_⟩
      have e : (c : Int) + (z.2 : Int) - (z.1 : Int) = along L c := by
        rw [along_last hz fun q hq => Nat.le_trans (sorted_le_last hst hz q hq) c2]; omega
      have := k _ s1
      rw [← e] at this
      exact this
    have c2 : c < z.1 := by have := of_decide_eq_false c2; omega
    obtain ⟨n, x, y, hx1, hy1, hxc, hyc, hlow⟩ := first_above h0 c1 hz c2
    have hn : n + 1 < L.length := (List.getElem?_eq_some_iff.mp hy1).1
    refine ⟨_, rfl, la, xs, rfl, hs, fun D hD => lc_walk (K := G.K) walk_enum (bs := List.range L.length) (fun i => decide (c < (L.getD i (0, 0)).1)) (fun i => .int (i : Int)) hD (by rw [hlen, List.length_range]) (big_lt (by rw [List.length_range]; omega)) (fun H' s => s.seq hs) (fun i H x H' _ hy => ?_) (fun i _ _ => rfl) (fun j v i H2 H3 Kf Kt hij s2 hy kf kt => ?_) fun H4 ys s4 hD4 hdp => ?_⟩
    · obtain ⟨t, _, _, _, ht, rfl, _⟩ := hy
      exact same_new ht
    · obtain ⟨t, iv, pv, rfl, ht, rfl, e1, e2⟩ := hy
      cases e1
      have hj : j < L.length := by
        have := (List.getElem?_eq_some_iff.mp hij).1
        rwa [List.length_range] at this
      have hji : i = j := by
        rw [List.getElem?_range hj] at hij
        exact (Option.some.inj hij).symm
      subst hji
      have hLi : L[i]? = some L[i] := List.getElem?_eq_getElem hj
      obtain ⟨b, hb1, hSb⟩ := pair_at hx hLi
      have e2 : xs[i]? = some pv := e2
      rw [hb1] at e2
      cases e2
      have hSb : SqT G.K (upd H2 t (.tup [.int ((i : Nat) : Int), .ref b])) b _ := sq_same (s2.trans (same_new ht)) hSb
      refine ⟨t, _, rfl, .inl (.inl upd_same), rfl, _, _, rfl, _, _, rfl, rfl, rfl, _, rfl, _, _, _, _, rfl, rfl, hSb, rfl, _, rfl, _, _, rfl, rfl, _, rfl, ?_⟩
      have eg : L.getD i (0, 0) = L[i] := by rw [List.getD_eq_getElem?_getD, hLi]; rfl
      exact iteB (fun c3 => ⟨_, rfl, kt _ _ (fun _ _ h => h) (decide_eq_true (by rw [eg]; have := of_decide_eq_true c3; omega)) (.int _)⟩) fun c3 => kf _ (fun _ _ h => h) (decide_eq_false (by rw [eg]; have := of_decide_eq_false c3; omega))
    · have hys : ys[0]? = some (V.int ((n + 1 : Nat) : Int)) := by
        have hf := filter_first (q := fun i => decide (c < (L.getD i (0, 0)).1)) hn (fun j hj => by
          have hjl : j < L.length := by omega
          have := hlow j L[j] hj (List.getElem?_eq_getElem hjl)
          refine decide_eq_false ?_
          rw [List.getD_eq_getElem?_getD, List.getElem?_eq_getElem hjl]
          show ¬ c < L[j].1
          omega) (by
          refine decide_eq_true ?_
          rw [List.getD_eq_getElem?_getD, hy1]
          exact hyc)
        obtain ⟨v, h1, h2⟩ := dpAll_get hdp (show _[0]? = some (PyData.int ((n + 1 : Nat) : Int)) by rw [List.getElem?_map, hf]; rfl)
        cases h2
        exact h1
      have hs4 := s4.seq hs
      obtain ⟨bx, hbx, hSx⟩ := pair_at hx hx1
      obtain ⟨by', hby, hSy⟩ := pair_at hx hy1
      have hSx := sq_same s4 hSx
      have hSy := sq_same s4 hSy
      have bx1 := hb x (List.mem_of_getElem? hx1)
      have by1 := hb y (List.mem_of_getElem? hy1)
      refine ⟨_, _, _, _, rfl, rfl, .inl (.inl hD4), at_nat hys rfl, ?_⟩
      refine ⟨_, rfl, _, rfl, _, _, rfl, rfl, _, _, _, _, rfl, rfl, hs4, at_nat (j := n) hbx (by omega), _, _, rfl, hSx, rfl, _, _, rfl, _, _, rfl, rfl, ?_⟩
      refine ⟨_, rfl, _, rfl, _, _, _, _, rfl, rfl, hs4, at_nat (j := n + 1) hby rfl, _, _, rfl, hSy, rfl, _, _, rfl, _, _, rfl, rfl, ?_⟩
      refine ⟨_, rfl, _, rfl, _, rfl, _, _, rfl, rfl, _, rfl, _, rfl, _, _, rfl, rfl, _, _, rfl, rfl, .inl ⟨?_, ?_⟩, _, rfl, _, rfl, _, _, rfl, rfl, _, _, rfl, rfl, ⟨?_, ?_⟩, _, _, rfl, rfl, ?_⟩
      · show -(2 ^ 64) < (c : Int) - (x.1 : Int); omega
      · show (c : Int) - (x.1 : Int) < 2 ^ 64; omega
      · show (y.1 : Int) - (x.1 : Int) ≠ 0; omega
      · show ((y.1 : Int) - (x.1 : Int)).natAbs < 1073741824; omega
      · have e : (x.2 : Int) + (((c : Int) - (x.1 : Int)) * ((y.2 : Int) - (x.2 : Int))).fdiv ((y.1 : Int) - (x.1 : Int)) = along L c := by
          rw [along_mid hlow hx1 hy1 hyc]; rfl
        have := k _ (s1.trans s4)
        rw [← e] at this
        exact this
def sp_time_of (G : Gx) : Sp := fun vs H Q _ => ∃ (v : V) (fs : List Fact) (d e c : Nat), vs = [v, .int d, .int e, .int c] ∧ fs.length ≤ 100 ∧ (∀ f ∈ fs, Vbpoag.inRange f = true) ∧ c ≤ 99999 ∧ Dp G.K H v (factsD fs) ∧ ∀ H', Same H H' → Q (.int (rightTime fs d e c)) H'
theorem cal_time_of {P : Program} {w : World} {mg : Str → Option Value} {base : Heap} {G : Gx} (T : Txt G mg) (h : Has G mg "time_of" s_time_of) (c_put_right : CalN P w G.K mg base 1 "put_right" (sp_put_right G)) (c_looks_of : CalN P w G.K mg base 1 "looks_of" (sp_looks_of G)) : CalN P w G.K mg base 2 "time_of" (sp_time_of G) := by
  obtain ⟨f, fd, F, hm⟩ := h
  have nd := sc_time_of.nd
  refine ⟨f, fd, ["facts", "device", "setting", "clock"], ?_, hm, F.kp, F.bindsN fun _ _ _ _ _ _ us hl => match us, hl with | [_, _, _, _], _ => rfl⟩
  refine F.ok sc_time_of (fun vs H Q E h => by obtain ⟨v, fs, d, e, c, rfl, _⟩ := h; rfl) fun cdv A outer s H vs Q E hr h => ?_
  refine ⟨_, PSs.nox (pss_one (ps_ret (pe_cn c_put_right hr (by decide) rfl (pa_cons (pe_cn c_looks_of hr (by decide) rfl (pa_cons (pv 0) (pa_cons (pv 1) (pa_cons (pv 2) pa_nil)))) (pa_cons (pv 3) pa_nil))))), ?_⟩
  obtain ⟨v, fs, d, e, c, rfl, hl, hr0, hc, hd, k⟩ := h
  have hb := sync_bounds (B := 99999) (fun f hf => clock_range (hr0 f hf)) (d := d) (e := e)
  refine ⟨_, rfl, _, rfl, _, rfl, v, fs, d, e, rfl, hl, hd, fun u H1 s1 hu => ⟨_, rfl, u, syncsOf fs d e, c, rfl, hu, syncs_sorted fs d e, (by have := syncs_len fs d e; omega), hb, hc, fun H2 s2 => k _ (s1.trans s2)⟩⟩
def sp_clashes_of (G : Gx) : Sp := fun vs H Q _ => ∃ (v : V) (fs : List Fact), vs = [v] ∧ fs.length ≤ 1000 ∧ fs.Nodup ∧ Dp G.K H v (factsD fs) ∧ post H Q fun u H' => Dp G.K H' u (pairsD (clashesIn fs))
theorem fact_dn {K : PySem.W.Frag} {H : Hp} {v : V} {f : Fact} (h : Dp K H v (factD f)) : ∃ a xs, v = .ref a ∧ SqT K H a (.int (factI f)[0]! :: .int (f.device : Int) :: .int (f.number : Int) :: xs) := by
  obtain ⟨a, rfl, hS⟩ := dp_tupI h
  cases hb : f.body with
  | scan x => rw [factI_scan hb] at hS; exact ⟨a, _, rfl, by rw [factI_scan hb]; exact hS⟩
  | sync t => rw [factI_sync hb] at hS; exact ⟨a, _, rfl, by rw [factI_sync hb]; exact hS⟩
theorem cal_clashes_of {P : Program} {w : World} {mg : Str → Option Value} {base : Heap} {G : Gx} (T : Txt G mg) (h : Has G mg "clashes_of" s_clashes_of) : CalN P w G.K mg base 1 "clashes_of" (sp_clashes_of G) := by
  obtain ⟨f, fd, F, hm⟩ := h
  have nd := sc_clashes_of.nd
  refine ⟨f, fd, ["facts"], ?_, hm, F.kp, F.bindsN fun _ _ _ _ _ _ us hl => match us, hl with | [_], _ => rfl⟩
  refine F.ok sc_clashes_of (fun vs H Q E h => by obtain ⟨v, fs, rfl, _⟩ := h; rfl) fun cdv A outer s H vs Q E hr h => ?_
  refine ⟨_, PSs.nox (pss_cons (ps_set (i := 1) nd rfl (Or.inr rfl) pe_dnewT)
      (pss_cons (ps_for PassesOwn.never rfl (pi_list (pv 0)) (pg_name (i := 2) nd rfl (Or.inl rfl))
      (pss_cons (ps_set (i := 3) nd rfl (Or.inl rfl) (pe_tup (pa_cons (pe_ix ix_tup (pv 2) (pe_gc rfl T.c_DEVICE) (fun _ _ => rfl)) (pa_cons (pe_ix ix_tup (pv 2) (pe_gc rfl T.c_NUMBER) (fun _ _ => rfl)) pa_nil))))
      (pss_one (ps_dput (hu_of hr) (pv 1) (pv 3) (pe_op op_add (pe_dget2 (hu_of hr) (pv 1) (pv 3) pe_int ⟨by rfl, by rfl, by rfl, by rfl⟩) pe_int) rfl))))
      (pss_one (ps_ret (pe_callB (cr_srt hr) (by rfl) T.b_sorted (by decide +kernel) (pa_cons (pe_lock (pe_lc (own := [("pair", 3)]) rfl nd (pi_keys (pv 1)) (blkOk_by (own := [("pair", 3)]) (N := N_clashes_of) (sc := defScope s_clashes_of) (by decide +kernel)) (fun _ _ _ _ _ => (pg_name (i := 3) nd rfl (Or.inl rfl))) (fun _ _ _ _ _ => pts_one (pt_cmpR op_gt (pe_dget (hu_of hr) (pv 1) (pv 3) (fun _ _ => rfl)) pe_int (nomark _))) (fun _ _ _ _ _ => (pv 3)))) pa_nil)))))), ?_⟩
  obtain ⟨v, fs, rfl, hl, nodup, hd, k⟩ := h
  obtain ⟨a, xs, rfl, hs, hx⟩ := dp_list_inv hd
  have hlen : xs.length = fs.length := by rw [dpAll_len hx, List.length_map]
  refine fun d hd0 => ⟨_, rfl, a, rfl, ⟨_, Same.seq (same_new hd0) hs⟩, for_list (xs := xs) (fun i σ H1 => ∃ u3 u2, σ = [some (.ref a), some (.ref d), u2, u3] ∧ Same H H1 ∧ H1 d = some (.dT (cnt (fs.take i)))) ⟨none, none, rfl, same_new hd0, upd_same⟩ (fun i σ H1 _ h => by obtain ⟨_, _, _, s, _⟩ := h; exact s.seq hs) (fun i x σ H1 hxi h => ?_) fun σ H1 h => ?_⟩
  · obtain ⟨u3, u2, rfl, s1, hd1⟩ := h
    have hi : i < fs.length := by rw [← hlen]; exact (List.getElem?_eq_some_iff.mp hxi).1
    have hfi : fs[i]? = some fs[i] := List.getElem?_eq_getElem hi
    obtain ⟨b, ws, rfl, hS⟩ := fact_dn (Same.dp s1 (facts_at hx hxi hfi))
    refine ⟨_, rfl, _, _, _, _, rfl, rfl, hS, at_nat (j := 1) rfl rfl, _, rfl, _, _, _, _, rfl, rfl, hS, at_nat (j := 2) rfl rfl, big_le (by simp), fun p hp => ?_⟩
    have hd2 : upd H1 p (.tup [V.int (fs[i].device : Int), V.int (fs[i].number : Int)]) d = some (.dT (cnt (fs.take i))) := same_new hp _ _ hd1
    have hk2 : upd H1 p (.tup [V.int (fs[i].device : Int), V.int (fs[i].number : Int)]) p = some (.tup ((keyP (dn fs[i])).map kV)) := upd_same
    refine ⟨_, rfl, _, rfl, .inr ⟨_, .inl hd2⟩, _, rfl, _, .inr ⟨_, _, p, .inl hd2, rfl, hk2, rfl⟩, _, _, cnt_getD _ _, rfl, _, rfl, _, rfl, _, _, rfl, .inr ⟨_, _, p, hd2, rfl, hk2, ?_, rfl⟩, _, _, rfl, same_upd (s1.trans (same_new hp)) hd0, ?_⟩
    · exact big_lt (by have := cnt_len (fs.take i); rw [List.length_take] at this; omega)
    · rw [take_next' hfi, ← cnt_put]; exact upd_same
  · obtain ⟨u3, u2, rfl, s1, hd1⟩ := h
    rw [hlen, List.take_length] at hd1
    refine ⟨d, _, hd1, True.intro, fun od => ⟨_, rfl, d, od, rfl, .inr ⟨_, upd_same, fun D hD => lc_walk (K := G.K) walk_keysT (bs := firsts fs) (fun p => decide (1 < tally fs p)) pairD hD (by unfold cnt; rw [List.length_map]) (big_lt (by have := firsts_len fs; omega)) (fun H' s => s _ _ upd_same) (fun i H x H' _ hy => by rw [hy.1]; exact same_refl _) (fun p _ _ => lfree_pair p) (fun j x p H2 H3 Kf Kt hpj s2 hy kf kt => ⟨rfl, ?_⟩) fun H4 ys s4 hD4 hdp => ?_⟩⟩⟩
    · obtain ⟨rfl, kk, vv, q, hkv, rfl, hq⟩ := hy
      have : (cnt fs)[j]? = some (keyP p, V.int (tally fs p : Int)) := by unfold cnt; rw [List.getElem?_map, hpj]; rfl
      rw [this] at hkv
      cases hkv
      have hmem : p ∈ firsts fs := List.mem_of_getElem? hpj
      refine ⟨_, rfl, _, rfl, d, _, rfl, .inr ⟨_, _, q, .inr ⟨od, s2 _ _ upd_same⟩, rfl, hq, by rw [cnt_val, if_pos hmem]⟩, _, _, rfl, rfl, _, rfl, ?_⟩
      exact iteB (fun c => ⟨_, rfl, kt _ _ (fun _ _ h => h) (decide_eq_true (by have := of_decide_eq_true c; omega)) (tupI_dp (ns := pairI p) (.inl (.inl hq)))⟩) fun c => kf _ (fun _ _ h => h) (decide_eq_false (by have := of_decide_eq_false c; omega))
    · have hd4 := s4 _ _ upd_same
      have hne : D ≠ d := fun e => by rw [e, upd_same] at hD; cases hD
      have s5 : Same H (upd H4 d (.dT (cnt fs))) := fun b u hb => by
        have hbd : b ≠ d := fun e => by rw [e, hd0] at hb; cases hb
        rw [upd_ne hbd]
        exact s4 _ _ (by rw [upd_ne hbd]; exact s1 _ _ hb)
      have hdp5 := dpAll_updN (o := .dT (cnt fs)) hd4 (noT_frzT _ _) _ _ (lfreeAll_of fun e he => by obtain ⟨p, _, rfl⟩ := List.mem_map.mp he; exact lfree_pair p) hdp
      refine ⟨hd4, srt_tups (L := (firsts fs).filter fun p => decide (1 < tally fs p)) (g := pairI) (.inl (.inl (by rw [upd_ne hne]; exact hD4))) hdp5 (fun b h => by cases h) fun R p zs hR pw hn hz => k _ _ (s5.trans (same_new hn)) ?_⟩
      have hst : R.Pairwise ltP := pairs_strictL (hR.nodup_iff.mpr ((firsts_nodup fs).sublist List.filter_sublist)) pw
      have heq := clash_eq nodup hst fun p => by
        rw [hR.mem_iff, List.mem_filter, decide_eq_true_iff]
        exact ⟨fun h => h.2, fun h => ⟨(mem_firsts fs p).mpr (by omega), h⟩⟩
      rw [← heq]
      exact .lst (.inl (.inl upd_same)) (Same.dpAll (same_new hn) hz)
end Sc
namespace Sc
open PySem PySem.Spec PyProof.Rows L2
open C8 (pe_gc)
open Vbpoag (Fact Scan Body goodSign syncsOf itemsOf clashesIn along rightTime eventsOf Standing ended fits nothing standing key)
def sp_Standing_init (G : Gx) : Sp := fun vs H Q _ => ∃ (a dx : Addr), vs = [.ref a] ∧ H a = some (.ins G.CS dx []) ∧ ∀ lo ls H', SX a H H' → H lo = none → H ls = none → StandAt G H' a lo ls dx nothing → Q .non H'
theorem cal_Standing_init {P : Program} {w : World} {mg : Str → Option Value} {base : Heap} {G : Gx} (T : Txt G mg) (h : HasI G mg "Standing" G.CS "Standing.__init__" s_Standing_init) : MakN P w G.K mg base 1 "Standing" G.CS (sp_Standing_init G) := by
  obtain ⟨f, fd, F, q1, q2⟩ := h
  have nd := sc_Standing_init.nd
  refine ⟨f, fd, ["self"], q1, ?_, q2, F.bindsN fun _ _ _ _ _ _ us hl => match us, hl with | [_], _ => rfl⟩
  refine F.ok sc_Standing_init (fun vs H Q E h => by obtain ⟨a, dx, rfl, _⟩ := h; rfl) fun cdv A outer s H vs Q E hr h => ?_
  refine ⟨_, PSs.nox (pss_cons (ps_fld (pv 0) (pe_gc rfl T.c_NOTHING) rfl)
      (pss_cons (ps_fld (pv 0) pe_int rfl)
      (pss_cons (ps_fld (pv 0) pe_int rfl)
      (pss_cons (ps_fld (pv 0) (pe_lst pa_nil) rfl)
      (pss_one (ps_fld (pv 0) (pe_lst pa_nil) rfl)))))), ?_⟩
  obtain ⟨a, dx, rfl, ha, k⟩ := h
  refine ⟨_, rfl, a, _, dx, _, rfl, ha, T.clS, T.nS_state, (by decide), _, rfl, a, _, dx, _, rfl, upd_same, T.clS, T.nS_office, (by decide), _, rfl, a, _, dx, _, rfl, upd_same, T.clS, T.nS_attempts, (by decide), ?_⟩
  generalize hH1 : upd (upd (upd H a _) a _) a _ = H1
  have ha1 : H1 a = some (.ins G.CS dx [("state", .int 0), ("office", .int 0), ("attempts", .int 0)]) := by rw [← hH1]; exact upd_same
  have s1 : SX a H H1 := by rw [← hH1]; exact ((SX.of (same_refl H)).upd.upd).upd
  refine ⟨big_le (by simp), fun lo hlo => ⟨_, rfl, a, _, dx, _, rfl, same_new hlo _ _ ha1, T.clS, T.nS_odd, (by decide), big_le (by simp), fun ls hls => ⟨_, rfl, a, _, dx, _, rfl, same_new hls _ _ upd_same, T.clS, T.nS_signer, putF_lt (by simp), ?_⟩⟩⟩
  have n1 : lo ≠ a := ne_of_new' ha1 hlo
  have hls0 : H1 lo = none := hlo
  have n2 : ls ≠ a := fun e => by rw [e, upd_same] at hls; cases hls
  have hls2 : upd H1 lo (.lst []) ls = none := by rw [upd_ne n2] at hls; exact hls
  have n3 : lo ≠ ls := fun e => by rw [← e, upd_same] at hls2; cases hls2
  have hls3 : H1 ls = none := by rw [upd_ne (Ne.symm n3)] at hls2; exact hls2
  have back : ∀ b, b ≠ a → H1 b = none → H b = none := fun b n h => by
    cases e : H b with
    | none => rfl
    | some u => rw [s1 _ _ n e] at h; cases h
  refine k lo ls _ ?_ (back lo n1 hlo) (back ls n2 hls3) ⟨upd_same, ?_, ?_, n3⟩
  · exact ((((s1.trans (SX.of (same_new hlo))).upd).trans (SX.of (same_new hls))).upd)
  · rw [upd_ne n1, upd_ne n3, upd_ne n1]; exact upd_same
  · rw [upd_ne n2]; exact upd_same
def sp_Standing_is_over (G : Gx) : Sp := fun vs H Q _ => ∃ (a lo ls dx : Addr) (x : Standing), vs = [.ref a] ∧ StandAt G H a lo ls dx x ∧ ∀ H', Same H H' → Q (.bl (ended x)) H'
theorem cal_Standing_is_over {P : Program} {w : World} {mg : Str → Option Value} {base : Heap} {G : Gx} (T : Txt G mg) (h : HasM G G.CS "is_over" "Standing.is_over" s_Standing_is_over) : MetN P w G.K mg base 1 G.CS "is_over" (sp_Standing_is_over G) := by
  obtain ⟨f, fd, F, q1, q2⟩ := h
  have nd := sc_Standing_is_over.nd
  refine ⟨f, fd, ["self"], q1, q2, ?_, F.bindsN fun _ _ _ _ _ _ us hl => match us, hl with | [_], _ => rfl⟩
  refine F.ok sc_Standing_is_over (fun vs H Q E h => by obtain ⟨a, lo, ls, dx, x, rfl, _⟩ := h; rfl) fun cdv A outer s H vs Q E hr h => ?_
  refine ⟨_, PSs.nox (pss_one (ps_ret (pe_cmpR op_in_seq (pe_fld (pv 0) rfl) (pe_tup (pa_cons (pe_gc rfl T.c_SIGNED) (pa_cons (pe_gc rfl T.c_RETURNED_SIGNED) pa_nil))) rfl))), ?_⟩
  obtain ⟨a, lo, ls, dx, x, rfl, hs, k⟩ := h
  refine ⟨_, rfl, a, _, dx, _, _, rfl, hs.o, T.clS, T.nS_state, rfl, big_le (by simp), fun p hp => ⟨p, _, rfl, .inr (.inl (.inl upd_same)), rfl, rfl, ?_⟩⟩
  have e : (if false = true then !inV (natV x.state) [.int 6, .int 9] else inV (natV x.state) [.int 6, .int 9]) = ended x := in_two x.state 6 9
  have := k _ (same_new (o := .tup [.int 6, .int 9]) hp)
  rw [← e] at this
  exact this
def sp_Standing_does_fit (G : Gx) : Sp := fun vs H Q _ => ∃ (a lo ls dx : Addr) (x : Standing) (v : V) (f : Fact) (z : Scan), vs = [.ref a, v] ∧ StandAt G H a lo ls dx x ∧ Dp G.K H v (factD f) ∧ f.body = .scan z ∧ z.kind < 10 ∧ ∀ H', Same H H' → Q (.bl (fits x z.kind z.office)) H'
theorem cal_Standing_does_fit {P : Program} {w : World} {mg : Str → Option Value} {base : Heap} {G : Gx} (T : Txt G mg) (h : HasM G G.CS "does_fit" "Standing.does_fit" s_Standing_does_fit) : MetN P w G.K mg base 1 G.CS "does_fit" (sp_Standing_does_fit G) := by
  obtain ⟨f, fd, F, q1, q2⟩ := h
  have nd := sc_Standing_does_fit.nd
  obtain ⟨a_FITS, g_FITS, dp_FITS⟩ := T.t_FITS
  refine ⟨f, fd, ["self", "fact"], q1, q2, ?_, F.bindsN fun _ _ _ _ _ _ us hl => match us, hl with | [_, _], _ => rfl⟩
  refine F.ok sc_Standing_does_fit (fun vs H Q E h => by obtain ⟨a, lo, ls, dx, x, v, f, z, rfl, _⟩ := h; rfl) fun cdv A outer s H vs Q E hr h => ?_
  refine ⟨_, PSs.nox (pss_cons (ps_if (pt_cmpR op_notIn_seq (pe_fld (pv 0) rfl) (pe_ix ix_tup (pe_gc rfl g_FITS) (pe_ix ix_tup (pv 1) (pe_gc rfl T.c_KIND) (fun _ _ => rfl)) (fun _ _ => rfl)) rfl) (pss_one (ps_ret pe_bl)) pss_nil)
      (pss_one (ps_ret (pe_or (pe_cmpR op_in_seq (pe_ix ix_tup (pv 1) (pe_gc rfl T.c_KIND) (fun _ _ => rfl)) (pe_tup (pa_cons (pe_gc rfl T.c_POSTED_KIND) (pa_cons (pe_gc rfl T.c_COME_KIND) pa_nil))) rfl) (pe_one (pe_cmpR op_eq (pe_ix ix_tup (pv 1) (pe_gc rfl T.c_OFFICE) (fun _ _ => rfl)) (pe_fld (pv 0) rfl) (nomark _))))))), ?_⟩
  obtain ⟨a, lo, ls, dx, x, v, f, z, rfl, hs, hd, hb, hk, k⟩ := h
  obtain ⟨b, rfl, hS⟩ := fact_sq hd hb
  obtain ⟨ws, c, hT, hc, hC⟩ := fits_tab dp_FITS H hk
  rw [fits_eq x z.office hk] at k
  refine ⟨_, rfl, a, _, dx, _, _, rfl, hs.o, T.clS, T.nS_state, rfl, _, rfl, _, _, _, _, rfl, rfl, hS, rfl, _, _, _, _, rfl, rfl, hT, at_nat hc rfl, c, _, rfl, .inr hC, rfl, flat_nats _, _, rfl, ?_⟩
  rw [if_pos rfl, in_nats]
  refine iteN (fun c1 => ?_) fun c1 => ?_
  · rw [c1, Bool.false_and] at k
    exact k _ (same_refl _)
  · rw [c1, Bool.true_and] at k
    refine ⟨_, rfl, _, _, _, _, rfl, rfl, hS, rfl, big_le (by simp), fun p hp => ⟨p, _, rfl, .inr (.inl (.inl upd_same)), rfl, rfl, _, rfl, ?_⟩⟩
    have e : (if false = true then !inV (V.int (z.kind : Int)) [.int 0, .int 1] else inV (V.int (z.kind : Int)) [.int 0, .int 1]) = (z.kind == 0 || z.kind == 1) := in_two z.kind 0 1
    have hS' := sq_same (same_new (o := .tup [.int 0, .int 1]) hp) hS
    have hs' := hs.same (same_new (o := .tup [.int 0, .int 1]) hp)
    have k := k _ (same_new (o := .tup [.int 0, .int 1]) hp)
    refine iteB (fun c2 => ?_) fun c2 => ?_
    · have c2 := e.symm.trans c2
      have : (z.kind == 0 || (z.kind == 1 || z.office == x.office)) = true := by rw [← Bool.or_assoc, c2]; rfl
      rw [this] at k
      exact k
    · have c2 := e.symm.trans c2
      have : (z.kind == 0 || (z.kind == 1 || z.office == x.office)) = (z.office == x.office) := by rw [← Bool.or_assoc, c2]; rfl
      rw [this] at k
      refine ⟨_, rfl, _, _, _, _, rfl, rfl, hS', rfl, _, rfl, a, _, dx, _, _, rfl, hs'.o, T.clS, T.nS_office, rfl, ?_⟩
      rw [← decN] at k
      exact ⟨rfl, k⟩
def sp_Standing_is_odd (G : Gx) : Sp := fun vs H Q _ => ∃ (a lo ls dx : Addr) (x : Standing) (v : V) (f : Fact) (z : Scan), vs = [.ref a, v] ∧ StandAt G H a lo ls dx x ∧ Dp G.K H v (factD f) ∧ f.body = .scan z ∧ z.kind < 10 ∧ ∀ H', Same H H' → Q (.bl (oddB x z.kind z.office z.sign (goodSign z.item f.device f.number z.sign))) H'
theorem cal_Standing_is_odd {P : Program} {w : World} {mg : Str → Option Value} {base : Heap} {G : Gx} (T : Txt G mg) (h : HasM G G.CS "is_odd" "Standing.is_odd" s_Standing_is_odd) (c_Standing_is_over : MetN P w G.K mg base 1 G.CS "is_over" (sp_Standing_is_over G)) (c_Standing_does_fit : MetN P w G.K mg base 1 G.CS "does_fit" (sp_Standing_does_fit G)) (c_is_good : CalN P w G.K mg base 2 "is_good" (sp_is_good G)) : MetN P w G.K mg base 3 G.CS "is_odd" (sp_Standing_is_odd G) := by
  obtain ⟨f, fd, F, q1, q2⟩ := h
  have nd := sc_Standing_is_odd.nd
  refine ⟨f, fd, ["self", "fact"], q1, q2, ?_, F.bindsN fun _ _ _ _ _ _ us hl => match us, hl with | [_, _], _ => rfl⟩
  refine F.ok sc_Standing_is_odd (fun vs H Q E h => by obtain ⟨a, lo, ls, dx, x, v, f, z, rfl, _⟩ := h; rfl) fun cdv A outer s H vs Q E hr h => ?_
  refine ⟨_, PSs.nox (pss_one (ps_ret (pe_or (pe_mn0 c_Standing_is_over hr (by decide) (pv 0)) (pe_or (pe_not (pe_mn c_Standing_does_fit hr (by decide) (pv 0) (pa_cons (pv 1) pa_nil))) (pe_one (pe_and (pe_cmpR op_ne (pe_ix ix_tup (pv 1) (pe_gc rfl T.c_SIGNATURE) (fun _ _ => rfl)) pe_int (nomark _)) (pe_one (pe_not (pe_cn c_is_good hr (by decide) rfl (pa_cons (pv 1) pa_nil)))))))))), ?_⟩
  obtain ⟨a, lo, ls, dx, x, v, f, z, rfl, hs, hd, hb, hk, k⟩ := h
  obtain ⟨b, rfl, hS⟩ := fact_sq hd hb
  unfold oddB at k
  refine ⟨_, rfl, a, dx, _, rfl, hs.o, rfl, a, lo, ls, dx, x, rfl, hs, fun H1 s1 => ⟨_, rfl, iteB (fun c1 => ?_) fun c1 => ?_⟩⟩
  · rw [c1, Bool.true_or] at k; exact k _ s1
  rw [c1, Bool.false_or] at k
  refine ⟨_, rfl, a, dx, _, rfl, s1 _ _ hs.o, rfl, _, rfl, a, lo, ls, dx, x, .ref b, f, z, rfl, hs.same s1, Same.dp s1 hd, hb, hk, fun H2 s2 => ⟨_, rfl, _, rfl, iteB (fun c2 => ?_) fun c2 => ?_⟩⟩
  · rw [c2, Bool.true_or] at k; exact k _ (s1.trans s2)
  rw [c2, Bool.false_or] at k
  have s12 := s1.trans s2
  have hS2 := sq_same s12 hS
  refine ⟨_, rfl, _, _, _, _, rfl, rfl, hS2, rfl, rfl, _, rfl, ?_⟩
  have e0 : (!decide (V.int (z.sign : Int) = V.int 0)) = (z.sign != 0) := by
    have := decN (a := z.sign) (b := 0)
    exact congrArg Bool.not this
  refine iteB (fun c3 => ?_) fun c3 => ?_
  · rw [← e0, c3, Bool.true_and] at k
    exact ⟨_, rfl, .ref b, f, z, rfl, hb, Same.dp s12 hd, _, rfl, k _ s12⟩
  · rw [← e0, c3, Bool.false_and] at k
    exact k _ s12
def sp_Standing_believe (G : Gx) : Sp := fun vs H Q _ => ∃ (a lo ls dx : Addr) (x : Standing) (v : V) (f : Fact) (z : Scan), vs = [.ref a, v] ∧ StandAt G H a lo ls dx x ∧ Dp G.K H v (factD f) ∧ f.body = .scan z ∧ z.kind < 10 ∧ ∀ H' ls', SX2 a lo H H' → StandAt G H' a lo ls' dx (believe x z.kind z.office f.device f.number z.sign (goodSign z.item f.device f.number z.sign)) → Q .non H'
theorem cal_Standing_believe {P : Program} {w : World} {mg : Str → Option Value} {base : Heap} {G : Gx} (T : Txt G mg) (h : HasM G G.CS "believe" "Standing.believe" s_Standing_believe) (c_is_good : CalN P w G.K mg base 2 "is_good" (sp_is_good G)) : MetN P w G.K mg base 3 G.CS "believe" (sp_Standing_believe G) := by
  obtain ⟨f, fd, F, q1, q2⟩ := h
  have nd := sc_Standing_believe.nd
  obtain ⟨a_BEHIND, g_BEHIND, dp_BEHIND⟩ := T.t_BEHIND
  refine ⟨f, fd, ["self", "fact"], q1, q2, ?_, F.bindsN fun _ _ _ _ _ _ us hl => match us, hl with | [_, _], _ => rfl⟩
  refine F.ok sc_Standing_believe (fun vs H Q E h => by obtain ⟨a, lo, ls, dx, x, v, f, z, rfl, _⟩ := h; rfl) fun cdv A outer s H vs Q E hr h => ?_
  refine ⟨_, PSs.nox (pss_cons (ps_set (i := 2) nd rfl (Or.inl rfl) (pe_ix ix_tup (pv 1) (pe_gc rfl T.c_KIND) (fun _ _ => rfl)))
      (pss_cons (ps_fld (pv 0) (pe_ix ix_tup (pe_gc rfl g_BEHIND) (pv 2) (fun _ _ => rfl)) rfl)
      (pss_cons (ps_fld (pv 0) (pe_ix ix_tup (pv 1) (pe_gc rfl T.c_OFFICE) (fun _ _ => rfl)) rfl)
      (pss_cons (ps_if (pt_cmpR op_eq (pv 2) (pe_gc rfl T.c_ATTEMPT_KIND) (nomark _)) (pss_one (ps_fldaug (pv 0) pe_int in_add)) pss_nil)
      (pss_one (ps_if (PW.pt (pw_and (pt_cmpR op_in_seq (pv 2) (pe_tup (pa_cons (pe_gc rfl T.c_DELIVERED_KIND) (pa_cons (pe_gc rfl T.c_RETURNED_KIND) pa_nil))) rfl) (pw_and1 (pt_val (pe_cn c_is_good hr (by decide) rfl (pa_cons (pv 1) pa_nil)))))) (pss_cons (ps_fld (pv 0) (pe_op op_add (pe_fld (pv 0) rfl) pe_int) rfl)
      (pss_one (ps_fld (pv 0) (pe_lst (pa_cons (pe_ix ix_tup (pv 1) (pe_gc rfl T.c_DEVICE) (fun _ _ => rfl)) (pa_cons (pe_ix ix_tup (pv 1) (pe_gc rfl T.c_NUMBER) (fun _ _ => rfl)) (pa_cons (pe_ix ix_tup (pv 1) (pe_gc rfl T.c_SIGNATURE) (fun _ _ => rfl)) pa_nil)))) rfl))) pss_nil)))))), ?_⟩
  obtain ⟨a, lo, ls, dx, x, v, f, z, rfl, hs, hd, hb, hk, k⟩ := h
  obtain ⟨b, rfl, hS⟩ := fact_sq hd hb
  have hB := behind_tab dp_BEHIND H hk
  have hBk : atI (behindL.map natV) (z.kind : Int) = some (natV (behindL.getD z.kind 0)) := at_nat (by rw [List.getElem?_map, List.getD_eq_getElem?_getD, List.getElem?_eq_getElem (show z.kind < behindL.length from hk)]; rfl) rfl
  have hl0 : H lo = some (.lst (x.odd.map natV)) := hs.odd
  have hS1 : ∀ H', SX2 a lo H H' → SqT G.K H' b [.int 0, .int (f.device : Int), .int (f.number : Int), .int (f.epoch : Int), .int (f.clock : Int), .int (z.item : Int), .int (z.kind : Int), .int (z.office : Int), .int (z.sign : Int)] := fun H' s => s.sqT hs.o (noT_ins _ _ _) hl0 (noT_lst _) hS
  have hdp : ∀ H', SX2 a lo H H' → Dp G.K H' (.ref b) (factD f) := fun H' s => by
    have := hS1 H' s
    refine tupI_dp (ns := factI f) ?_
    rw [factI_scan hb]; exact this
  have na : a ≠ lo := fun e => by have := hs.o; rw [e, hl0] at this; cases this
  have nas : a ≠ ls := fun e => by have := hs.o; rw [e, hs.sg] at this; cases this
  refine ⟨_, rfl, _, _, _, _, rfl, rfl, hS, rfl, _, rfl, _, _, _, _, rfl, rfl, hB, hBk, _, rfl, a, _, dx, _, rfl, hs.o, T.clS, T.nS_state, (by show 5 < 1000; decide), ?_⟩
  have s1 : SX2 a lo H (upd H a (.ins G.CS dx (putF "state" (natV (behindL.getD z.kind 0)) (stF x lo ls)))) := (SX2.of (same_refl H)).updA
  have hS1' := hS1 _ s1
  refine ⟨_, rfl, _, _, _, _, rfl, rfl, hS1', rfl, _, rfl, a, _, dx, _, rfl, upd_same, T.clS, T.nS_office, (by show 5 < 1000; decide), ?_⟩
  have s2 : SX2 a lo H (upd (upd H a (.ins G.CS dx (putF "state" (natV (behindL.getD z.kind 0)) (stF x lo ls)))) a (.ins G.CS dx (putF "office" (natV z.office) (putF "state" (natV (behindL.getD z.kind 0)) (stF x lo ls))))) := s1.updA
  have y2 : StandAt G (upd (upd H a (.ins G.CS dx (putF "state" (natV (behindL.getD z.kind 0)) (stF x lo ls)))) a (.ins G.CS dx (putF "office" (natV z.office) (putF "state" (natV (behindL.getD z.kind 0)) (stF x lo ls))))) a lo ls dx { x with state := behindL.getD z.kind 0, office := z.office } := ⟨upd_same, by rw [upd_ne na.symm, upd_ne na.symm]; exact hs.odd, by rw [upd_ne nas.symm, upd_ne nas.symm]; exact hs.sg, hs.ne⟩
  refine cut_T (P := fun H3 => SX2 a lo H H3 ∧ StandAt G H3 a lo ls dx { x with state := behindL.getD z.kind 0, office := z.office, attempts := if z.kind = 4 then x.attempts + 1 else x.attempts }) (fun fin => ⟨_, rfl, rfl, _, rfl, iteB (fun c1 => ⟨_, rfl, a, _, dx, _, _, rfl, upd_same, T.clS, T.nS_attempts, rfl, _, _, rfl, rfl, dx, _, upd_same, (by show 5 < 1000; decide), fin _ ⟨s2.updA, ?_⟩⟩) fun c1 => fin _ ⟨s2, ?_⟩⟩) fun H3 h3 => ?_
  · have c1 : z.kind = 4 := by have := of_decide_eq_true c1; simp only [V.int.injEq] at this; omega
    rw [if_pos c1]
    exact ⟨upd_same, by rw [upd_ne na.symm]; exact y2.odd, by rw [upd_ne nas.symm]; exact y2.sg, hs.ne⟩
  · have c1 : ¬ z.kind = 4 := by
      have := of_decide_eq_false c1
      simp only [V.int.injEq] at this
      intro e
      exact this (by omega)
    rw [if_neg c1]
    exact y2
  obtain ⟨s3, y3⟩ := h3
  refine ⟨_, rfl, big_le (by simp), fun p hp => ⟨p, _, rfl, .inr (.inl (.inl upd_same)), rfl, rfl, _, rfl, ?_⟩⟩
  have st := same_new (o := .tup [.int 6, .int 7]) hp
  have s4 := s3.trans (SX2.of st)
  have y4 := y3.same st
  have e : (if false = true then !inV (V.int (z.kind : Int)) [.int 6, .int 7] else inV (V.int (z.kind : Int)) [.int 6, .int 7]) = (z.kind == 6 || z.kind == 7) := in_two z.kind 6 7
  have hbe := behind_eq hk (goodSign z.item f.device f.number z.sign)
  generalize hg : goodSign z.item f.device f.number z.sign = g at *
  have last : ((z.kind == 6 || z.kind == 7) && g) = false → Q .non (upd H3 p (.tup [.int 6, .int 7])) := fun c => by
    refine k _ ls s4 ?_
    unfold believe
    rw [hbe, c, if_neg Bool.false_ne_true, if_neg Bool.false_ne_true, Nat.add_zero]
    exact y4
  refine iteB (fun c2 => ?_) fun c2 => ?_
  · have c2 := e.symm.trans c2
    refine ⟨_, rfl, .ref b, f, z, rfl, hb, hdp _ s4, _, rfl, ?_⟩
    rw [hg]
    refine iteB (fun c3 => ?_) fun c3 => last (by rw [c2, c3]; rfl)
    refine ⟨_, rfl, a, _, dx, _, _, rfl, y4.o, T.clS, T.nS_state, rfl, _, _, rfl, rfl, _, rfl, a, _, dx, _, rfl, y4.o, T.clS, T.nS_state, (by show 5 < 1000; decide), ?_⟩
    generalize hH5 : upd (upd H3 p (.tup [.int 6, .int 7])) a _ = H5
    have s5 : SX2 a lo H H5 := by rw [← hH5]; exact s4.updA
    have y5 : StandAt G H5 a lo ls dx { x with state := behindL.getD z.kind 0 + 1, office := z.office, attempts := if z.kind = 4 then x.attempts + 1 else x.attempts } := by
      rw [← hH5]
      exact ⟨upd_same, by rw [upd_ne na.symm]; exact y4.odd, by rw [upd_ne nas.symm]; exact y4.sg, hs.ne⟩
    have hS5 := hS1 _ s5
    refine ⟨_, rfl, _, _, _, _, rfl, rfl, hS5, rfl, _, rfl, _, _, _, _, rfl, rfl, hS5, rfl, _, rfl, _, _, _, _, rfl, rfl, hS5, rfl, big_le (by simp), fun q hq => ⟨_, rfl, a, _, dx, _, rfl, same_new hq _ _ y5.o, T.clS, T.nS_signer, (by show 5 < 1000; decide), ?_⟩⟩
    have nq : q ≠ a := ne_of_new' y5.o hq
    have nq2 : q ≠ lo := ne_of_new' y5.odd hq
    refine k _ q ((s5.trans (SX2.of (same_new hq))).updA) ?_
    unfold believe
    rw [hbe, c2, c3, Bool.and_true, if_pos rfl, if_pos rfl]
    exact ⟨upd_same, by rw [upd_ne na.symm, upd_ne nq2.symm]; exact y5.odd, by rw [upd_ne nq]; exact upd_same, nq2.symm⟩
  · have c2 := e.symm.trans c2
    exact last (by rw [c2]; rfl)
def sp_Standing_go_on (G : Gx) : Sp := fun vs H Q _ => ∃ (a lo ls dx : Addr) (x : Standing) (p : Nat) (v : V) (f : Fact) (z : Scan), vs = [.ref a, .int p, v] ∧ StandAt G H a lo ls dx x ∧ x.odd.length ≤ 1000 ∧ Dp G.K H v (factD f) ∧ f.body = .scan z ∧ z.kind < 10 ∧ ∀ H' ls', SX2 a lo H H' → StandAt G H' a lo ls' dx (goOn x p z.kind z.office f.device f.number z.sign (goodSign z.item f.device f.number z.sign)) → Q .non H'
theorem cal_Standing_go_on {P : Program} {w : World} {mg : Str → Option Value} {base : Heap} {G : Gx} (T : Txt G mg) (h : HasM G G.CS "go_on" "Standing.go_on" s_Standing_go_on) (c_Standing_is_odd : MetN P w G.K mg base 3 G.CS "is_odd" (sp_Standing_is_odd G)) (c_Standing_is_over : MetN P w G.K mg base 1 G.CS "is_over" (sp_Standing_is_over G)) (c_Standing_believe : MetN P w G.K mg base 3 G.CS "believe" (sp_Standing_believe G)) : MetN P w G.K mg base 4 G.CS "go_on" (sp_Standing_go_on G) := by
  obtain ⟨f, fd, F, q1, q2⟩ := h
  have nd := sc_Standing_go_on.nd
  refine ⟨f, fd, ["self", "place", "fact"], q1, q2, ?_, F.bindsN fun _ _ _ _ _ _ us hl => match us, hl with | [_, _, _], _ => rfl⟩
  refine F.ok sc_Standing_go_on (fun vs H Q E h => by obtain ⟨a, lo, ls, dx, x, p, v, f, z, rfl, _⟩ := h; rfl) fun cdv A outer s H vs Q E hr h => ?_
  refine ⟨_, PSs.nox (pss_cons (ps_if (pt_val (pe_mn c_Standing_is_odd hr (by decide) (pv 0) (pa_cons (pv 2) pa_nil))) (pss_one (ps_expr (pe_bm PySem.F.plainAttrs_list PySem.F.slot_list_append PySem.F.type_list_append mt_append (pe_fld (pv 0) rfl) (pa_cons (pv 1) pa_nil)))) pss_nil)
      (pss_one (ps_if (pt_not (pt_val (pe_mn0 c_Standing_is_over hr (by decide) (pv 0)))) (pss_one (ps_expr (pe_mn c_Standing_believe hr (by decide) (pv 0) (pa_cons (pv 2) pa_nil)))) pss_nil))), ?_⟩
  obtain ⟨a, lo, ls, dx, x, p, v, f, z, rfl, hs, hl, hd, hb, hk, k⟩ := h
  unfold goOn at k
  have na : a ≠ lo := fun e => by have := hs.o; rw [e, hs.odd] at this; cases this
  have nas : a ≠ ls := fun e => by have := hs.o; rw [e, hs.sg] at this; cases this
  have hdp : ∀ H', SX2 a lo H H' → Dp G.K H' v (factD f) := fun H' s => by
    obtain ⟨b, rfl, hS⟩ := fact_sq hd hb
    have := s.sqT hs.o (noT_ins _ _ _) hs.odd (noT_lst _) hS
    refine tupI_dp (ns := factI f) ?_
    rw [factI_scan hb]; exact this
  refine cut_T (P := fun H1 => SX2 a lo H H1 ∧ StandAt G H1 a lo ls dx (if oddB x z.kind z.office z.sign (goodSign z.item f.device f.number z.sign) = true then ({ x with odd := x.odd ++ [p] } : Standing) else x)) (fun fin => ⟨_, rfl, a, dx, _, rfl, hs.o, rfl, _, rfl, a, lo, ls, dx, x, v, f, z, rfl, hs, hd, hb, hk, fun H1 s1 => ⟨_, rfl, iteB (fun c1 => ?_) fun c1 => fin _ ⟨SX2.of s1, ?_⟩⟩⟩) fun H1 h1 => ?_
  · have hs1 := hs.same s1
    refine ⟨_, rfl, a, _, dx, _, _, rfl, hs1.o, T.clS, T.nS_odd, rfl, .inl ⟨rfl, _, .inl (.inl hs1.odd)⟩, _, rfl, lo, _, _, rfl, rfl, hs1.odd, big_lt (by rw [List.length_map]; omega), fin _ ⟨(SX2.of s1).updL, ?_⟩⟩
    rw [if_pos c1]
    exact ⟨by rw [upd_ne na]; exact hs1.o, by rw [List.map_append]; exact upd_same, by rw [upd_ne hs.ne.symm]; exact hs1.sg, hs.ne⟩
  · rw [if_neg (by rw [c1]; exact Bool.false_ne_true)]
    exact hs.same s1
  obtain ⟨s1, y1⟩ := h1
  generalize (if oddB x z.kind z.office z.sign (goodSign z.item f.device f.number z.sign) = true then ({ x with odd := x.odd ++ [p] } : Standing) else x) = y at *
  refine ⟨_, rfl, a, dx, _, rfl, y1.o, rfl, a, lo, ls, dx, y, rfl, y1, fun H2 s2 => ⟨_, rfl, iteN (fun c2 => ?_) fun c2 => ?_⟩⟩
  · refine ⟨_, rfl, a, dx, _, rfl, s2 _ _ y1.o, rfl, _, rfl, a, lo, ls, dx, y, v, f, z, rfl, y1.same s2, hdp _ (s1.trans (SX2.of s2)), hb, hk, fun H3 ls' s3 y3 => k H3 ls' (s1.trans ((SX2.of s2).trans s3)) ?_⟩
    dsimp only
    rw [if_neg (by rw [c2]; exact Bool.false_ne_true)]
    exact y3
  · refine k H2 ls (s1.trans (SX2.of s2)) ?_
    dsimp only
    rw [if_pos c2]
    exact y1.same s2
def stD (x : Standing) : PyData := .tuple [.int (x.state : Int), .int (x.office : Int), .int (x.attempts : Int), natsD x.odd, natsD (match x.signed with | none => [] | some z => [z.1, z.2.1, z.2.2])]
def sp_Standing_told (G : Gx) : Sp := fun vs H Q _ => ∃ (a lo ls dx : Addr) (x : Standing), vs = [.ref a] ∧ StandAt G H a lo ls dx x ∧ post H Q fun u H' => Dp G.K H' u (stD x)
theorem nats_dp {K : PySem.W.Frag} {H : Hp} {a : Addr} {l : List Nat} (h : H a = some (.lst (l.map natV))) : Dp K H (.ref a) (natsD l) := by
  unfold natsD
  refine lstI_dp ?_
  rw [List.map_map]
  exact .inl (.inl h)
theorem cal_Standing_told {P : Program} {w : World} {mg : Str → Option Value} {base : Heap} {G : Gx} (T : Txt G mg) (h : HasM G G.CS "told" "Standing.told" s_Standing_told) : MetN P w G.K mg base 1 G.CS "told" (sp_Standing_told G) := by
  obtain ⟨f, fd, F, q1, q2⟩ := h
  have nd := sc_Standing_told.nd
  refine ⟨f, fd, ["self"], q1, q2, ?_, F.bindsN fun _ _ _ _ _ _ us hl => match us, hl with | [_], _ => rfl⟩
  refine F.ok sc_Standing_told (fun vs H Q E h => by obtain ⟨a, lo, ls, dx, x, rfl, _⟩ := h; rfl) fun cdv A outer s H vs Q E hr h => ?_
  refine ⟨_, PSs.nox (pss_one (ps_ret (pe_tup (pa_cons (pe_fld (pv 0) rfl) (pa_cons (pe_fld (pv 0) rfl) (pa_cons (pe_fld (pv 0) rfl) (pa_cons (pe_fld (pv 0) rfl) (pa_cons (pe_fld (pv 0) rfl) pa_nil)))))))), ?_⟩
  obtain ⟨a, lo, ls, dx, x, rfl, hs, k⟩ := h
  refine ⟨_, rfl, a, _, dx, _, _, rfl, hs.o, T.clS, T.nS_state, rfl, _, rfl, a, _, dx, _, _, rfl, hs.o, T.clS, T.nS_office, rfl, _, rfl, a, _, dx, _, _, rfl, hs.o, T.clS, T.nS_attempts, rfl, _, rfl, a, _, dx, _, _, rfl, hs.o, T.clS, T.nS_odd, rfl, _, rfl, a, _, dx, _, _, rfl, hs.o, T.clS, T.nS_signer, rfl, big_le (by simp), fun p hp => k _ _ (same_new hp) ?_⟩
  have h1 := same_new (o := .tup [natV x.state, natV x.office, natV x.attempts, .ref lo, .ref ls]) hp
  refine .tup (.inl (.inl upd_same)) (.cons (.int _) (.cons (.int _) (.cons (.int _) (.cons (nats_dp (h1 _ _ hs.odd)) (.cons (nats_dp ?_) .nil)))))
  have := h1 _ _ hs.sg
  cases hx : x.signed with
  | none => rw [hx] at this; exact this
  | some z => rw [hx] at this; exact this
def encT (fs : List Fact) (f : Fact) : PyData := .tuple [tupI (key (evOf fs f)), factD f]
def evD (fs : List Fact) (f : Fact) : PyData := .tuple [.int (rightTime fs f.device f.epoch f.clock), factD f]
theorem lfree_encT (fs : List Fact) (f : Fact) : lfree (encT fs f) = true := by
  have h1 := lfree_tupI (key (evOf fs f))
  have h2 := lfree_fact f
  simp [encT, lfree, lfreeAll, h1, h2]
theorem lfree_evD (fs : List Fact) (f : Fact) : lfree (evD fs f) = true := by
  have h2 := lfree_fact f
  simp [evD, lfree, lfreeAll, h2]
theorem alike_encT (fs : List Fact) (f g : Fact) : PySem.W.alike (encT fs f) (encT fs g) = true := by
  have h1 := alike_tupI (key (evOf fs f)) (key (evOf fs g))
  have h2 : PySem.W.alike (factD f) (factD g) = true := alike_tupI _ _
  simp [encT, PySem.W.alike, PySem.W.alikeAll, h1, h2]
theorem dep_encT (fs : List Fact) (f : Fact) : (encT fs f).depth ≤ 60 := by
  have h1 := dep_tupI (key (evOf fs f))
  have h2 : (factD f).depth = 1 := dep_tupI _
  simp [encT, PyData.depth, PyData.depthAll, h1, h2]
theorem lt_encT {fs : List Fact} {f g : Fact} (h : PySem.W.dataLt (encT fs g) (encT fs f) = false) : ¬ key (evOf fs g) < key (evOf fs f) := fun c => by
  have ne : ¬ key (evOf fs g) = key (evOf fs f) := fun e => by rw [e] at c; exact lt_irr _ c
  unfold encT at h
  rw [PySem.W.dataLt_pair (alike_tupI _ _) (show PySem.W.alike (factD g) (factD f) = true from alike_tupI _ _), eqv_tupI, decide_eq_false ne, if_neg Bool.false_ne_true, dataLt_tupI, decide_eq_true c] at h
  cases h
theorem key_scan {fs : List Fact} {f : Fact} {z : Scan} (hb : f.body = .scan z) : key (evOf fs f) = [rightTime fs f.device f.epoch f.clock, (z.kind : Int), (z.office : Int), (f.device : Int), (f.number : Int), (z.sign : Int), (f.epoch : Int), (f.clock : Int)] := by
  unfold evOf
  rw [hb]
  rfl
def sp_history_of (G : Gx) : Sp := fun vs H Q _ => ∃ (v : V) (fs : List Fact) (i : Nat), vs = [v, .int i] ∧ fs.length ≤ 100 ∧ (∀ f ∈ fs, Vbpoag.inRange f = true) ∧ Dp G.K H v (factsD fs) ∧
  ∀ (ms : List Fact) (b : Addr) (ys : List V) (H' : Hp), ms.Perm (fs.filter (isScanOf i)) → (ms.Pairwise fun a b => ¬ key (evOf fs b) < key (evOf fs a)) → Same H H' → H' b = some (.lst ys) → H b = none → DpAll G.K H' ys (ms.map (evD fs)) → Q (.ref b) H'
theorem cal_history_of {P : Program} {w : World} {mg : Str → Option Value} {base : Heap} {G : Gx} (T : Txt G mg) (h : Has G mg "history_of" s_history_of) (c_scans_of : CalN P w G.K mg base 1 "scans_of" (sp_scans_of G)) (c_time_of : CalN P w G.K mg base 2 "time_of" (sp_time_of G)) : CalN P w G.K mg base 3 "history_of" (sp_history_of G) := by
  obtain ⟨f, fd, F, hm⟩ := h
  have nd := sc_history_of.nd
  refine ⟨f, fd, ["facts", "item"], ?_, hm, F.kp, F.bindsN fun _ _ _ _ _ _ us hl => match us, hl with | [_, _], _ => rfl⟩
  refine F.ok sc_history_of (fun vs H Q E h => by obtain ⟨v, fs, i, rfl, _⟩ := h; rfl) fun cdv A outer s H vs Q E hr h => ?_
  refine ⟨_, PSs.nox (pss_cons (ps_set (i := 2) nd rfl (Or.inl rfl) (pe_lst pa_nil))
      (pss_cons (ps_for PassesOwn.never rfl (pi_list (pe_cn c_scans_of hr (by decide) rfl (pa_cons (pv 0) (pa_cons (pv 1) pa_nil)))) (pg_name (i := 3) nd rfl (Or.inl rfl))
      (pss_cons (ps_set (i := 4) nd rfl (Or.inl rfl) (pe_cn c_time_of hr (by decide) rfl (pa_cons (pv 0) (pa_cons (pe_ix ix_tup (pv 3) (pe_gc rfl T.c_DEVICE) (fun _ _ => rfl)) (pa_cons (pe_ix ix_tup (pv 3) (pe_gc rfl T.c_SETTING) (fun _ _ => rfl)) (pa_cons (pe_ix ix_tup (pv 3) (pe_gc rfl T.c_CLOCK) (fun _ _ => rfl)) pa_nil))))))
      (pss_cons (ps_set (i := 5) nd rfl (Or.inl rfl) (pe_tup (pa_cons (pv 4) (pa_cons (pe_ix ix_tup (pv 3) (pe_gc rfl T.c_KIND) (fun _ _ => rfl)) (pa_cons (pe_ix ix_tup (pv 3) (pe_gc rfl T.c_OFFICE) (fun _ _ => rfl)) (pa_cons (pe_ix ix_tup (pv 3) (pe_gc rfl T.c_DEVICE) (fun _ _ => rfl)) (pa_cons (pe_ix ix_tup (pv 3) (pe_gc rfl T.c_NUMBER) (fun _ _ => rfl)) (pa_cons (pe_ix ix_tup (pv 3) (pe_gc rfl T.c_SIGNATURE) (fun _ _ => rfl)) (pa_cons (pe_ix ix_tup (pv 3) (pe_gc rfl T.c_SETTING) (fun _ _ => rfl)) (pa_cons (pe_ix ix_tup (pv 3) (pe_gc rfl T.c_CLOCK) (fun _ _ => rfl)) pa_nil))))))))))
      (pss_one (ps_expr (pe_bm PySem.F.plainAttrs_list PySem.F.slot_list_append PySem.F.type_list_append mt_append (pv 2) (pa_cons (pe_tup (pa_cons (pv 5) (pa_cons (pv 3) pa_nil))) pa_nil)))))))
      (pss_one (ps_ret (pe_lc (own := [("told", 5), ("fact", 3)]) rfl nd (pi_list (pe_callB (cr_srt hr) (by rfl) T.b_sorted (by decide +kernel) (pa_cons (pv 2) pa_nil))) (blkOk_by (own := [("told", 5), ("fact", 3)]) (N := N_history_of) (sc := defScope s_history_of) (by decide +kernel)) (fun _ _ _ _ _ => (pg_tupK (K := G.K) (n := 2) rfl rfl (pgs_cons (pg_name (i := 5) nd rfl (Or.inl rfl)) (pgs_cons (pg_name (i := 3) nd rfl (Or.inl rfl)) pgs_nil)))) (fun _ _ _ _ _ => pts_nil) (fun _ _ _ _ _ => (pe_tup (pa_cons (pe_ix (ix_tupK (K := G.K) rfl) (pv 5) pe_int (fun _ _ => rfl)) (pa_cons (pv 3) pa_nil))))))))), ?_⟩
  obtain ⟨v, fs, i, rfl, hl, hr0, hd, k⟩ := h
  have hfl : (fs.filter (isScanOf i)).length ≤ fs.length := List.length_filter_le ..
  refine ⟨big_le (by simp), fun l hl0 => ⟨_, rfl, _, rfl, v, fs, i, rfl, (by omega), Same.dp (same_new hl0) hd, fun b ys H2 s2 hb0 hb2 hdp2 => ⟨b, rfl, ⟨_, .inl (.inl hb2)⟩, for_list (xs := ys) (fun j σ H3 => ∃ u3 u4 u5, σ = [some v, some (.int i), some (.ref l), u3, u4, u5] ∧ SX l H2 H3 ∧ ∃ acc, H3 l = some (.lst acc) ∧ acc.length ≤ j ∧ DpAll G.K H3 acc (((fs.filter (isScanOf i)).take j).map (encT fs))) ⟨none, none, none, rfl, SX.of (same_refl _), [], s2 _ _ upd_same, Nat.le_refl _, .nil⟩ (fun j σ H3 _ h => ?_) (fun j x σ H3 hxj h => ?_) fun σ H3 h => ?_⟩⟩⟩
  all_goals have hl2 : H2 l = some (.lst []) := s2 _ _ upd_same
  all_goals have s02 : Same H H2 := (same_new hl0).trans s2
  all_goals have nb : b ≠ l := ne_of_new' upd_same hb0
  all_goals have hlen : ys.length = (fs.filter (isScanOf i)).length := by rw [dpAll_len hdp2, List.length_map]
  · obtain ⟨_, _, _, _, sx, _⟩ := h
    exact sx.sqL nb (.inl (.inl hb2))
  · obtain ⟨u3, u4, u5, rfl, sx, acc, hac, hal, hda⟩ := h
    have hj : j < (fs.filter (isScanOf i)).length := by rw [← hlen]; exact (List.getElem?_eq_some_iff.mp hxj).1
    generalize hfl' : fs.filter (isScanOf i) = fl at *
    have hfj : fl[j]? = some fl[j] := List.getElem?_eq_getElem hj
    generalize fl[j] = f at hfj
    have hmem : f ∈ fs ∧ isScanOf i f = true := by
      have := List.mem_of_getElem? hfj
      rw [← hfl'] at this
      exact List.mem_filter.mp this
    obtain ⟨z, hb⟩ := scan_of hmem.2
    have hf3 := SX.dp sx hl2 (noT_lst _) _ _ (lfree_fact f) (facts_at hdp2 hxj hfj)
    obtain ⟨c, rfl, hS⟩ := fact_sq hf3 hb
    have hcl := (clock_range (hr0 f hmem.1)).1
    refine ⟨_, rfl, _, rfl, _, _, _, _, rfl, rfl, hS, rfl, _, rfl, _, _, _, _, rfl, rfl, hS, rfl, _, rfl, _, _, _, _, rfl, rfl, hS, rfl, v, fs, f.device, f.epoch, f.clock, rfl, hl, hr0, hcl, Same.dp (sx.same s02 hl0) hd, fun H4 s4 => ?_⟩
    have hS4 := sq_same s4 hS
    refine ⟨_, rfl, _, rfl, _, _, _, _, rfl, rfl, hS4, rfl, _, rfl, _, _, _, _, rfl, rfl, hS4, rfl, _, rfl, _, _, _, _, rfl, rfl, hS4, rfl, _, rfl, _, _, _, _, rfl, rfl, hS4, rfl, _, rfl, _, _, _, _, rfl, rfl, hS4, rfl, _, rfl, _, _, _, _, rfl, rfl, hS4, rfl, _, rfl, _, _, _, _, rfl, rfl, hS4, rfl, big_le (by simp), fun p hp => ?_⟩
    have hl5 := same_new (o := .tup ([V.int (rightTime fs f.device f.epoch f.clock), V.int (z.kind : Int), V.int (z.office : Int), V.int (f.device : Int), V.int (f.number : Int), V.int (z.sign : Int), V.int (f.epoch : Int), V.int (f.clock : Int)])) hp _ _ (s4 _ _ hac)
    refine ⟨_, rfl, .inl ⟨rfl, _, .inl (.inl hl5)⟩, _, rfl, _, rfl, big_le (by simp), fun q hq => ⟨l, acc, _, rfl, rfl, same_new hq _ _ hl5, big_lt (by omega), _, _, _, rfl, ?_, acc ++ [.ref q], upd_same, (by rw [List.length_append]; simp; omega), ?_⟩⟩
    · exact (((sx.trans (SX.of s4)).trans (SX.of (same_new hp))).trans (SX.of (same_new hq))).upd
    · have s46 := s4.trans ((same_new hp).trans (same_new (o := .tup [.ref p, .ref c]) hq))
      have hl6 := same_new (o := .tup [.ref p, .ref c]) hq _ _ hl5
      rw [take_next' hfj, List.map_append]
      refine dpAll_app (dpAll_upd hl6 _ _ (lfree_map (lfree_encT fs) _) (Same.dpAll s46 hda)) (.cons ?_ .nil)
      refine dp_upd hl6 _ _ (lfree_encT fs f) (.tup (.inl (.inl upd_same)) (.cons ?_ (.cons (Same.dp s46 hf3) .nil)))
      rw [key_scan hb]
      exact tupI_dp (.inl (.inl (same_new hq _ _ upd_same)))
  · obtain ⟨u3, u4, u5, rfl, sx, acc, hac, hal, hda⟩ := h
    rw [hlen, List.take_length] at hda
    have s03 := sx.same s02 hl0
    refine ⟨_, rfl, ?_⟩
    refine nil_t (srt_enc (.inl (.inl hac)) hda (alike_encT fs) (fun f => ⟨_, _, rfl⟩) (dep_encT fs) fun R p zs hR pw hn hz => ⟨p, rfl, ⟨_, .inl (.inl upd_same)⟩, fun D hD => lc_data (fun _ => true) (evD fs) hD (.inl (.inl upd_same)) (by rw [dpAll_len hz, List.length_map]) (big_lt (by have := hR.length_eq; omega)) (fun f _ _ => lfree_evD fs f) (fun j x f H5 Kf Kt hxj hfj s5 kf kt => ?_) fun H6 ws s6 hD6 hdp => ?_⟩)
    · have hx5 := Same.dp ((same_new hn).trans s5) (facts_at hz hxj hfj)
      obtain ⟨c, us, rfl, hc, hus⟩ := dp_tup_inv hx5
      obtain ⟨t1, r1, rfl, h1, h2⟩ : ∃ t1 r1, us = [t1, r1] ∧ Dp G.K H5 t1 (tupI (key (evOf fs f))) ∧ Dp G.K H5 r1 (factD f) := by
        cases hus with | cons h1 h2 => cases h2 with | cons h2 h3 => cases h3; exact ⟨_, _, rfl, h1, h2⟩
      obtain ⟨z, hb⟩ := scan_of (List.mem_filter.mp (hR.mem_iff.mp (List.mem_of_getElem? hfj))).2
      rw [key_scan hb] at h1
      obtain ⟨c1, rfl, hS1⟩ := dp_tupI h1
      exact ⟨c, _, rfl, hc, rfl, _, _, rfl, _, _, rfl, rfl, rfl, iteT (B := Kf H5) ⟨_, rfl, _, _, _, _, rfl, rfl, hS1, rfl, _, rfl, big_le (by simp), fun q hq => kt _ _ (same_new hq) rfl (.tup (.inl (.inl upd_same)) (.cons (.int _) (.cons (Same.dp (same_new hq) h2) .nil)))⟩⟩
    · rw [filter_true'] at hdp
      exact k R D ws H6 hR (pw.imp fun h => lt_encT h) (s03.trans ((same_new hn).trans s6)) hD6 (same_none (s03.trans (same_new hn)) hD) hdp
def sp_standing_of (G : Gx) : Sp := fun vs H Q _ => ∃ (v : V) (fs : List Fact) (i : Nat), vs = [v, .int i] ∧ fs.length ≤ 100 ∧ fs.Nodup ∧ (∀ f ∈ fs, Vbpoag.inRange f = true) ∧ Dp G.K H v (factsD fs) ∧
  ∀ (a lo ls dx : Addr) (H' : Hp), Same H H' → StandAt G H' a lo ls dx (standing fs i) → Q (.ref a) H'
theorem evOf_scan {fs : List Fact} {f : Fact} {z : Scan} (hb : f.body = .scan z) : evOf fs f = { time := rightTime fs f.device f.epoch f.clock, kind := z.kind, office := z.office, device := f.device, number := f.number, sign := z.sign, epoch := f.epoch, clock := f.clock } := by
  unfold evOf
  rw [hb]
theorem walk_enumP {K : PySem.W.Frag} {a : Addr} {xs : List V} : Walk (Ite K a) xs.length (fun H => SqL K H a xs) (YPair (fun i => some (.int (i : Nat))) (fun i => xs[i]?)) := walk_enum
theorem cal_standing_of {P : Program} {w : World} {mg : Str → Option Value} {base : Heap} {G : Gx} (T : Txt G mg) (h : Has G mg "standing_of" s_standing_of) (c_Standing : MakN P w G.K mg base 1 "Standing" G.CS (sp_Standing_init G)) (c_history_of : CalN P w G.K mg base 3 "history_of" (sp_history_of G)) (c_Standing_go_on : MetN P w G.K mg base 4 G.CS "go_on" (sp_Standing_go_on G)) : CalN P w G.K mg base 5 "standing_of" (sp_standing_of G) := by
  obtain ⟨f, fd, F, hm⟩ := h
  have nd := sc_standing_of.nd
  refine ⟨f, fd, ["facts", "item"], ?_, hm, F.kp, F.bindsN fun _ _ _ _ _ _ us hl => match us, hl with | [_, _], _ => rfl⟩
  refine F.ok sc_standing_of (fun vs H Q E h => by obtain ⟨v, fs, i, rfl, _⟩ := h; rfl) fun cdv A outer s H vs Q E hr h => ?_
  refine ⟨_, PSs.nox (pss_cons (ps_set (i := 2) nd rfl (Or.inl rfl) (pe_kn0 c_Standing hr (by decide) rfl))
      (pss_cons (ps_for PassesOwn.never rfl (pi_enum (by rfl) T.b_enumerate (pa_cons (pe_cn c_history_of hr (by decide) rfl (pa_cons (pv 0) (pa_cons (pv 1) pa_nil))) pa_nil)) (pg_tup rfl (pgs_cons (pg_name (i := 3) nd rfl (Or.inl rfl)) (pgs_cons (pg_tup rfl (pgs_cons (pg_name (i := 4) nd rfl (Or.inl rfl)) (pgs_cons (pg_name (i := 5) nd rfl (Or.inl rfl)) pgs_nil))) pgs_nil)))
      (pss_one (ps_expr (pe_mn c_Standing_go_on hr (by decide) (pv 2) (pa_cons (pv 3) (pa_cons (pv 5) pa_nil))))))
      (pss_one (ps_ret (pv 2))))), ?_⟩
  obtain ⟨v, fs, i, rfl, hl, nodup, hr0, hd, k⟩ := h
  refine fun a dx ha0 hdx0 hne => ⟨a, dx, rfl, upd_same, fun lo ls H1 s1 hlo0 hls0 y1 => ⟨rfl, ?_⟩⟩
  have hlo : H lo = none := same_none ((same_new hdx0).trans (same_new (o := .ins G.CS dx []) (by rw [upd_ne hne.symm]; exact ha0))) hlo0
  have s01 : Same H H1 := SX.same (l := a) (H := upd (upd H dx (.own a)) a (.ins G.CS dx [])) ((same_new hdx0).trans (same_new (by rw [upd_ne hne.symm]; exact ha0))) ha0 s1
  refine ⟨_, rfl, _, rfl, v, fs, i, rfl, hl, hr0, Same.dp s01 hd, fun ms b ys H2 hp pw s2 hb2 hb0 hdp => ⟨b, ys, rfl, .inl (.inl hb2), for_it (walk_enumP (xs := ys)) (fun j σ H3 => ∃ u3 u4 u5 ls', σ = [some v, some (.int i), some (.ref a), u3, u4, u5] ∧ SX2 a lo H2 H3 ∧ StandAt G H3 a lo ls' dx (Vbpoag.standIn i nothing 0 (((ms.take j).map (evOf fs))))) ⟨none, none, none, ls, rfl, SX2.of (same_refl _), y1.same s2⟩ (fun j σ H3 _ h => ?_) (fun j x σ H3 H4 hj h hy => ?_) fun σ H3 h => ?_⟩⟩
  all_goals have y2 := y1.same s2
  all_goals have na : a ≠ b := ne_of_new y1.o hb0
  all_goals have nl : lo ≠ b := ne_of_new y1.odd hb0
  all_goals have hlen : ys.length = ms.length := by rw [dpAll_len hdp, List.length_map]
  all_goals have hml : ms.length ≤ 100 := by have := hp.length_eq; have := List.length_filter_le (isScanOf i) fs; omega
  · obtain ⟨_, _, _, _, _, s3, _⟩ := h
    exact .inl (.inl (s3 _ _ na.symm nl.symm hb2))
  · obtain ⟨u3, u4, u5, ls', rfl, s3, y3⟩ := h
    obtain ⟨t, iv, pv, rfl, ht, rfl, e1, e2⟩ := hy
    cases e1
    have e2 : ys[j]? = some pv := e2
    have hjm : j < ms.length := by omega
    have hfj : ms[j]? = some ms[j] := List.getElem?_eq_getElem hjm
    generalize ms[j] = f at hfj
    have hf := facts_at hdp e2 hfj
    obtain ⟨c, us, rfl, hc, hus⟩ := dp_tup_inv hf
    obtain ⟨t1, r1, rfl, h1, h2⟩ : ∃ t1 r1, us = [t1, r1] ∧ Dp G.K H2 t1 (.int (rightTime fs f.device f.epoch f.clock)) ∧ Dp G.K H2 r1 (factD f) := by
      cases hus with | cons h1 h2 => cases h2 with | cons h2 h3 => cases h3; exact ⟨_, _, rfl, h1, h2⟩
    have hmem := List.mem_filter.mp (hp.mem_iff.mp (List.mem_of_getElem? hfj))
    obtain ⟨z, hb⟩ := scan_of hmem.2
    have hitem : z.item = i := by have := hmem.2; rw [isScanOf_scan hb] at this; exact beq_iff_eq.mp this
    have hkind := (scan_of_range (hr0 f hmem.1) hb).2.2.2.1
    have st := same_new (o := .tup [V.int ((j : Nat) : Int), .ref c]) ht
    have s34 := s3.trans (SX2.of st)
    have hc4 := s34.sqT y2.o (noT_ins _ _ _) y2.odd (noT_lst _) hc
    have hf4 : Dp G.K (upd H3 t (.tup [V.int ((j : Nat) : Int), .ref c])) r1 (factD f) := by
      obtain ⟨q, rfl, hq⟩ := dp_tupI h2
      exact tupI_dp (s34.sqT y2.o (noT_ins _ _ _) y2.odd (noT_lst _) hq)
    have y4 := y3.same st
    refine ⟨t, _, rfl, .inl (.inl upd_same), rfl, _, _, rfl, _, _, rfl, ⟨c, _, rfl, hc4, rfl, _, _, rfl, _, _, rfl, rfl, rfl, ?_⟩⟩
    refine ⟨_, rfl, a, dx, _, rfl, y4.o, rfl, _, rfl, _, rfl, a, lo, ls', dx, _, j, r1, f, z, rfl, y4, ?_, hf4, hb, hkind, fun H5 ls5 s5 y5 => ⟨_, _, _, ls5, rfl, s34.trans s5, ?_⟩⟩
    · have := standIn_odd i ((ms.take j).map (evOf fs)) nothing 0
      rw [List.length_map, List.length_take] at this
      have e0 : nothing.odd.length = 0 := rfl
      omega
    · rw [take_next' hfj, List.map_append, List.map_cons, List.map_nil, standIn_snoc, goOn_eq, evOf_scan hb, List.length_map, List.length_take, Nat.min_eq_left (by omega), Nat.zero_add, ← hitem]
      rw [hitem]
      rw [hitem] at y5
      exact y5
  · obtain ⟨u3, u4, u5, ls', rfl, s3, y3⟩ := h
    rw [hlen, List.take_length, events_eq nodup hp pw] at y3
    refine ⟨_, rfl, k a lo ls' dx H3 ?_ y3⟩
    exact SX2.same (s01.trans s2) ha0 hlo s3
end Sc
namespace Sc
open PySem PySem.Spec PyProof.Rows L2
open C8 (pe_gc)
open Vbpoag (Fact Scan Body cut isDigit field number plain checkedFact firstRead)
def sp_need (G : Gx) : Sp := fun vs H Q E => ∃ b : Bool, vs = [.bl b] ∧ (b = true → Q .non H) ∧ (b = false → E (.ref G.CW) none H)
theorem cal_need {P : Program} {w : World} {mg : Str → Option Value} {base : Heap} {G : Gx} (T : Txt G mg) (h : Has G mg "need" s_need) : CalX P w G.K mg base 1 "need" (sp_need G) := by
  obtain ⟨f, fd, F, hm⟩ := h
  have nd := sc_need.nd
  refine ⟨f, fd, ["is_so"], ?_, hm, F.kp, F.bindsN fun _ _ _ _ _ _ us hl => match us, hl with | [_], _ => rfl⟩
  refine F.ok sc_need (fun vs H Q E h => by obtain ⟨b, rfl, _⟩ := h; rfl) fun cdv A outer s H vs Q E hr h => ?_
  refine ⟨_, (pss_one (ps_if (pt_not (pt_val (pv 0))) (pss_one (ps_raise rfl (takes_of rfl rfl rfl rfl) (pmk_own PySem.F.excBase_ValueError T.xW T.gW T.kW (raises_own T.bW T.tW) (by exact rfl)))) pss_nil)), ?_⟩
  obtain ⟨b, rfl, k1, k2⟩ := h
  exact ⟨_, rfl, _, rfl, iteN (fun c => k2 c) fun c => k1 c⟩
def sp_codes (G : Gx) : Sp := fun vs H Q _ => ∃ z : Str, vs = [.str z] ∧ z.cps.size ≤ 1000000 ∧ ∀ b H', Same H H' → H b = none → H' b = some (.lst (z.cps.toList.map natV)) → Q (.ref b) H'
theorem cal_codes {P : Program} {w : World} {mg : Str → Option Value} {base : Heap} {G : Gx} (T : Txt G mg) (h : Has G mg "codes" s_codes) : CalN P w G.K mg base 1 "codes" (sp_codes G) := by
  obtain ⟨f, fd, F, hm⟩ := h
  have nd := sc_codes.nd
  refine ⟨f, fd, ["text"], ?_, hm, F.kp, F.bindsN fun _ _ _ _ _ _ us hl => match us, hl with | [_], _ => rfl⟩
  refine F.ok sc_codes (fun vs H Q E h => by obtain ⟨z, rfl, _⟩ := h; rfl) fun cdv A outer s H vs Q E hr h => ?_
  refine ⟨_, PSs.nox (pss_one (ps_ret (pe_lc (own := [("sign", 1)]) rfl nd (pi_str (pv 0)) (blkOk_by (own := [("sign", 1)]) (N := N_codes) (sc := defScope s_codes) (by decide +kernel)) (fun _ _ _ _ _ => (pg_name (i := 1) nd rfl (Or.inl rfl))) (fun _ _ _ _ _ => pts_nil) (fun _ _ _ _ _ => (pe_callB call_ord (by rfl) T.b_ord (by decide +kernel) (pa_cons (pv 1) pa_nil)))))), ?_⟩
  obtain ⟨z, rfl, hz, k⟩ := h
  refine ⟨_, rfl, z, rfl, fun D hD => lc_walk (K := G.K) walk_str (bs := z.cps.toList) (fun _ => true) (fun (n : Nat) => .int (n : Int)) hD (by simp) (by rw [sizeLine_eq]; simp; omega) (fun _ _ => True.intro) (fun i H x H' _ hy => by rw [hy.1]; exact same_refl _) (fun _ _ _ => rfl) (fun j x n H2 H3 Kf Kt hj s2 hy kf kt => ⟨rfl, ?_⟩) fun H4 ys s4 hD4 hdp => ?_⟩
  · obtain ⟨rfl, c, hc, rfl⟩ := hy
    have hc' : z.cps.toList[j]? = some c := by rw [Array.getElem?_toList]; exact hc
    rw [hc'] at hj
    cases hj
    exact iteT (B := Kf H3) ⟨_, rfl, _, rfl, rfl, kt _ _ (same_refl _) rfl (.int _)⟩
  · rw [filter_true'] at hdp
    have e1 : z.cps.toList.map (fun (n : Nat) => PyData.int (n : Int)) = (z.cps.toList.map fun (n : Nat) => (n : Int)).map PyData.int := by rw [List.map_map]; rfl
    rw [e1] at hdp
    have e2 := dpAll_ints_inv hdp
    rw [List.map_map] at e2
    subst e2
    exact k _ _ s4 hD hD4
/-- rows made, their addresses -/
structure Parts (H0 H : Hp) (p : Addr) (L : List (Addr × List Nat)) : Prop where
  top : H p = some (.lst (L.map fun q => V.ref q.1))
  new : H0 p = none
  row : ∀ q ∈ L, H q.1 = some (.lst (q.2.map natV)) ∧ H0 q.1 = none ∧ q.1 ≠ p
  nd : (L.map (·.1)).Nodup
def sp_parted (G : Gx) : Sp := fun vs H Q _ => ∃ (a : Addr) (w : List Nat) (s : Nat), vs = [.ref a, .int s] ∧ SqL G.K H a (w.map natV) ∧ w.length ≤ 10000 ∧ ∀ p L H', Same H H' → Parts H H' p L → L.map (·.2) = cut s w → Q (.ref p) H'
theorem cal_parted {P : Program} {w : World} {mg : Str → Option Value} {base : Heap} {G : Gx} (T : Txt G mg) (h : Has G mg "parted" s_parted) : CalN P w G.K mg base 1 "parted" (sp_parted G) := by
  obtain ⟨f, fd, F, hm⟩ := h
  have nd := sc_parted.nd
  refine ⟨f, fd, ["row", "byte"], ?_, hm, F.kp, F.bindsN fun _ _ _ _ _ _ us hl => match us, hl with | [_, _], _ => rfl⟩
  refine F.ok sc_parted (fun vs H Q E h => by obtain ⟨a, w, s, rfl, _⟩ := h; rfl) fun cdv A outer s H vs Q E hr h => ?_
  refine ⟨_, PSs.nox (pss_cons (ps_set (i := 2) nd rfl (Or.inl rfl) (pe_lst (pa_cons (pe_lst pa_nil) pa_nil)))
      (pss_cons (ps_for PassesOwn.never rfl (pi_list (pv 0)) (pg_name (i := 3) nd rfl (Or.inl rfl))
      (pss_one (ps_if (pt_cmpR op_eq (pv 3) (pv 1) (nomark _)) (pss_one (ps_expr (pe_bm PySem.F.plainAttrs_list PySem.F.slot_list_append PySem.F.type_list_append mt_append (pv 2) (pa_cons (pe_lst pa_nil) pa_nil)))) (pss_one (ps_expr (pe_bm PySem.F.plainAttrs_list PySem.F.slot_list_append PySem.F.type_list_append mt_append (pe_ix ix_list (pv 2) (pe_un un_neg pe_int) (fun _ _ => rfl)) (pa_cons (pv 3) pa_nil)))))))
      (pss_one (ps_ret (pv 2))))), ?_⟩
  obtain ⟨a, w, s, rfl, hs, hl, k⟩ := h
  refine ⟨big_le (by simp), fun q0 hq0 => ⟨big_le (by simp), fun p hp => ?_⟩⟩
  have s1 := (same_new (o := .lst []) hq0).trans (same_new (o := .lst [.ref q0]) hp)
  refine ⟨_, rfl, a, rfl, ⟨_, s1.seq hs⟩, for_list (xs := w.map natV) (fun j σ H2 => ∃ u, σ = [some (.ref a), some (.int (s : Int)), some (.ref p), u] ∧ Same H H2 ∧ ∃ L, Parts H H2 p L ∧ L.map (·.2) = cut s (w.take j) ∧ L.length ≤ j + 1) ⟨none, rfl, s1, [(q0, [])], ⟨upd_same, same_none (same_new hq0) hp, fun q hq => ?_, by simp⟩, rfl, by simp⟩ (fun j σ H2 _ h => h.elim fun u h => h.2.1.seq hs) (fun j x σ H2 hxj h => ?_) fun σ H2 h => ?_⟩
  · have e := List.mem_singleton.mp hq
    subst e
    have np : q0 ≠ p := ne_of_new (upd_same (H := H) (o := .lst [])) hp
    exact ⟨by rw [upd_ne np]; exact upd_same, hq0, np⟩
  · obtain ⟨u, rfl, s2, L, hL, hc, hll⟩ := h
    have hj : j < w.length := by have := (List.getElem?_eq_some_iff.mp hxj).1; rwa [List.length_map] at this
    have hwj : w[j]? = some w[j] := List.getElem?_eq_getElem hj
    generalize w[j] = c at hwj
    have ex : x = natV c := by rw [List.getElem?_map, hwj] at hxj; exact (Option.some.inj hxj).symm
    subst ex
    have tk := take_next' hwj
    refine ⟨_, rfl, _, rfl, rfl, _, rfl, ?_⟩
    have ed : decide (natV c = V.int (s : Int)) = (c == s) := decN
    rw [ed]
    refine iteB (fun c1 => ?_) fun c1 => ?_
    · have c1 : c = s := beq_iff_eq.mp c1
      subst c1
      refine ⟨_, rfl, .inl ⟨rfl, _, .inl (.inl hL.top)⟩, big_le (by simp), fun q hq => ⟨p, _, _, rfl, rfl, same_new hq _ _ hL.top, big_lt (by rw [List.length_map]; omega), _, rfl, ?_, L ++ [(q, [])], ⟨?_, hL.new, ?_, ?_⟩, ?_, by rw [List.length_append]; simp; omega⟩⟩
      · exact same_upd (s2.trans (same_new hq)) hL.new
      · rw [List.map_append]; exact upd_same
      · intro r hr
        rcases (List.mem_append.mp hr) with hr | hr
        · obtain ⟨h1, h2, h3⟩ := hL.row r hr
          exact ⟨by rw [upd_ne h3]; exact same_new hq _ _ h1, h2, h3⟩
        · have e := List.mem_singleton.mp hr
          subst e
          have nq : q ≠ p := ne_of_new' hL.top hq
          exact ⟨by rw [upd_ne nq]; exact upd_same, same_none s2 hq, nq⟩
      · rw [List.map_append]
        refine List.nodup_append.mpr ⟨hL.nd, by simp, fun r hr r' hr' e => ?_⟩
        rw [List.map_singleton, List.mem_singleton] at hr'
        subst hr'
        subst e
        obtain ⟨z, hz, ez⟩ := List.mem_map.mp hr
        have := (hL.row z hz).1
        rw [ez, hq] at this
        cases this
      · rw [List.map_append, hc, tk, cut_snoc_sep]; rfl
    · have c1 : c ≠ s := fun e => by subst e; simp at c1
      have hne : L ≠ [] := fun e => by rw [e] at hc; exact cut_ne _ _ hc.symm
      obtain ⟨I, z, rfl⟩ : ∃ I z, L = I ++ [z] := by
        rcases List.eq_nil_or_concat L with e | ⟨I, z, e⟩
        · exact absurd e hne
        · exact ⟨I, z, by rw [e, List.concat_eq_append]⟩
      obtain ⟨h1, h2, h3⟩ := hL.row z (by simp)
      have nd := hL.nd
      rw [List.map_append, List.map_singleton] at nd
      have hz2 := (List.nodup_append.mp nd).2.2
      have hzl : z.2.length ≤ w.length := by
        have : z.2 ∈ cut s (w.take j) := by rw [← hc]; exact List.mem_map.mpr ⟨z, by simp, rfl⟩
        have := cut_piece_len this
        rw [List.length_take] at this
        omega
      refine ⟨_, rfl, _, rfl, _, _, _, V.ref z.1, rfl, rfl, .inl (.inl hL.top), by rw [List.map_append]; exact atI_last _ _, .inl ⟨rfl, _, .inl (.inl h1)⟩, _, rfl, z.1, _, _, rfl, rfl, h1, big_lt (by rw [List.length_map]; omega), _, rfl, same_upd s2 h2, I ++ [(z.1, z.2 ++ [c])], ⟨?_, hL.new, ?_, ?_⟩, ?_, by rw [List.length_append] at *; simp at *; omega⟩
      · rw [upd_ne h3.symm, hL.top, List.map_append, List.map_append]; rfl
      · intro r hr
        rcases (List.mem_append.mp hr) with hr | hr
        · obtain ⟨g1, g2, g3⟩ := hL.row r (List.mem_append_left _ hr)
          have : r.1 ≠ z.1 := hz2 r.1 (List.mem_map.mpr ⟨r, hr, rfl⟩) z.1 (by simp)
          exact ⟨by rw [upd_ne this]; exact g1, g2, g3⟩
        · have e := List.mem_singleton.mp hr
          subst e
          exact ⟨by rw [List.map_append]; exact upd_same, h2, h3⟩
      · rw [List.map_append]; exact nd
      · rw [List.map_append, List.map_singleton] at hc
        rw [tk, cut_snoc c1 hc.symm, List.map_append]; rfl
  · obtain ⟨u, rfl, s2, L, hL, hc, hll⟩ := h
    rw [List.length_map, List.take_length] at hc
    exact ⟨_, rfl, k p L H2 s2 hL hc⟩
end Sc
namespace Sc
open PySem PySem.Spec PyProof.Rows L2
open C8 (pe_gc)
open Vbpoag (Fact Scan Body cut isDigit field number plain checkedFact firstRead)
def sp_are_digits (G : Gx) : Sp := fun vs H Q _ => ∃ (a : Addr) (w : List Nat), vs = [.ref a] ∧ SqL G.K H a (w.map natV) ∧ w.length ≤ 10000 ∧ ∀ H', Same H H' → Q (.bl (!w.isEmpty && w.all isDigit)) H'
theorem eqv_nats_nil (w : List Nat) : PyData.eqv (natsD w) (.list []) = w.isEmpty := by
  have := eqv_nats w []
  rw [show natsD [] = PyData.list [] from rfl] at this
  rw [this]
  cases w <;> simp
theorem cal_are_digits {P : Program} {w : World} {mg : Str → Option Value} {base : Heap} {G : Gx} (T : Txt G mg) (h : Has G mg "are_digits" s_are_digits) : CalN P w G.K mg base 1 "are_digits" (sp_are_digits G) := by
  obtain ⟨f, fd, F, hm⟩ := h
  have nd := sc_are_digits.nd
  refine ⟨f, fd, ["row"], ?_, hm, F.kp, F.bindsN fun _ _ _ _ _ _ us hl => match us, hl with | [_], _ => rfl⟩
  refine F.ok sc_are_digits (fun vs H Q E h => by obtain ⟨a, w, rfl, _⟩ := h; rfl) fun cdv A outer s H vs Q E hr h => ?_
  refine ⟨_, PSs.nox (pss_one (ps_ret (pe_and (pe_cmpR (op_neD hr.units) (pv 0) (pe_lst pa_nil) (nomark _)) (pe_one (pe_callB (cr_all rfl) (by rfl) T.b_all (by decide +kernel) (pa_cons (pe_lc (own := [("byte", 1)]) rfl nd (pi_list (pv 0)) (blkOk_by (own := [("byte", 1)]) (N := N_are_digits) (sc := defScope s_are_digits) (by decide +kernel)) (fun _ _ _ _ _ => (pg_name (i := 1) nd rfl (Or.inl rfl))) (fun _ _ _ _ _ => pts_nil) (fun _ _ _ _ _ => (pe_and (pe_cmpR op_le (pe_gc rfl T.c_ZERO) (pv 1) (nomark _)) (pe_one (pe_cmpR op_le (pv 1) (pe_op op_add (pe_gc rfl T.c_ZERO) pe_int) (nomark _)))))) pa_nil)))))), ?_⟩
  obtain ⟨a, w, rfl, hs, hl, k⟩ := h
  refine ⟨_, rfl, big_le (by simp), fun p hp => ⟨_, _, bs_dp (same_new hp |>.seq hs), .lst (.inl (.inl upd_same)) .nil, sh_nats w, sh_nil, _, rfl, ?_⟩⟩
  rw [eqv_nats_nil]
  have s1 : Same H (upd H p (.lst [])) := same_new hp
  refine iteB (fun c => ?_) fun c => by rw [c, Bool.false_and] at k; exact k _ s1
  rw [c, Bool.true_and] at k
  refine ⟨_, rfl, a, rfl, ⟨_, s1.seq hs⟩, fun D hD => lc_walk (K := G.K) (walk_list (xs := w.map natV)) (bs := w) (fun _ => true) (fun c => .bool (isDigit c)) hD (by simp) (big_lt (by omega)) (fun H' s => s.seq (s1.seq hs)) (fun i H x H' _ hy => by rw [hy.1]; exact same_refl _) (fun _ _ _ => rfl) (fun j x c H2 H3 Kf Kt hj s2 hy kf kt => ⟨rfl, ?_⟩) fun H4 ys s4 hD4 hdp => ?_⟩
  · obtain ⟨rfl, hx⟩ := hy
    have ex : x = natV c := by rw [List.getElem?_map, hj] at hx; exact (Option.some.inj hx).symm
    subst ex
    refine iteT (B := Kf H3) ⟨_, rfl, _, _, rfl, rfl, _, rfl, iteB (fun c1 => ⟨_, rfl, _, _, rfl, rfl, _, _, rfl, rfl, kt _ _ (same_refl _) rfl ?_⟩) fun c1 => kt _ _ (same_refl _) rfl ?_⟩
    · have c1 := of_decide_eq_true c1
      have : isDigit c = decide ((c : Int) ≤ 48 + 9) := by
        unfold isDigit
        rw [decide_eq_true (show 48 ≤ c by omega), Bool.true_and]
        refine bool_eq_of_iff ?_
        simp only [decide_eq_true_eq]
        omega
      rw [this]
      exact .bl _
    · have c1 := of_decide_eq_false c1
      have : isDigit c = false := by
        unfold isDigit
        rw [decide_eq_false (show ¬ 48 ≤ c by omega), Bool.false_and]
      rw [this]
      exact .bl _
  · rw [filter_true'] at hdp
    have e1 : w.map (fun c => PyData.bool (isDigit c)) = (w.map isDigit).map PyData.bool := by rw [List.map_map]; rfl
    rw [e1] at hdp
    have e2 := dpAll_bls_inv hdp
    subst e2
    refine ⟨D, _, rfl, .inl (.inl hD4), ?_⟩
    have := k _ (s1.trans s4)
    have e3 : (w.map isDigit).all id = w.all isDigit := by rw [List.all_map]; rfl
    rw [e3]
    exact this
def sp_worth (G : Gx) : Sp := fun vs H Q _ => ∃ (a : Addr) (w : List Nat), vs = [.ref a] ∧ SqL G.K H a (w.map natV) ∧ w.all isDigit = true ∧ Q (.int (number w : Int)) H
theorem cal_worth {P : Program} {w : World} {mg : Str → Option Value} {base : Heap} {G : Gx} (T : Txt G mg) (h : Has G mg "worth" s_worth) : CalN P w G.K mg base 1 "worth" (sp_worth G) := by
  obtain ⟨f, fd, F, hm⟩ := h
  have nd := sc_worth.nd
  refine ⟨f, fd, ["row"], ?_, hm, F.kp, F.bindsN fun _ _ _ _ _ _ us hl => match us, hl with | [_], _ => rfl⟩
  refine F.ok sc_worth (fun vs H Q E h => by obtain ⟨a, w, rfl, _⟩ := h; rfl) fun cdv A outer s H vs Q E hr h => ?_
  refine ⟨_, PSs.nox (pss_cons (ps_set (i := 1) nd rfl (Or.inl rfl) pe_int)
      (pss_cons (ps_for PassesOwn.never rfl (pi_list (pv 0)) (pg_name (i := 2) nd rfl (Or.inl rfl))
      (pss_one (ps_set (i := 1) nd rfl (Or.inl rfl) (pe_op op_sub (pe_op op_add (pe_op op_mul pe_int (pv 1)) (pv 2)) (pe_gc rfl T.c_ZERO)))))
      (pss_one (ps_ret (pv 1))))), ?_⟩
  obtain ⟨a, w, rfl, hs, hd, k⟩ := h
  refine ⟨_, rfl, a, rfl, ⟨_, hs⟩, for_list (xs := w.map natV) (fun j σ H2 => ∃ u, σ = [some (.ref a), some (.int (number (w.take j) : Int)), u] ∧ H2 = H) ⟨none, rfl, rfl⟩ (fun j σ H2 _ h => h.elim fun u h => h.2 ▸ hs) (fun j x σ H2 hxj h => ?_) fun σ H2 h => ?_⟩
  · obtain ⟨u, rfl, rfl⟩ := h
    have hj : j < w.length := by have := (List.getElem?_eq_some_iff.mp hxj).1; rwa [List.length_map] at this
    have hwj : w[j]? = some w[j] := List.getElem?_eq_getElem hj
    generalize w[j] = c at hwj
    have ex : x = natV c := by rw [List.getElem?_map, hwj] at hxj; exact (Option.some.inj hxj).symm
    subst ex
    have hc : 48 ≤ c := by
      have := List.all_eq_true.mp hd c (List.mem_of_getElem? hwj)
      simp [isDigit] at this
      omega
    refine ⟨_, rfl, _, _, rfl, rfl, .inl ⟨by decide, by decide⟩, _, rfl, _, _, rfl, rfl, _, _, rfl, rfl, some (natV c), ?_, rfl⟩
    rw [take_next' hwj, number_snoc]
    have : (10 : Int) * (number (w.take j) : Int) + (c : Int) - 48 = ((10 * number (w.take j) + (c - 48) : Nat) : Int) := by omega
    rw [← this]
    rfl
  · obtain ⟨u, rfl, rfl⟩ := h
    rw [List.length_map, List.take_length]
    exact ⟨_, rfl, k⟩
def sp_number_behind (G : Gx) : Sp := fun vs H Q E => ∃ (a : Addr) (w : List Nat) (z : Str) (c m : Nat), vs = [.ref a, .str z, .int m] ∧ z.cps.toList = [c] ∧ 1 ≤ m ∧ SqL G.K H a (w.map natV) ∧ w.length ≤ 10000 ∧ OutW G H E (field c m w) fun n => ∀ H', Same H H' → Q (.int (n : Int)) H'
theorem cal_number_behind {P : Program} {w : World} {mg : Str → Option Value} {base : Heap} {G : Gx} (T : Txt G mg) (h : Has G mg "number_behind" s_number_behind) (c_need : CalX P w G.K mg base 1 "need" (sp_need G)) (c_worth : CalN P w G.K mg base 1 "worth" (sp_worth G)) (c_are_digits : CalN P w G.K mg base 1 "are_digits" (sp_are_digits G)) (c_codes : CalN P w G.K mg base 1 "codes" (sp_codes G)) : CalX P w G.K mg base 2 "number_behind" (sp_number_behind G) := by
  obtain ⟨f, fd, F, hm⟩ := h
  have nd := sc_number_behind.nd
  refine ⟨f, fd, ["word", "letter", "many"], ?_, hm, F.kp, F.bindsN fun _ _ _ _ _ _ us hl => match us, hl with | [_, _, _], _ => rfl⟩
  refine F.ok sc_number_behind (fun vs H Q E h => by obtain ⟨a, w, z, c, m, rfl, _⟩ := h; rfl) fun cdv A outer s H vs Q E hr h => ?_
  refine ⟨_, (pss_cons (ps_expr (pe_cx c_need hr (by decide) rfl (fun σ => passAt (takes_of rfl rfl rfl rfl) σ) (pa_cons (pe_and (pe_cmpR (op_eqD hr.units) (pe_slice sl_list (pv 0) po_none (po_some pe_int)) (pe_cn c_codes hr (by decide) rfl (pa_cons (pv 1) pa_nil)) (nomark _)) (pe_and (pe_cmpR op_eq (pe_callB call_len_seq (by rfl) T.b_len PySem.boot_len (pa_cons (pv 0) pa_nil)) (pe_op op_add (pv 2) pe_int) (nomark _)) (pe_one (pe_cn c_are_digits hr (by decide) rfl (pa_cons (pe_slice sl_list (pv 0) (po_some pe_int) po_none) pa_nil))))) pa_nil)))
      (pss_one (ps_ret (pe_cn c_worth hr (by decide) rfl (pa_cons (pe_slice sl_list (pv 0) (po_some pe_int) po_none) pa_nil))))), ?_⟩
  obtain ⟨a, w, z, c, m, rfl, hz, hm, hs, hl, k1, k2⟩ := h
  have hzs : z.cps.size ≤ 1000000 := by have := congrArg List.length hz; rw [Array.length_toList] at this; simp at this; omega
  refine ⟨_, rfl, _, rfl, a, _, rfl, hs, fun p hp => ?_⟩
  have up1 := upd_same (H := H) (a := p) (o := .lst (cutV (w.map natV) none (some 1)))
  refine ⟨_, rfl, z, rfl, hzs, fun b H2 s2 hb0 hb2 => ⟨_, _, bs_dp (sqL_eq (s2 _ _ up1) (cut_to w (n := 1) rfl)), bs_dp (.inl (.inl hb2)), sh_nats _, sh_nats _, _, rfl, ?_⟩⟩
  rw [eqv_nats, hz]
  have s02 : Same H H2 := (same_new hp).trans s2
  refine iteB (fun c1 => ?_) fun c1 => ⟨false, rfl, fun q => absurd q Bool.false_ne_true, fun _ => k2 ?_ _ s02⟩
  · have c1 := of_decide_eq_true c1
    cases w with
    | nil => cases c1
    | cons c' r =>
      have : c' = c := by simpa using c1
      subst this
      refine ⟨_, rfl, a, _, rfl, .inl (s02.seq hs), _, rfl, _, _, rfl, rfl, rfl, _, rfl, iteB (fun c2 => ?_) fun c2 => ⟨false, rfl, fun q => absurd q Bool.false_ne_true, fun _ => k2 ?_ _ s02⟩⟩
      · have c2 := of_decide_eq_true c2
        have hrm : r.length = m := by
          simp only [V.int.injEq, List.length_map, List.length_cons] at c2
          omega
        refine ⟨_, rfl, _, rfl, a, _, rfl, s02.seq hs, fun p2 hp2 => ?_⟩
        have up2 := upd_same (H := H2) (a := p2) (o := .lst (cutV ((c' :: r).map natV) (some 1) none))
        refine ⟨p2, r, rfl, sqL_eq up2 (cut_from (c' :: r) (n := 1) rfl), by simp at hl; omega, fun H3 s3 => ⟨_, rfl, fun hb => ?_, fun hb => k2 ?_ _ (s02.trans ((same_new hp2).trans s3))⟩⟩
        · have s03 := s02.trans ((same_new hp2).trans s3)
          rw [Bool.and_eq_true] at hb
          refine ⟨_, rfl, _, rfl, a, _, rfl, s03.seq hs, fun p3 hp3 => ?_⟩
          have up3 := upd_same (H := H3) (a := p3) (o := .lst (cutV ((c' :: r).map natV) (some 1) none))
          refine ⟨p3, r, rfl, sqL_eq up3 (cut_from (c' :: r) (n := 1) rfl), hb.2, k1 _ ?_ _ (s03.trans (same_new hp3))⟩
          unfold Vbpoag.field
          simp [hrm, hb.2]
        · unfold Vbpoag.field
          have hne : r.isEmpty = false := by cases r with | nil => simp at hrm; omega | cons _ _ => rfl
          rw [hne] at hb
          simp at hb
          simp only [beq_self_eq_true, Bool.true_and, hrm]
          rw [if_neg]
          simpa using hb
      · have c2 := of_decide_eq_false c2
        unfold Vbpoag.field
        have : ¬ r.length = m := fun e => c2 (by simp only [V.int.injEq, List.length_map, List.length_cons]; omega)
        simp [this]
  · have c1 := of_decide_eq_false c1
    cases w with
    | nil => rfl
    | cons c' r =>
      unfold Vbpoag.field
      have : ¬ c' = c := fun e => c1 (by simp [e])
      simp [this]
def strsV (zs : List Str) : List V := zs.map V.str
def sp_place_among (G : Gx) : Sp := fun vs H Q E => ∃ (a b : Addr) (w : List Nat) (zs : List Str), vs = [.ref a, .ref b] ∧ SqL G.K H a (w.map natV) ∧ (SqL G.K H b (zs.map V.str) ∨ SqT G.K H b (zs.map V.str)) ∧ zs.length ≤ 100 ∧ (∀ z ∈ zs, z.cps.size ≤ 1000) ∧ OutW G H E ((zs.map fun z => z.cps.toList).findIdx? fun c => c == w) fun j => ∀ H', Same H H' → Q (.int (j : Int)) H'
theorem find_index {ws : List (List Nat)} {w : List Nat} {j : Nat} (h : (ws.findIdx? fun c => c == w) = some j) : ws[j]? = some w ∧ ∀ m z, m < j → ws[m]? = some z → z ≠ w := by
  obtain ⟨hj, h1, h2⟩ := List.findIdx?_eq_some_iff_getElem.mp h
  refine ⟨?_, fun m z hm hz e => ?_⟩
  · rw [List.getElem?_eq_getElem hj]
    exact congrArg some (beq_iff_eq.mp h1)
  · have hml : m < ws.length := by omega
    rw [List.getElem?_eq_getElem hml] at hz
    have := h2 m hm
    rw [Option.some.inj hz, e] at this
    simp at this
theorem find_contains {ws : List (List Nat)} {w : List Nat} : (ws.findIdx? fun c => c == w) = none ↔ ws.contains w = false := by
  rw [List.findIdx?_eq_none_iff, List.contains_eq_any_beq, List.any_eq_false]
  refine forall_congr' fun x => forall_congr' fun _ => ?_
  simp only [beq_eq_false_iff_ne, ne_eq, beq_iff_eq]
  exact ⟨fun h e => h e.symm, fun h e => h e.symm⟩
theorem cal_place_among {P : Program} {w : World} {mg : Str → Option Value} {base : Heap} {G : Gx} (T : Txt G mg) (h : Has G mg "place_among" s_place_among) (c_need : CalX P w G.K mg base 1 "need" (sp_need G)) (c_codes : CalN P w G.K mg base 1 "codes" (sp_codes G)) : CalX P w G.K mg base 2 "place_among" (sp_place_among G) := by
  obtain ⟨f, fd, F, hm⟩ := h
  have nd := sc_place_among.nd
  refine ⟨f, fd, ["word", "words"], ?_, hm, F.kp, F.bindsN fun _ _ _ _ _ _ us hl => match us, hl with | [_, _], _ => rfl⟩
  refine F.ok sc_place_among (fun vs H Q E h => by obtain ⟨a, b, w, zs, rfl, _⟩ := h; rfl) fun cdv A outer s H vs Q E hr h => ?_
  refine ⟨_, (pss_cons (ps_setLc (i := 2) (own := [("one", 3)]) rfl nd rfl rfl (sw_true rfl rfl rfl (by decide +kernel)) (pi_seq (pv 1)) (blkOk_by (own := [("one", 3)]) (N := N_place_among) (sc := defScope s_place_among) (by decide +kernel)) (fun _ _ _ _ _ => (pg_name (i := 3) nd rfl (Or.inl rfl))) (fun _ _ _ _ _ => pts_nil) (fun _ _ _ _ _ => (pe_cn c_codes hr (by decide) rfl (pa_cons (pv 3) pa_nil))))
      (pss_cons (ps_expr (pe_cx c_need hr (by decide) rfl (fun σ => passAt (takes_of rfl rfl rfl rfl) σ) (pa_cons (pe_cmpR (op_inD (hu65 hr)) (pv 0) (pv 2) rfl) pa_nil)))
      (pss_one (ps_ret (pe_bm PySem.F.plainAttrs_list PySem.F.slot_list_index PySem.F.type_list_index (mt_indexD (hu65 hr)) (pv 2) (pa_cons (pv 0) pa_nil)))))), ?_⟩
  obtain ⟨a, b, w, zs, rfl, hs, hb, hzl, hz, k1, k2⟩ := h
  have turn : ∀ (j : Nat) (x : V) (z : Str) (H2 H3 : Hp) (Kf : Hp → Prop) (Kt : V → Hp → Prop), zs[j]? = some z → Same H H2 → YAt (zs.map V.str) j H2 x H3 → (∀ p H4, Same H3 H4 → H3 p = none → H4 p = some (.lst (z.cps.toList.map natV)) → Kt (.ref p) H4) → gName 3 x (wipe (L2.start N_place_among [V.ref a, V.ref b]) [3]) H3 fun σ2 H2 => wipe σ2 [3] = wipe (L2.start N_place_among [V.ref a, V.ref b]) [3] ∧ tYes σ2 H2 fun c H3 => if c = true then tCall (sp_codes G) [] E0 (tCons (tVar 3) tNil) σ2 H3 Kt else Kf H3 := by
    intro j x z H2 H3 Kf Kt hj s2 hy kt
    obtain ⟨rfl, hx⟩ := hy
    have ex : x = .str z := by rw [List.getElem?_map, hj] at hx; exact (Option.some.inj hx).symm
    subst ex
    exact ⟨rfl, iteT (B := Kf H3) ⟨_, rfl, z, rfl, Nat.le_trans (hz z (List.mem_of_getElem? hj)) (by decide), fun p H4 s4 hp h4 => kt p H4 s4 hp h4⟩⟩
  rcases hb with hb | hb
  · refine ⟨_, rfl, .inl ⟨b, rfl, ⟨_, hb⟩, fun D hD => lc_rows (walk_list (K := G.K) (xs := zs.map V.str)) (bs := zs) (fun z => z.cps.toList.map natV) hD (by simp) (big_lt (by omega)) (fun H' s => s.seq hb) (fun i H x H' _ hy => by rw [hy.1]; exact same_refl _) turn fun H4 L s4 hD4 hll hrow => ?_⟩⟩
    have hdp : Dp G.K H4 (.ref D) (.list ((zs.map fun z => z.cps.toList).map natsD)) := .lst (.inl (.inl hD4)) (rows_dp (by rw [hll, List.length_map]) fun j c w' h1 h2 => by
      rw [List.getElem?_map] at h2
      cases hzj : zs[j]? with
      | none => rw [hzj] at h2; cases h2
      | some z => rw [hzj] at h2; cases h2; exact hrow j c z h1 hzj)
    have hw := bs_dp (s4.seq hs)
    refine ⟨_, rfl, _, rfl, _, _, hw, hdp, sh_nats w, sh_rows _, _, rfl, fun hb => ?_, fun hb => k2 (find_contains.mpr (by rw [← any_nats]; exact hb)) _ s4⟩
    rw [any_nats] at hb
    cases hf : (zs.map fun z => z.cps.toList).findIdx? fun c => c == w with
    | none => rw [find_contains.mp hf] at hb; cases hb
    | some j =>
      obtain ⟨h1, h2⟩ := find_index hf
      refine ⟨_, rfl, .inl ⟨rfl, _, .inl (.inl hD4)⟩, _, rfl, D, _, natsD w, _, j, natsD w, rfl, rfl, hdp, hw, sh_rows _, sh_nats w, by rw [List.getElem?_map, h1]; rfl, by rw [eqv_nats, decide_eq_true rfl], fun m z' hm hz' => ?_, k1 j hf H4 s4⟩
      rw [List.getElem?_map] at hz'
      cases hwm : (zs.map fun z => z.cps.toList)[m]? with
      | none => rw [hwm] at hz'; cases hz'
      | some y =>
        rw [hwm] at hz'
        cases hz'
        rw [eqv_nats, decide_eq_false (h2 m y hm hwm)]
  · refine ⟨_, rfl, .inr ⟨b, rfl, ⟨_, hb⟩, fun D hD => lc_rows (walk_tup (K := G.K) (xs := zs.map V.str)) (bs := zs) (fun z => z.cps.toList.map natV) hD (by simp) (big_lt (by omega)) (fun H' s => sq_same s hb) (fun i H x H' _ hy => by rw [hy.1]; exact same_refl _) turn fun H4 L s4 hD4 hll hrow => ?_⟩⟩
    have hdp : Dp G.K H4 (.ref D) (.list ((zs.map fun z => z.cps.toList).map natsD)) := .lst (.inl (.inl hD4)) (rows_dp (by rw [hll, List.length_map]) fun j c w' h1 h2 => by
      rw [List.getElem?_map] at h2
      cases hzj : zs[j]? with
      | none => rw [hzj] at h2; cases h2
      | some z => rw [hzj] at h2; cases h2; exact hrow j c z h1 hzj)
    have hw := bs_dp (s4.seq hs)
    refine ⟨_, rfl, _, rfl, _, _, hw, hdp, sh_nats w, sh_rows _, _, rfl, fun hb => ?_, fun hb => k2 (find_contains.mpr (by rw [← any_nats]; exact hb)) _ s4⟩
    rw [any_nats] at hb
    cases hf : (zs.map fun z => z.cps.toList).findIdx? fun c => c == w with
    | none => rw [find_contains.mp hf] at hb; cases hb
    | some j =>
      obtain ⟨h1, h2⟩ := find_index hf
      refine ⟨_, rfl, .inl ⟨rfl, _, .inl (.inl hD4)⟩, _, rfl, D, _, natsD w, _, j, natsD w, rfl, rfl, hdp, hw, sh_rows _, sh_nats w, by rw [List.getElem?_map, h1]; rfl, by rw [eqv_nats, decide_eq_true rfl], fun m z' hm hz' => ?_, k1 j hf H4 s4⟩
      rw [List.getElem?_map] at hz'
      cases hwm : (zs.map fun z => z.cps.toList)[m]? with
      | none => rw [hwm] at hz'; cases hz'
      | some y =>
        rw [hwm] at hz'
        cases hz'
        rw [eqv_nats, decide_eq_false (h2 m y hm hwm)]
end Sc
namespace Sc
open PySem PySem.Spec PyProof.Rows L2
open C8 (pe_gc)
open Vbpoag (Fact Scan Body cut isDigit number plain checkedFact firstRead codeOf office)
def sp_right_fact (G : Gx) : Sp := fun vs H Q E => ∃ (v : V) (r : RF), vs = [v] ∧ Dp G.K H v (tupI r.l) ∧ (r.ok = true → Q v H) ∧ (r.ok = false → E (.ref G.CW) none H)
theorem cal_right_fact {P : Program} {w : World} {mg : Str → Option Value} {base : Heap} {G : Gx} (T : Txt G mg) (h : Has G mg "right_fact" s_right_fact) (c_need : CalX P w G.K mg base 1 "need" (sp_need G)) (c_is_right : CalN P w G.K mg base 3 "is_right" (sp_is_right G)) : CalX P w G.K mg base 4 "right_fact" (sp_right_fact G) := by
  obtain ⟨f, fd, F, hm⟩ := h
  have nd := sc_right_fact.nd
  refine ⟨f, fd, ["fact"], ?_, hm, F.kp, F.bindsN fun _ _ _ _ _ _ us hl => match us, hl with | [_], _ => rfl⟩
  refine F.ok sc_right_fact (fun vs H Q E h => by obtain ⟨v, r, rfl, _⟩ := h; rfl) fun cdv A outer s H vs Q E hr h => ?_
  refine ⟨_, (pss_cons (ps_expr (pe_cx c_need hr (by decide) rfl (fun σ => passAt (takes_of rfl rfl rfl rfl) σ) (pa_cons (pe_cn c_is_right hr (by decide) rfl (pa_cons (pv 0) pa_nil)) pa_nil)))
      (pss_one (ps_ret (pv 0)))), ?_⟩
  obtain ⟨v, r, rfl, hd, k1, k2⟩ := h
  exact ⟨_, rfl, v, r, rfl, hd, _, rfl, fun h => ⟨_, rfl, k1 h⟩, fun h => k2 h⟩
def sp_plain_number (G : Gx) : Sp := fun vs H Q E => ∃ (a : Addr) (w : List Nat), vs = [.ref a] ∧ SqL G.K H a (w.map natV) ∧ w.length ≤ 10000 ∧ OutW G H E (plain 6 w) fun n => ∀ H', Same H H' → Q (.int (n : Int)) H'
theorem cal_plain_number {P : Program} {w : World} {mg : Str → Option Value} {base : Heap} {G : Gx} (T : Txt G mg) (h : Has G mg "plain_number" s_plain_number) (c_need : CalX P w G.K mg base 1 "need" (sp_need G)) (c_worth : CalN P w G.K mg base 1 "worth" (sp_worth G)) (c_are_digits : CalN P w G.K mg base 1 "are_digits" (sp_are_digits G)) : CalX P w G.K mg base 2 "plain_number" (sp_plain_number G) := by
  obtain ⟨f, fd, F, hm⟩ := h
  have nd := sc_plain_number.nd
  refine ⟨f, fd, ["row"], ?_, hm, F.kp, F.bindsN fun _ _ _ _ _ _ us hl => match us, hl with | [_], _ => rfl⟩
  refine F.ok sc_plain_number (fun vs H Q E h => by obtain ⟨a, w, rfl, _⟩ := h; rfl) fun cdv A outer s H vs Q E hr h => ?_
  refine ⟨_, (pss_cons (ps_expr (pe_cx c_need hr (by decide) rfl (fun σ => passAt (takes_of rfl rfl rfl rfl) σ) (pa_cons (pe_and (pe_cn c_are_digits hr (by decide) rfl (pa_cons (pv 0) pa_nil)) (pe_and (pe_or (pe_cmpR op_ne (pe_ix ix_list (pv 0) pe_int (fun _ _ => rfl)) (pe_gc rfl T.c_ZERO) (nomark _)) (pe_one (pe_cmpR op_eq (pe_callB call_len_seq (by rfl) T.b_len PySem.boot_len (pa_cons (pv 0) pa_nil)) pe_int (nomark _)))) (pe_one (pe_cmpR op_le (pe_callB call_len_seq (by rfl) T.b_len PySem.boot_len (pa_cons (pv 0) pa_nil)) pe_int (nomark _))))) pa_nil)))
      (pss_one (ps_ret (pe_cn c_worth hr (by decide) rfl (pa_cons (pv 0) pa_nil))))), ?_⟩
  obtain ⟨a, w, rfl, hs, hl, k1, k2⟩ := h
  rw [plain_eq] at k1 k2
  refine ⟨_, rfl, a, w, rfl, hs, hl, fun H2 s2 => ⟨_, rfl, iteB (fun c1 => ?_) fun c1 => ⟨false, rfl, fun q => absurd q Bool.false_ne_true, fun _ => k2 ?_ _ s2⟩⟩⟩
  · cases w with
    | nil => cases c1
    | cons c r =>
      have hs2 := s2.seq hs
      have e48 : (!decide (natV c = V.int 48)) = ((c :: r).head? != some 48) := by
        have := decN (a := c) (b := 48)
        refine (congrArg Bool.not this).trans ?_
        rw [List.head?_cons]
        refine bool_eq_of_iff ?_
        simp
      have elen : decide (V.int ((((c :: r).map natV).length : Nat) : Int) = V.int 1) = ((c :: r).length == 1) := by
        refine bool_eq_of_iff ?_
        simp only [decide_eq_true_eq, V.int.injEq, List.length_map, List.length_cons, beq_iff_eq]
        omega
      refine cut_E (P := fun H3 => H3 = H2 ∧ ((c :: r).head? != some 48 || (c :: r).length == 1) = true) (fun fin2 => ⟨_, rfl, _, _, _, _, rfl, rfl, hs2, atI_nat (j := 0) rfl, rfl, _, rfl, iteB (fun c2 => ⟨_, rfl, iteT (fin2 H2 ⟨rfl, ?_⟩)⟩) fun c2 => ⟨_, rfl, a, _, rfl, .inl hs2, rfl, _, rfl, iteB (fun c3 => fin2 H2 ⟨rfl, ?_⟩) fun c3 => ⟨false, rfl, fun q => absurd q Bool.false_ne_true, fun _ => k2 ?_ _ s2⟩⟩⟩) fun H3 h3 => ?_
      · rw [← e48, c2, Bool.true_or]
      · rw [← elen, c3, Bool.or_true]
      · rw [if_neg]
        unfold plB
        rw [← e48, c2, ← elen, c3]
        simp
      · obtain ⟨rfl, h48⟩ := h3
        refine ⟨_, rfl, a, _, rfl, .inl hs2, _, _, rfl, rfl, _, rfl, fun hb => ?_, fun hb => k2 ?_ _ s2⟩
        · have hb := of_decide_eq_true hb
          rw [List.length_map] at hb
          have hd : (c :: r).all isDigit = true := by rw [Bool.and_eq_true] at c1; exact c1.2
          refine ⟨_, rfl, a, c :: r, rfl, hs2, hd, k1 _ ?_ _ s2⟩
          rw [if_pos]
          unfold plB
          rw [c1, h48, decide_eq_true (by omega)]
          rfl
        · have hb := of_decide_eq_false hb
          rw [List.length_map] at hb
          rw [if_neg]
          unfold plB
          rw [decide_eq_false (show ¬ (c :: r).length ≤ 6 by omega)]
          simp
  · rw [if_neg]
    unfold plB
    rw [c1]
    simp
def sp_read_worded (G : Gx) : Sp := fun vs H Q E => ∃ (a : Addr) (w : List Nat), vs = [.ref a] ∧ SqL G.K H a (w.map natV) ∧ w.length ≤ 10000 ∧ OutW G H E (firstRead w) fun f => ∀ u H', Same H H' → Dp G.K H' u (factD f) → Q u H'
theorem cal_read_worded {P : Program} {w : World} {mg : Str → Option Value} {base : Heap} {G : Gx} (T : Txt G mg) (h : Has G mg "read_worded" s_read_worded) (c_parted : CalN P w G.K mg base 1 "parted" (sp_parted G)) (c_need : CalX P w G.K mg base 1 "need" (sp_need G)) (c_right_fact : CalX P w G.K mg base 4 "right_fact" (sp_right_fact G)) (c_number_behind : CalX P w G.K mg base 2 "number_behind" (sp_number_behind G)) (c_place_among : CalX P w G.K mg base 2 "place_among" (sp_place_among G)) (c_codes : CalN P w G.K mg base 1 "codes" (sp_codes G)) : CalX P w G.K mg base 5 "read_worded" (sp_read_worded G) := by
  obtain ⟨f, fd, F, hm⟩ := h
  have nd := sc_read_worded.nd
  obtain ⟨a_KINDS, g_KINDS, dp_KINDS⟩ := T.t_KINDS
  refine ⟨f, fd, ["line"], ?_, hm, F.kp, F.bindsN fun _ _ _ _ _ _ us hl => match us, hl with | [_], _ => rfl⟩
  refine F.ok sc_read_worded (fun vs H Q E h => by obtain ⟨a, w, rfl, _⟩ := h; rfl) fun cdv A outer s H vs Q E hr h => ?_
  refine ⟨_, (pss_cons (ps_set (i := 1) nd rfl (Or.inl rfl) (pe_cn c_parted hr (by decide) rfl (pa_cons (pv 0) (pa_cons (pe_gc rfl T.c_BLANK) pa_nil))))
      (pss_cons (ps_expr (pe_cx c_need hr (by decide) rfl (fun σ => passAt (takes_of rfl rfl rfl rfl) σ) (pa_cons (pe_cmpR op_in_seq (pe_callB call_len_seq (by rfl) T.b_len PySem.boot_len (pa_cons (pv 1) pa_nil)) (pe_tup (pa_cons pe_int (pa_cons pe_int pa_nil))) rfl) pa_nil)))
      (pss_cons (ps_par (i := 2) (j := 3) (by rfl) nd rfl rfl (by decide) rfl rfl (pa_cons (pe_cx c_number_behind hr (by decide) rfl (fun σ => passAt (takes_of rfl rfl rfl rfl) σ) (pa_cons (pe_ix ix_list (pv 1) pe_int (fun _ _ => rfl)) (pa_cons pe_str (pa_cons pe_int pa_nil)))) (pa_cons (pe_cx c_number_behind hr (by decide) rfl (fun σ => passAt (takes_of rfl rfl rfl rfl) σ) (pa_cons (pe_ix ix_list (pv 1) pe_int (fun _ _ => rfl)) (pa_cons pe_str (pa_cons pe_int pa_nil)))) pa_nil)) (by rfl))
      (pss_cons (ps_par (i := 4) (j := 5) (by rfl) nd rfl rfl (by decide) rfl rfl (pa_cons (pe_cx c_number_behind hr (by decide) rfl (fun σ => passAt (takes_of rfl rfl rfl rfl) σ) (pa_cons (pe_ix ix_list (pv 1) pe_int (fun _ _ => rfl)) (pa_cons pe_str (pa_cons pe_int pa_nil)))) (pa_cons (pe_cx c_number_behind hr (by decide) rfl (fun σ => passAt (takes_of rfl rfl rfl rfl) σ) (pa_cons (pe_ix ix_list (pv 1) pe_int (fun _ _ => rfl)) (pa_cons pe_str (pa_cons pe_int pa_nil)))) pa_nil)) (by rfl))
      (pss_cons (ps_if (pt_cmpR op_eq (pe_callB call_len_seq (by rfl) T.b_len PySem.boot_len (pa_cons (pv 1) pa_nil)) pe_int (nomark _)) (pss_cons (ps_expr (pe_cx c_need hr (by decide) rfl (fun σ => passAt (takes_of rfl rfl rfl rfl) σ) (pa_cons (pe_cmpR (op_eqD hr.units) (pe_ix ix_list (pv 1) pe_int (fun _ _ => rfl)) (pe_cn c_codes hr (by decide) rfl (pa_cons pe_str pa_nil)) (nomark _)) pa_nil)))
      (pss_one (ps_ret (pe_cx c_right_fact hr (by decide) rfl (fun σ => passAt (takes_of rfl rfl rfl rfl) σ) (pa_cons (pe_tup (pa_cons (pe_gc rfl T.c_LOOK) (pa_cons (pv 2) (pa_cons (pv 3) (pa_cons (pv 4) (pa_cons (pv 5) (pa_cons (pe_cx c_number_behind hr (by decide) rfl (fun σ => passAt (takes_of rfl rfl rfl rfl) σ) (pa_cons (pe_ix ix_list (pv 1) pe_int (fun _ _ => rfl)) (pa_cons pe_str (pa_cons pe_int pa_nil)))) pa_nil))))))) pa_nil))))) pss_nil)
      (pss_cons (ps_par (i := 6) (j := 7) (by rfl) nd rfl rfl (by decide) rfl rfl (pa_cons (pe_cx c_number_behind hr (by decide) rfl (fun σ => passAt (takes_of rfl rfl rfl rfl) σ) (pa_cons (pe_ix ix_list (pv 1) pe_int (fun _ _ => rfl)) (pa_cons pe_str (pa_cons pe_int pa_nil)))) (pa_cons (pe_cx c_place_among hr (by decide) rfl (fun σ => passAt (takes_of rfl rfl rfl rfl) σ) (pa_cons (pe_ix ix_list (pv 1) pe_int (fun _ _ => rfl)) (pa_cons (pe_gc rfl g_KINDS) pa_nil))) pa_nil)) (by rfl))
      (pss_cons (ps_par (i := 8) (j := 9) (by rfl) nd rfl rfl (by decide) rfl rfl (pa_cons (pe_cx c_place_among hr (by decide) rfl (fun σ => passAt (takes_of rfl rfl rfl rfl) σ) (pa_cons (pe_ix ix_list (pv 1) pe_int (fun _ _ => rfl)) (pa_cons (pe_callTy (cr_listS rfl) (by rfl) T.b_list (by decide +kernel) (pa_cons (pe_gc rfl T.c_OFFICES) pa_nil)) pa_nil))) (pa_cons (pe_cx c_number_behind hr (by decide) rfl (fun σ => passAt (takes_of rfl rfl rfl rfl) σ) (pa_cons (pe_ix ix_list (pv 1) pe_int (fun _ _ => rfl)) (pa_cons pe_str (pa_cons pe_int pa_nil)))) pa_nil)) (by rfl))
      (pss_one (ps_ret (pe_cx c_right_fact hr (by decide) rfl (fun σ => passAt (takes_of rfl rfl rfl rfl) σ) (pa_cons (pe_tup (pa_cons (pe_gc rfl T.c_SCAN) (pa_cons (pv 2) (pa_cons (pv 3) (pa_cons (pv 4) (pa_cons (pv 5) (pa_cons (pv 6) (pa_cons (pv 7) (pa_cons (pv 8) (pa_cons (pv 9) pa_nil)))))))))) pa_nil))))))))))), ?_⟩
  obtain ⟨a, w, rfl, hs, hl, k1, k2⟩ := h
  refine ⟨_, rfl, a, w, 32, rfl, hs, hl, fun p L H1 s1 hP hL => ?_⟩
  have hlen : L.length = (cut 32 w).length := by rw [← hL, List.length_map]
  have hrow : ∀ q ∈ L, SqL G.K H1 q.1 (q.2.map natV) ∧ q.2.length ≤ 10000 := fun q hq => ⟨.inl (.inl (hP.row q hq).1), by
    have : q.2 ∈ cut 32 w := by rw [← hL]; exact List.mem_map.mpr ⟨q, hq, rfl⟩
    have := cut_piece_len this
    omega⟩
  refine ⟨_, rfl, p, _, rfl, .inl (.inl (.inl hP.top)), big_le (by simp), fun q0 hq0 => ⟨q0, _, rfl, .inr (.inl (.inl upd_same)), rfl, rfl, _, rfl, fun hb => ?_, fun hb => k2 ?_ _ (s1.trans (same_new hq0))⟩⟩
  all_goals rw [List.length_map] at hb
  all_goals have hb := (in_two L.length 6 8).symm.trans hb
  · have s2 := s1.trans (same_new (o := .tup [.int 6, .int 8]) hq0)
    have st := same_new (o := .tup [.int 6, .int 8]) hq0
    have hrow2 : ∀ q ∈ L, SqL G.K (upd H1 q0 (.tup [.int 6, .int 8])) q.1 (q.2.map natV) ∧ q.2.length ≤ 10000 := fun q hq => ⟨st.seq (hrow q hq).1, (hrow q hq).2⟩
    have htop : (upd H1 q0 (.tup [.int 6, .int 8])) p = some (.lst (L.map fun q => V.ref q.1)) := st _ _ hP.top
    generalize upd H1 q0 (.tup [.int 6, .int 8]) = H2 at *
    have nope : ∀ H', Same H2 H' → firstRead w = none → E (.ref G.CW) none H' := fun H' s' h => k2 h H' (s2.trans s')
    by_cases h6 : L.length = 6
    · obtain ⟨d0, n0, e0, t0, q1, u0, rfl⟩ := six_of h6
      have hcut : cut 32 w = [d0.2, n0.2, e0.2, t0.2, q1.2, u0.2] := hL.symm
      rw [first_look hcut] at k1 nope
      refine ⟨_, rfl, _, _, _, _, rfl, rfl, .inl (.inl htop), rfl, _, d0.2, _, 68, 1, rfl, rfl, by decide, (hrow2 d0 (by simp)).1, (hrow2 d0 (by simp)).2, fun d hd H3 s3 => ?_, fun hd H3 s3 => nope _ s3 (by rw [hd]; rfl)⟩
      rw [hd] at k1 nope
      refine ⟨_, rfl, _, _, _, _, rfl, rfl, .inl (.inl (s3 _ _ htop)), rfl, _, n0.2, _, 78, 4, rfl, rfl, by decide, s3.seq (hrow2 n0 (by simp)).1, (hrow2 n0 (by simp)).2, fun n hn H4 s4 => ?_, fun hn H4 s4 => nope _ (s3.trans s4) (by rw [hn]; rfl)⟩
      rw [hn] at k1 nope
      have s24 := s3.trans s4
      refine ⟨_, _, rfl, _, rfl, _, _, _, _, rfl, rfl, .inl (.inl (s24 _ _ htop)), rfl, _, e0.2, _, 69, 1, rfl, rfl, by decide, s24.seq (hrow2 e0 (by simp)).1, (hrow2 e0 (by simp)).2, fun e he H5 s5 => ?_, fun he H5 s5 => nope _ (s24.trans s5) (by rw [he]; rfl)⟩
      rw [he] at k1 nope
      have s25 := s24.trans s5
      refine ⟨_, rfl, _, _, _, _, rfl, rfl, .inl (.inl (s25 _ _ htop)), rfl, _, t0.2, _, 84, 5, rfl, rfl, by decide, s25.seq (hrow2 t0 (by simp)).1, (hrow2 t0 (by simp)).2, fun t ht H6 s6 => ?_, fun ht H6 s6 => nope _ (s25.trans s6) (by rw [ht]; rfl)⟩
      rw [ht] at k1 nope
      have s26 := s25.trans s6
      refine ⟨_, _, rfl, _, rfl, p, _, rfl, .inl (.inl (.inl (s26 _ _ htop))), rfl, _, rfl, iteT ?_⟩
      refine ⟨_, rfl, _, _, _, _, rfl, rfl, .inl (.inl (s26 _ _ htop)), rfl, _, rfl, by decide, fun b H7 s7 hb0 hb7 => ?_⟩
      have s27 := s26.trans s7
      refine ⟨_, _, bs_dp (s27.seq (hrow2 q1 (by simp)).1), bs_dp (.inl (.inl hb7)), sh_nats _, sh_nats _, _, rfl, fun hb => ?_, fun hb => nope _ s27 ?_⟩
      · rw [eqv_nats] at hb
        have hb : q1.2 = [61] := of_decide_eq_true hb
        refine ⟨_, rfl, _, rfl, _, rfl, _, rfl, _, rfl, _, _, _, _, rfl, rfl, .inl (.inl (s27 _ _ htop)), rfl, _, u0.2, _, 84, 5, rfl, rfl, by decide, s27.seq (hrow2 u0 (by simp)).1, (hrow2 u0 (by simp)).2, fun u hu H8 s8 => ?_, fun hu H8 s8 => nope _ (s27.trans s8) ?_⟩
        · refine ⟨big_le (by simp), fun p2 hp2 => ?_⟩
          have s28 := s27.trans (s8.trans (same_new (o := .tup [.int 1, .int (d : Int), .int (n : Int), .int (e : Int), .int (t : Int), .int (u : Int)]) hp2))
          have hD : Dp G.K (upd H8 p2 (.tup [.int 1, .int (d : Int), .int (n : Int), .int (e : Int), .int (t : Int), .int (u : Int)])) (.ref p2) (tupI (RF.of { device := d, number := n, epoch := e, clock := t, body := .sync u }).l) := tupI_dp (.inl (.inl upd_same))
          refine ⟨.ref p2, RF.of { device := d, number := n, epoch := e, clock := t, body := .sync u }, rfl, hD, fun h => k1 { device := d, number := n, epoch := e, clock := t, body := .sync u } ?_ _ _ (s2.trans s28) ?_, fun h => nope _ s28 ?_⟩
          · simp only [Option.bind]
            rw [if_pos hb, hu]
            exact checked_ok h
          · rw [RF.of_l] at hD; exact hD
          · simp only [Option.bind]
            rw [if_pos hb, hu]
            exact checked_no h
        · simp only [Option.bind]
          rw [if_pos hb, hu]
      · rw [eqv_nats] at hb
        have hb : ¬ q1.2 = [61] := of_decide_eq_false hb
        simp only [Option.bind]
        rw [if_neg hb]
    · have h8 : L.length = 8 := by
        simp only [Bool.or_eq_true, beq_iff_eq] at hb
        omega
      obtain ⟨d0, n0, e0, t0, i0, c0, o0, g0, rfl⟩ := eight_of h8
      have hcut : cut 32 w = [d0.2, n0.2, e0.2, t0.2, i0.2, c0.2, o0.2, g0.2] := hL.symm
      rw [first_scan hcut] at k1 nope
      refine ⟨_, rfl, _, _, _, _, rfl, rfl, .inl (.inl htop), rfl, _, d0.2, _, 68, 1, rfl, rfl, by decide, (hrow2 d0 (by simp)).1, (hrow2 d0 (by simp)).2, fun d hd H3 s3 => ?_, fun hd H3 s3 => nope _ s3 (by rw [hd]; rfl)⟩
      rw [hd] at k1 nope
      refine ⟨_, rfl, _, _, _, _, rfl, rfl, .inl (.inl (s3 _ _ htop)), rfl, _, n0.2, _, 78, 4, rfl, rfl, by decide, s3.seq (hrow2 n0 (by simp)).1, (hrow2 n0 (by simp)).2, fun n hn H4 s4 => ?_, fun hn H4 s4 => nope _ (s3.trans s4) (by rw [hn]; rfl)⟩
      rw [hn] at k1 nope
      have s24 := s3.trans s4
      refine ⟨_, _, rfl, _, rfl, _, _, _, _, rfl, rfl, .inl (.inl (s24 _ _ htop)), rfl, _, e0.2, _, 69, 1, rfl, rfl, by decide, s24.seq (hrow2 e0 (by simp)).1, (hrow2 e0 (by simp)).2, fun e he H5 s5 => ?_, fun he H5 s5 => nope _ (s24.trans s5) (by rw [he]; rfl)⟩
      rw [he] at k1 nope
      have s25 := s24.trans s5
      refine ⟨_, rfl, _, _, _, _, rfl, rfl, .inl (.inl (s25 _ _ htop)), rfl, _, t0.2, _, 84, 5, rfl, rfl, by decide, s25.seq (hrow2 t0 (by simp)).1, (hrow2 t0 (by simp)).2, fun t ht H6 s6 => ?_, fun ht H6 s6 => nope _ (s25.trans s6) (by rw [ht]; rfl)⟩
      rw [ht] at k1 nope
      have s26 := s25.trans s6
      refine ⟨_, _, rfl, _, rfl, p, _, rfl, .inl (.inl (.inl (s26 _ _ htop))), rfl, _, rfl, iteF ?_⟩
      refine ⟨_, rfl, _, _, _, _, rfl, rfl, .inl (.inl (s26 _ _ htop)), rfl, _, i0.2, _, 73, 2, rfl, rfl, by decide, s26.seq (hrow2 i0 (by simp)).1, (hrow2 i0 (by simp)).2, fun i hi H7 s7 => ?_, fun hi H7 s7 => nope _ (s26.trans s7) (by rw [hi]; rfl)⟩
      rw [hi] at k1 nope
      have s27 := s26.trans s7
      refine ⟨_, rfl, _, _, _, _, rfl, rfl, .inl (.inl (s27 _ _ htop)), rfl, c0.1, a_KINDS, c0.2, zKINDS, rfl, s27.seq (hrow2 c0 (by simp)).1, .inr (tab_strs (dp_KINDS _)), by decide, kinds_size, ?_⟩
      rw [← code_find]
      refine ⟨fun c hc H8 s8 => ?_, fun hc H8 s8 => nope _ (s27.trans s8) (by rw [hc]; rfl)⟩
      rw [hc] at k1 nope
      have s28 := s27.trans s8
      refine ⟨_, _, rfl, _, rfl, _, _, _, _, rfl, rfl, .inl (.inl (s28 _ _ htop)), rfl, _, rfl, by decide, fun b hb0 => ?_⟩
      have s29 := s28.trans (same_new (o := .lst (zOFFS.map V.str)) hb0)
      refine ⟨o0.1, b, o0.2, zOFFS, rfl, s29.seq (hrow2 o0 (by simp)).1, .inl (.inl (.inl upd_same)), by decide, offs_size, ?_⟩
      rw [← office_find]
      refine ⟨fun o ho H10 s10 => ?_, fun ho H10 s10 => nope _ (s29.trans s10) (by rw [ho]; rfl)⟩
      rw [ho] at k1 nope
      have s2a := s29.trans s10
      refine ⟨_, rfl, _, _, _, _, rfl, rfl, .inl (.inl (s2a _ _ htop)), rfl, _, g0.2, _, 83, 6, rfl, rfl, by decide, s2a.seq (hrow2 g0 (by simp)).1, (hrow2 g0 (by simp)).2, fun g hg H11 s11 => ?_, fun hg H11 s11 => nope _ (s2a.trans s11) (by rw [hg]; rfl)⟩
      rw [hg] at k1 nope
      refine ⟨_, _, rfl, _, rfl, _, rfl, _, rfl, _, rfl, _, rfl, _, rfl, _, rfl, _, rfl, big_le (by simp), fun p2 hp2 => ?_⟩
      have s2b := s2a.trans (s11.trans (same_new (o := .tup [.int 0, .int (d : Int), .int (n : Int), .int (e : Int), .int (t : Int), .int (i : Int), .int (c : Int), .int (o : Int), .int (g : Int)]) hp2))
      have hD : Dp G.K (upd H11 p2 (.tup [.int 0, .int (d : Int), .int (n : Int), .int (e : Int), .int (t : Int), .int (i : Int), .int (c : Int), .int (o : Int), .int (g : Int)])) (.ref p2) (tupI (RF.of { device := d, number := n, epoch := e, clock := t, body := .scan { item := i, kind := c, office := o, sign := g } }).l) := tupI_dp (.inl (.inl upd_same))
      refine ⟨.ref p2, RF.of { device := d, number := n, epoch := e, clock := t, body := .scan { item := i, kind := c, office := o, sign := g } }, rfl, hD, fun h => k1 _ (checked_ok h) _ _ (s2.trans s2b) ?_, fun h => nope _ s2b (checked_no h)⟩
      rw [RF.of_l] at hD
      exact hD
  · refine first_other ?_ ?_
    · intro e; rw [← hlen] at e; rw [e] at hb; cases hb
    · intro e; rw [← hlen] at e; rw [e] at hb; cases hb
end Sc
namespace Sc
open PySem PySem.Spec PyProof.Rows L2
open C8 (pe_gc)
open Vbpoag (Fact Scan Body cut isDigit number checkedFact firstRead codeOf office)
def sp_values_of (G : Gx) : Sp := fun vs H Q E => ∃ (a : Addr) (w : List Nat), vs = [.ref a] ∧ SqL G.K H a (w.map natV) ∧ w.length ≤ 9000 ∧ OutW G H E (pyVals (cut 59 w) []) fun ps => ∀ (d : Addr) (L : List (Nat × Addr × List Nat)) (H' : Hp), Same H H' → H d = none → Named H' d L → valsOf L = ps → Q (.ref d) H'
theorem pyVals_cons (p : List Nat) (r : List (List Nat)) (acc : List (Nat × List Nat)) : pyVals (p :: r) acc = match splitC p with
    | none => none
    | some (a, b) => match keyNames.findIdx? (fun c => c == a) with
      | none => none
      | some j => if (acc.any fun q => q.1 == j) = true then none else pyVals r (acc ++ [(j, b)]) := by
  rw [pyVals]
  all_goals rfl
theorem cal_values_of {P : Program} {w : World} {mg : Str → Option Value} {base : Heap} {G : Gx} (T : Txt G mg) (h : Has G mg "values_of" s_values_of) (c_parted : CalN P w G.K mg base 1 "parted" (sp_parted G)) (c_need : CalX P w G.K mg base 1 "need" (sp_need G)) (c_place_among : CalX P w G.K mg base 2 "place_among" (sp_place_among G)) : CalX P w G.K mg base 3 "values_of" (sp_values_of G) := by
  obtain ⟨f, fd, F, hm⟩ := h
  have nd := sc_values_of.nd
  obtain ⟨a_NAMES, g_NAMES, dp_NAMES⟩ := T.t_NAMES
  refine ⟨f, fd, ["line"], ?_, hm, F.kp, F.bindsN fun _ _ _ _ _ _ us hl => match us, hl with | [_], _ => rfl⟩
  refine F.ok sc_values_of (fun vs H Q E h => by obtain ⟨a, w, rfl, _⟩ := h; rfl) fun cdv A outer s H vs Q E hr h => ?_
  refine ⟨_, (pss_cons (ps_set (i := 1) nd rfl (Or.inl rfl) pe_dnewK)
      (pss_cons (ps_for (passes_of rfl) rfl (pi_list (pe_cn c_parted hr (by decide) rfl (pa_cons (pv 0) (pa_cons (pe_gc rfl T.c_SEMICOLON) pa_nil)))) (pg_name (i := 2) nd rfl (Or.inl rfl))
      (pss_cons (ps_expr (pe_cx c_need hr (by decide) rfl (fun σ => passAt (takes_of rfl rfl rfl rfl) σ) (pa_cons (pe_cmpR op_in_seq (pe_gc rfl T.c_COLON) (pv 2) rfl) pa_nil)))
      (pss_cons (ps_set (i := 3) nd rfl (Or.inl rfl) (pe_bm PySem.F.plainAttrs_list PySem.F.slot_list_index PySem.F.type_list_index mt_index (pv 2) (pa_cons (pe_gc rfl T.c_COLON) pa_nil)))
      (pss_cons (ps_set (i := 4) nd rfl (Or.inl rfl) (pe_ix ix_tup (pe_gc rfl g_NAMES) (pe_cx c_place_among hr (by decide) rfl (fun σ => passAt (takes_of rfl rfl rfl rfl) σ) (pa_cons (pe_slice sl_list (pv 2) po_none (po_some (pv 3))) (pa_cons (pe_gc rfl g_NAMES) pa_nil))) (fun _ _ => rfl)))
      (pss_cons (ps_expr (pe_cx c_need hr (by decide) rfl (fun σ => passAt (takes_of rfl rfl rfl rfl) σ) (pa_cons (pe_cmp (pc_dnotin (hu_of hr) (pv 4) (pv 1)) rfl) pa_nil)))
      (pss_one (ps_dput (hu_of hr) (pv 1) (pv 4) (pe_slice sl_list (pv 2) (po_some (pe_op op_add (pv 3) pe_int)) po_none) rfl)))))))
      (pss_one (ps_ret (pv 1))))), ?_⟩
  obtain ⟨a, w, rfl, hs, hl, k1, k2⟩ := h
  refine fun d hd0 => ?_
  have s0 : Same H (upd H d (.dK [])) := same_new hd0
  have hdt : (upd H d (.dK [])) d = some (.dK []) := upd_same
  generalize upd H d (.dK []) = H0 at s0 hdt
  refine ⟨_, rfl, a, w, 59, rfl, s0.seq hs, by omega, fun p L0 H1 s1 hP hL0 => ⟨p, rfl, ⟨_, .inl (.inl hP.top)⟩, for_list (xs := L0.map fun q => V.ref q.1) (fun j σ H2 => ∃ u2 u3 u4, σ = [some (.ref a), some (.ref d), u2, u3, u4] ∧ SX d H1 H2 ∧ ∃ L, Named H2 d L ∧ (∀ q ∈ L, q.2.1 ≠ d) ∧ L.length ≤ j ∧ pyVals (cut 59 w) [] = pyVals (L0.map (·.2) |>.drop j) (valsOf L)) ⟨none, none, none, rfl, SX.of (same_refl _), [], ⟨s1 _ _ hdt, fun q hq => (by cases hq)⟩, fun q hq => (by cases hq), Nat.le_refl _, by rw [hL0]; rfl⟩ (fun j σ H2 _ h => ?_) (fun j x σ H2 hxj h => ?_) fun σ H2 h => ?_⟩⟩
  all_goals have hpd : p ≠ d := ne_of_new' hdt hP.new
  all_goals have hl0 : L0.length ≤ 9001 := (by have e := congrArg List.length hL0; have c := cut_length 59 w; rw [List.length_map] at e; omega)
  · obtain ⟨_, _, _, _, sx, _⟩ := h
    exact sx.sqL hpd (.inl (.inl hP.top))
  · obtain ⟨u2, u3, u4, rfl, sx, L, hN, hne, hLl, hpy⟩ := h
    have hj : j < L0.length := by have := (List.getElem?_eq_some_iff.mp hxj).1; rwa [List.length_map] at this
    have hrj : L0[j]? = some L0[j] := List.getElem?_eq_getElem hj
    generalize L0[j] = r at hrj
    have ex : x = .ref r.1 := by rw [List.getElem?_map, hrj] at hxj; exact (Option.some.inj hxj).symm
    subst ex
    have hmem := List.mem_of_getElem? hrj
    obtain ⟨hr1, hr2, hr3⟩ := hP.row r hmem
    have hrd : r.1 ≠ d := ne_of_new' hdt hr2
    have hrow := sx.lst hrd hr1
    have hrl : r.2.length ≤ 9000 := by
      have : r.2 ∈ cut 59 w := by rw [← hL0]; exact List.mem_map.mpr ⟨r, hmem, rfl⟩
      have := cut_piece_len this
      omega
    have hdrop : (L0.map (·.2)).drop j = r.2 :: (L0.map (·.2)).drop (j + 1) := by
      rw [List.drop_eq_getElem_cons (by rw [List.length_map]; exact hj)]
      congr 1
      have : (L0.map (·.2))[j]? = some r.2 := by rw [List.getElem?_map, hrj]; rfl
      rw [List.getElem?_eq_getElem (by rw [List.length_map]; exact hj)] at this
      exact Option.some.inj this
    rw [hdrop, pyVals_cons] at hpy
    have s02 : Same H H2 := fun b u hb => sx b u (fun e => by rw [e, hd0] at hb; cases hb) (s1 _ _ (s0 _ _ hb))
    have nope : ∀ H', Same H2 H' → pyVals (cut 59 w) [] = none → E (.ref G.CW) none H' := fun H' s' h => k2 h H' (s02.trans s')
    refine ⟨_, rfl, r.1, _, rfl, .inl (.inl (.inl hrow)), rfl, flat_nats _, _, rfl, fun hb => ?_, fun hb => nope _ (same_refl _) ?_⟩
    · have hb : r.2.contains 58 = true := (in_nats 58 r.2).symm.trans hb
      have h58 : 58 ∈ r.2 := by simpa using hb
      obtain ⟨hi1, hi2⟩ := idx_at h58
      have hsp : splitC r.2 = some (r.2.take (r.2.idxOf 58), r.2.drop (r.2.idxOf 58 + 1)) := by unfold splitC; rw [if_pos h58]
      rw [hsp] at hpy
      generalize hat : r.2.idxOf 58 = i at hi1 hi2 hpy
      refine ⟨_, rfl, .inl ⟨rfl, _, .inl (.inl hrow)⟩, r.1, _, _, i, natV 58, rfl, rfl, .inl (.inl hrow), rfl, flat_nats _, by rw [List.getElem?_map, hi1]; rfl, rfl, fun m z' hm hz' => ?_, ?_⟩
      · rw [List.getElem?_map] at hz'
        cases hzm : r.2[m]? with
        | none => rw [hzm] at hz'; cases hz'
        | some z =>
          rw [hzm] at hz'
          cases hz'
          have := hi2 m z hm hzm
          show ((z : Int) == 58) = false
          rw [beq_eq_false_iff_ne]
          omega
      refine ⟨_, rfl, _, rfl, _, rfl, r.1, _, rfl, .inl (.inl hrow), fun q1 hq1 => ?_⟩
      have up1 := upd_same (H := H2) (a := q1) (o := .lst (cutV (r.2.map natV) none (some (i : Int))))
      have st1 := same_new (o := .lst (cutV (r.2.map natV) none (some (i : Int)))) hq1
      refine ⟨q1, a_NAMES, r.2.take i, zNAMES, rfl, sqL_eq up1 (cut_to r.2 (n := i) rfl), .inr (tab_strs (dp_NAMES _)), by decide, names_size, ?_⟩
      rw [names_keys]
      cases hf : keyNames.findIdx? (fun c => c == r.2.take i) with
      | none =>
        refine ⟨fun n hn => (by cases hn), fun _ H3 s3 => nope _ (st1.trans s3) ?_⟩
        rw [hpy]
        dsimp only
        rw [hf]
      | some jn =>
        have hjn : jn < 9 := (List.findIdx?_eq_some_iff_getElem.mp hf).1
        rw [hpy] at nope k1
        dsimp only at nope k1 hpy
        rw [hf] at nope k1 hpy
        dsimp only at nope k1 hpy
        refine ⟨fun n hn H3 s3 => ?_, fun hn => by cases hn⟩
        cases hn
        have s23 := st1.trans s3
        have hnm : zNAMES[jn]? = some (nmS jn) := by
          unfold nmS
          simp only [List.getD_eq_getElem?_getD]
          have : jn < zNAMES.length := hjn
          rw [List.getElem?_eq_getElem this]; rfl
        have hN3 := hN.same s23
        refine ⟨_, _, _, _, rfl, rfl, tab_strs (zs := zNAMES) (dp_NAMES _), at_nat (j := jn) (by rw [List.getElem?_map, hnm]; rfl) rfl, ?_⟩
        refine ⟨_, rfl, _, rfl, d, _, rfl, .inl ⟨_, nmK jn, .inl hN3.top, rfl, rfl⟩, _, rfl, fun hb2 => ?_, fun hb2 => nope _ s23 ?_⟩
        · rw [hN.none hjn] at hb2
          have hany : ((valsOf L).any fun q => q.1 == jn) = false := by
            rw [any_find]
            rw [getV_find] at hb2
            cases hq : L.find? fun q => q.1 == jn with
            | none => rfl
            | some q => rw [hq] at hb2; cases hb2
          rw [if_neg (by rw [hany]; exact Bool.false_ne_true)] at hpy
          refine ⟨_, rfl, _, rfl, _, _, rfl, rfl, _, rfl, r.1, _, rfl, .inl (.inl (s23 _ _ hrow)), fun q2 hq2 => ?_⟩
          have st2 := same_new (o := .lst (cutV (r.2.map natV) (some ((i : Int) + 1)) none)) hq2
          have hN4 := hN3.same st2
          have nq2 : q2 ≠ d := ne_of_new' hN3.top hq2
          have hnone : valV (kvsOf L) (nmK jn) = none := by
            have := hN.none hjn
            rw [getV_find] at this hb2
            cases hv : valV (kvsOf L) (nmK jn) with
            | none => rfl
            | some v => rw [hv] at this; rw [← this] at hb2; cases hb2
          refine ⟨_, rfl, _, rfl, d, _, rfl, .inl ⟨_, nmK jn, hN4.top, rfl, big_lt (by unfold kvsOf; rw [List.length_map]; omega), rfl⟩, _, _, _, rfl, ((sx.trans (SX.of s23)).trans (SX.of st2)).upd, L ++ [(jn, q2, r.2.drop (i + 1))], ⟨?_, fun q hq => ?_⟩, fun q hq => ?_, by rw [List.length_append]; simp; omega, ?_⟩
          · rw [putK_new _ hnone]
            have : kvsOf (L ++ [(jn, q2, r.2.drop (i + 1))]) = kvsOf L ++ [(nmK jn, V.ref q2)] := by unfold kvsOf; rw [List.map_append]; rfl
            rw [this]
            exact upd_same
          · rcases (List.mem_append.mp hq) with hq | hq
            · rw [upd_ne (hne q hq)]
              exact hN4.row q hq
            · have e := List.mem_singleton.mp hq
              subst e
              refine ⟨?_, hjn, by rw [List.length_drop]; omega⟩
              rw [upd_ne nq2, upd_same, cut_from r.2 (n := i + 1) (by omega)]
          · rcases (List.mem_append.mp hq) with hq | hq
            · exact hne q hq
            · have e := List.mem_singleton.mp hq
              subst e
              exact nq2
          · rw [hpy]
            unfold valsOf
            rw [List.map_append]
            rfl
        · rw [if_pos]
          rw [any_find]
          rw [hN.none hjn, getV_find] at hb2
          cases hq : L.find? fun q => q.1 == jn with
          | none => rw [hq] at hb2; cases hb2
          | some q => rfl
    · have hb : r.2.contains 58 = false := (in_nats 58 r.2).symm.trans hb
      have h58 : 58 ∉ r.2 := by simpa using hb
      rw [hpy]
      unfold splitC
      rw [if_neg h58]
  · obtain ⟨u2, u3, u4, rfl, sx, L, hN, hne, hLl, hpy⟩ := h
    rw [List.length_map, ← List.length_map (f := (·.2)) (as := L0), List.drop_length] at hpy
    refine ⟨_, rfl, k1 (valsOf L) hpy d L H2 (fun b u hb => sx b u (fun e => by rw [e, hd0] at hb; cases hb) (s1 _ _ (s0 _ _ hb))) hd0 hN rfl⟩
end Sc
namespace Sc
open PySem PySem.Spec PyProof.Rows L2
open C8 (pe_gc)
open Vbpoag (Fact Scan Body cut isDigit number checkedFact firstRead codeOf office)
def sp_read_named (G : Gx) : Sp := fun vs H Q E => ∃ (a : Addr) (w : List Nat), vs = [.ref a] ∧ SqL G.K H a (w.map natV) ∧ w.length ≤ 9000 ∧ OutW G H E (pyNamed w) fun f => ∀ u H', Same H H' → Dp G.K H' u (factD f) → Q u H'
theorem cal_read_named {P : Program} {w : World} {mg : Str → Option Value} {base : Heap} {G : Gx} (T : Txt G mg) (h : Has G mg "read_named" s_read_named) (c_values_of : CalX P w G.K mg base 3 "values_of" (sp_values_of G)) (c_need : CalX P w G.K mg base 1 "need" (sp_need G)) (c_right_fact : CalX P w G.K mg base 4 "right_fact" (sp_right_fact G)) (c_plain_number : CalX P w G.K mg base 2 "plain_number" (sp_plain_number G)) (c_place_among : CalX P w G.K mg base 2 "place_among" (sp_place_among G)) (c_codes : CalN P w G.K mg base 1 "codes" (sp_codes G)) : CalX P w G.K mg base 5 "read_named" (sp_read_named G) := by
  obtain ⟨f, fd, F, hm⟩ := h
  have nd := sc_read_named.nd
  obtain ⟨a_KINDS, g_KINDS, dp_KINDS⟩ := T.t_KINDS
  obtain ⟨a_SCAN_NAMES, g_SCAN_NAMES, dp_SCAN_NAMES⟩ := T.t_SCAN_NAMES
  obtain ⟨a_LOOK_NAMES, g_LOOK_NAMES, dp_LOOK_NAMES⟩ := T.t_LOOK_NAMES
  refine ⟨f, fd, ["line"], ?_, hm, F.kp, F.bindsN fun _ _ _ _ _ _ us hl => match us, hl with | [_], _ => rfl⟩
  refine F.ok sc_read_named (fun vs H Q E h => by obtain ⟨a, w, rfl, _⟩ := h; rfl) fun cdv A outer s H vs Q E hr h => ?_
  refine ⟨_, (pss_cons (ps_set (i := 1) nd rfl (Or.inr rfl) (pe_cx c_values_of hr (by decide) rfl (fun σ => passAt (takes_of rfl rfl rfl rfl) σ) (pa_cons (pv 0) pa_nil)))
      (pss_cons (ps_set (i := 2) nd rfl (Or.inl rfl) (pe_callTy call_tuple_of (by rfl) T.b_tuple (by decide +kernel) (pa_cons (pe_callB cr_sortedS (by rfl) T.b_sorted (by decide +kernel) (pa_cons (pe_lock (pe_lc (own := [("name", 7)]) rfl nd (pi_keys (pv 1)) (blkOk_by (own := [("name", 7)]) (N := N_read_named) (sc := defScope s_read_named) (by decide +kernel)) (fun _ _ _ _ _ => (pg_name (i := 7) nd rfl (Or.inl rfl))) (fun _ _ _ _ _ => pts_one (pt_cmpR op_ne (pv 7) pe_str (nomark _))) (fun _ _ _ _ _ => (pv 7)))) pa_nil)) pa_nil)))
      (pss_cons (ps_expr (pe_cx c_need hr (by decide) rfl (fun σ => passAt (takes_of rfl rfl rfl rfl) σ) (pa_cons (pe_cmpR (op_inTD (hu65 hr)) (pv 2) (pe_tup (pa_cons (pe_gc rfl g_SCAN_NAMES) (pa_cons (pe_gc rfl g_LOOK_NAMES) pa_nil))) rfl) pa_nil)))
      (pss_cons (ps_setLcX (i := 3) (own := [("name", 7)]) rfl nd rfl rfl (sw_true rfl rfl rfl (by decide +kernel)) (takes_of rfl rfl rfl rfl) (pi_tup (pe_tup (pa_cons pe_str (pa_cons pe_str (pa_cons pe_str (pa_cons pe_str pa_nil)))))) (blkOk_by (own := [("name", 7)]) (N := N_read_named) (sc := defScope s_read_named) (by decide +kernel)) (fun _ _ _ _ _ => (pg_name (i := 7) nd rfl (Or.inl rfl))) (fun _ _ _ _ _ => pts_nil) (fun _ _ _ _ _ _ pw => (pe_cx c_plain_number hr (by decide) rfl pw (pa_cons (pe_dget (hu_of hr) (pv 1) (pv 7) (fun _ _ => rfl)) pa_nil))))
      (pss_cons (ps_if (pt_cmpR (op_eqD hr.units) (pv 2) (pe_gc rfl g_LOOK_NAMES) (nomark _)) (pss_cons (ps_expr (pe_cx c_need hr (by decide) rfl (fun σ => passAt (takes_of rfl rfl rfl rfl) σ) (pa_cons (pe_and (pe_cmp (pc_dnotin (hu_of hr) pe_str (pv 1)) rfl) (pe_one (pe_cmpR (op_eqD hr.units) (pe_dget (hu_of hr) (pv 1) pe_str (fun _ _ => rfl)) (pe_cn c_codes hr (by decide) rfl (pa_cons (pe_gc rfl T.c_LOOK_NAME) pa_nil)) (nomark _)))) pa_nil)))
      (pss_one (ps_ret (pe_cx c_right_fact hr (by decide) rfl (fun σ => passAt (takes_of rfl rfl rfl rfl) σ) (pa_cons (pe_callTy call_tuple_of (by rfl) T.b_tuple (by decide +kernel) (pa_cons (pe_op op_cat (pe_op op_cat (pe_lst (pa_cons (pe_gc rfl T.c_LOOK) pa_nil)) (pv 3)) (pe_lst (pa_cons (pe_cx c_plain_number hr (by decide) rfl (fun σ => passAt (takes_of rfl rfl rfl rfl) σ) (pa_cons (pe_dget (hu_of hr) (pv 1) pe_str (fun _ _ => rfl)) pa_nil)) pa_nil))) pa_nil)) pa_nil))))) pss_nil)
      (pss_cons (ps_par (i := 4) (j := 5) (by rfl) nd rfl rfl (by decide) rfl rfl (pa_cons (pe_cx c_plain_number hr (by decide) rfl (fun σ => passAt (takes_of rfl rfl rfl rfl) σ) (pa_cons (pe_dget (hu_of hr) (pv 1) pe_str (fun _ _ => rfl)) pa_nil)) (pa_cons (pe_cx c_place_among hr (by decide) rfl (fun σ => passAt (takes_of rfl rfl rfl rfl) σ) (pa_cons (pe_dget (hu_of hr) (pv 1) pe_str (fun _ _ => rfl)) (pa_cons (pe_gc rfl g_KINDS) pa_nil))) pa_nil)) (by rfl))
      (pss_cons (ps_set (i := 6) nd rfl (Or.inl rfl) pe_int)
      (pss_cons (ps_if (pt_cmp (pc_din (hu_of hr) pe_str (pv 1)) rfl) (pss_cons (ps_set (i := 6) nd rfl (Or.inl rfl) (pe_cx c_plain_number hr (by decide) rfl (fun σ => passAt (takes_of rfl rfl rfl rfl) σ) (pa_cons (pe_dget (hu_of hr) (pv 1) pe_str (fun _ _ => rfl)) pa_nil)))
      (pss_one (ps_expr (pe_cx c_need hr (by decide) rfl (fun σ => passAt (takes_of rfl rfl rfl rfl) σ) (pa_cons (pe_cmpR op_gt (pv 6) pe_int (nomark _)) pa_nil))))) pss_nil)
      (pss_one (ps_ret (pe_cx c_right_fact hr (by decide) rfl (fun σ => passAt (takes_of rfl rfl rfl rfl) σ) (pa_cons (pe_callTy call_tuple_of (by rfl) T.b_tuple (by decide +kernel) (pa_cons (pe_op op_cat (pe_op op_cat (pe_lst (pa_cons (pe_gc rfl T.c_SCAN) pa_nil)) (pv 3)) (pe_lst (pa_cons (pv 4) (pa_cons (pv 5) (pa_cons (pe_cx c_place_among hr (by decide) rfl (fun σ => passAt (takes_of rfl rfl rfl rfl) σ) (pa_cons (pe_dget (hu_of hr) (pv 1) pe_str (fun _ _ => rfl)) (pa_cons (pe_callTy (cr_listS rfl) (by rfl) T.b_list (by decide +kernel) (pa_cons (pe_gc rfl T.c_OFFICES) pa_nil)) pa_nil))) (pa_cons (pv 6) pa_nil)))))) pa_nil)) pa_nil)))))))))))), ?_⟩
  obtain ⟨a, w, rfl, hs, hl, k1, k2⟩ := h
  cases hv : pyVals (cut 59 w) [] with
  | none => exact ⟨_, rfl, a, w, rfl, hs, hl, fun n hn => (by rw [hv] at hn; cases hn), fun _ H' s' => k2 (pyNamed_none hv) _ s'⟩
  | some ps =>
    obtain ⟨new, hnew, _, pnd, plt⟩ := pyVals_some _ _ _ hv (by simp) (fun q hq => by cases hq)
    have ple := ps_le pnd plt
    rw [pyNamed_some hv] at k1 k2
    refine ⟨_, rfl, a, w, rfl, hs, hl, fun n hn d L H1 s1 hd0 hN hL => ?_, fun hn => (by rw [hv] at hn; cases hn)⟩
    rw [hv] at hn
    cases hn
    have hLl : L.length = ps.length := by rw [← hL]; unfold valsOf; rw [List.length_map]
    refine ⟨d, _, hN.top, True.intro, fun od => ⟨_, rfl, d, od, rfl, .inl ⟨_, upd_same, fun D hD => lc_walk (K := G.K) walk_keys (bs := L) (fun q => q.1 != 7) (fun q => .str (nmS q.1)) hD (by unfold kvsOf; rw [List.length_map]) (big_lt (by omega)) (fun H' s => s _ _ upd_same) (fun i H x H' _ hy => by rw [hy.1]; exact same_refl _) (fun _ _ _ => rfl) (fun j x q H2 H3 Kf Kt hqj s2 hy kf kt => ⟨rfl, ?_⟩) fun H4 ys s4 hD4 hdp => ?_⟩⟩⟩
    · obtain ⟨rfl, kk, vv, hkv, rfl⟩ := hy
      have : (kvsOf L)[j]? = some (nmK q.1, V.ref q.2.1) := by unfold kvsOf; rw [List.getElem?_map, hqj]; rfl
      rw [this] at hkv
      cases hkv
      have hq9 := (hN.row q (List.mem_of_getElem? hqj)).2.1
      have es := sig_ne hq9
      refine (⟨_, rfl, rfl, _, rfl, ?_⟩)
      refine iteB (fun c => ⟨_, rfl, kt _ _ (same_refl _) (es.symm.trans c) (.str _)⟩) fun c => kf _ (same_refl _) (es.symm.trans c)
    have hDd : D ≠ d := fun e => by rw [e, upd_same] at hD; cases hD
    have s15 := lock_same hN.top s4
    have e1 : (L.filter fun q => q.1 != 7).map (fun q => PyData.str (nmS q.1)) = ((keysL ps).map nmS).map PyData.str := by
      have e2 := keys_fst L
      rw [hL] at e2
      rw [← e2, List.map_map]
      rfl
    rw [e1] at hdp
    have e3 := dpAll_strs_inv hdp
    subst e3
    have hk9 : ∀ k ∈ keysL ps, k < 9 := fun k hk => by
      have := (List.mem_filter.mp hk).1
      obtain ⟨q, hq, rfl⟩ := List.mem_map.mp this
      exact plt q hq
    have hkl : (keysL ps).length ≤ 9 := by
      unfold keysL
      exact Nat.le_trans (List.length_filter_le ..) (by rw [List.length_map]; exact ple)
    refine ⟨s4 _ _ upd_same, D, _, rfl, .inl (.inl (by rw [upd_ne hDd]; exact hD4)), by rw [List.length_map]; omega, fun ys p hp hys hp0 => ?_⟩
    have hyok : ∀ z ∈ ys, PyData.strOk z = true := fun z hz => nms_ok hk9 z (hp.mem_iff.mp hz)
    have hScan := names_iff hk9 (K := scanKeys) (by decide) (by decide +kernel) hp hys
    have hLook := names_iff hk9 (K := lookKeys) (by decide) (by decide +kernel) hp hys
    have s16 := s15.trans (same_new (o := .lst (ys.map V.str)) hp0)
    generalize hH5 : upd H4 d (.dK (kvsOf L)) = H5 at hp0 s15 s16
    refine ⟨p, _, rfl, .inl ⟨.inl (.inl upd_same), fun t ht => ?_⟩⟩
    have s17 := s16.trans (same_new (o := .tup (ys.map V.str)) ht)
    have hdt : Dp G.K (upd (upd H5 p (.lst (ys.map V.str))) t (.tup (ys.map V.str))) (.ref t) (.tuple (ys.map .str)) := .tup (.inl (.inl upd_same)) (dpAll_strs ys)
    generalize upd (upd H5 p (.lst (ys.map V.str))) t (.tup (ys.map V.str)) = H6 at s17 hdt
    refine ⟨_, rfl, big_le (by simp), fun q hq => ?_⟩
    have sq := same_new (o := .tup [.ref a_SCAN_NAMES, .ref a_LOOK_NAMES]) hq
    have hd2 : Dp G.K (upd H6 q (.tup [.ref a_SCAN_NAMES, .ref a_LOOK_NAMES])) (.ref q) (.tuple [dSCAN_NAMES, dLOOK_NAMES]) := .tup (.inl (.inl upd_same)) (.cons (dp_SCAN_NAMES _) (.cons (dp_LOOK_NAMES _) .nil))
    have s18 := s17.trans sq
    have hdt := Same.dp sq hdt
    generalize upd H6 q (.tup [.ref a_SCAN_NAMES, .ref a_LOOK_NAMES]) = H7 at s18 hd2 hdt
    have ev : ([dSCAN_NAMES, dLOOK_NAMES].any fun z => PyData.eqv z (.tuple (ys.map .str))) = ((keysL ps).isPerm scanKeys || (keysL ps).isPerm lookKeys) := by
      rw [scan_names, look_names]
      simp only [List.any_cons, List.any_nil, Bool.or_false]
      rw [eqv_strs, eqv_strs, decide_comm' _ ys, decide_comm' _ ys, hScan, hLook]
    have hN7 := hN.same s18
    have nope : ∀ H', Same H7 H' → (if (keysL ps).isPerm scanKeys = true ∨ (keysL ps).isPerm lookKeys = true then (pyHead ps).bind (pyRest ps ((keysL ps).isPerm lookKeys)) else none) = none → E (.ref G.CW) none H' := fun H' s' h => k2 h H' (s1.trans (s18.trans s'))
    have good : ∀ f, (if (keysL ps).isPerm scanKeys = true ∨ (keysL ps).isPerm lookKeys = true then (pyHead ps).bind (pyRest ps ((keysL ps).isPerm lookKeys)) else none) = some f → ∀ u H', Same H7 H' → Dp G.K H' u (factD f) → Q u H' := fun f hf u H' s' => k1 f hf u H' (s1.trans (s18.trans s'))
    clear k1 k2
    refine ⟨_, _, hdt, hd2, sh_strs hyok, by rw [scan_names, look_names]; exact sh_two (nms_ok (by decide)) (nms_ok (by decide)), _, rfl, fun hb => ?_, fun hb => nope _ (same_refl _) ?_⟩
    · rw [ev] at hb
      have hor : (keysL ps).isPerm scanKeys = true ∨ (keysL ps).isPerm lookKeys = true := by simpa using hb
      rw [if_pos hor] at nope good
      have pre := present pnd plt hor
      have dget : ∀ {H' : Hp} {j : Nat} {v : List Nat}, Same H7 H' → j < 9 → getV ps j = some v → ∃ b, DGet H' d (.str (nmS j)) (some (.ref b)) ∧ H' b = some (.lst (v.map natV)) ∧ v.length ≤ 10000 := fun {H' j v} s' hj hv => by
        have hN' := hN7.same s'
        obtain ⟨b, h1, h2, h3⟩ := hN'.get hj (by rw [hL]; exact hv)
        exact ⟨b, .inl ⟨_, nmK j, .inl hN'.top, rfl, h1.symm⟩, h2, h3⟩
      refine ⟨big_le (by simp), fun r hr0 => ⟨r, rfl, ⟨_, .inl (.inl upd_same)⟩, fun D2 hD2 => lc_walkX (K := G.K) (walk_tup (xs := [1, 2, 3, 4].map fun j => V.str (nmS j))) (bs := [1, 2, 3, 4]) (fun j => (gp ps j).isSome = true) (fun j => .int (((gp ps j).getD 0 : Nat) : Int)) hD2 rfl (big_lt (by simp)) (fun H' s => .inl (.inl (s _ _ upd_same))) (fun i H x H' _ hy => by rw [hy.1]; exact same_refl _) (fun _ => rfl) (fun i x j H2 H3 Kf Kt hij s2 hy kt => ⟨rfl, ?_⟩) fun H8 zs s8 hok hD8 hdz => ?_⟩⟩
      · obtain ⟨rfl, hx⟩ := hy
        have ex : x = .str (nmS j) := by rw [List.getElem?_map, hij] at hx; exact (Option.some.inj hx).symm
        subst ex
        have hjm := List.mem_of_getElem? hij
        have hj9 : j < 9 := by simp at hjm; omega
        obtain ⟨v, hv⟩ := pre j (by simp at hjm ⊢; omega)
        have s7 := (same_new hr0).trans s2
        obtain ⟨b, hg1, hg2, hg3⟩ := dget s7 hj9 hv
        have egp : gp ps j = Vbpoag.plain 6 v := by unfold gp; rw [hv]; rfl
        refine iteT (B := Kf H3) ⟨_, rfl, _, rfl, d, _, rfl, hg1, b, v, rfl, .inl (.inl hg2), hg3, fun n hn H' s' => kt _ _ s' (by rw [egp, hn]; rfl) ?_, fun hn H' s' => nope _ (s7.trans s') (by rw [head_none hjm (by rw [egp, hn])]; rfl)⟩
        rw [egp, hn]
        exact .int _
      · have h1 := hok 1 (by simp)
        have h2 := hok 2 (by simp)
        have h3 := hok 3 (by simp)
        have h4 := hok 4 (by simp)
        obtain ⟨dv, g1⟩ := Option.isSome_iff_exists.mp h1
        obtain ⟨nv, g2⟩ := Option.isSome_iff_exists.mp h2
        obtain ⟨pv', g3⟩ := Option.isSome_iff_exists.mp h3
        obtain ⟨cv, g4⟩ := Option.isSome_iff_exists.mp h4
        have ez : zs = [V.int (dv : Int), V.int (nv : Int), V.int (pv' : Int), V.int (cv : Int)] := by
          have e : [1, 2, 3, 4].map (fun j => PyData.int (((gp ps j).getD 0 : Nat) : Int)) = [(dv : Int), (nv : Int), (pv' : Int), (cv : Int)].map PyData.int := by simp [g1, g2, g3, g4]
          rw [e] at hdz
          exact dpAll_ints_inv hdz
        subst ez
        rw [head_some g1 g2 g3 g4] at nope good
        have s78 := (same_new hr0).trans s8
        clear hok
        have hd8 := Same.dp s78 hdt
        have hN8 := hN7.same s78
        have bnd : ∀ {α β : Type} (x : α) (f : α → Option β), (some x).bind f = f x := fun _ _ => rfl
        rw [bnd] at nope good
        refine ⟨_, rfl, _, _, hd8, dp_LOOK_NAMES _, sh_strs hyok, by rw [look_names]; exact sh_strs (nms_ok (by decide)), _, rfl, ?_⟩
        rw [look_names, eqv_strs, hLook]
        obtain ⟨ew, hew⟩ := pre 0 (by simp)
        refine iteB (fun cl => ?_) fun cl => ?_
        · rw [cl, rest_look] at nope good
          obtain ⟨tw, htw⟩ := present_look pnd plt cl
          refine ⟨_, rfl, d, _, rfl, .inl ⟨_, nmK 7, .inl hN8.top, rfl, rfl⟩, _, rfl, iteB (fun c7 => ?_) fun c7 => ⟨false, rfl, fun q => absurd q Bool.false_ne_true, fun _ => nope _ s78 ?_⟩⟩
          · rw [hN8.none (by decide), hL] at c7
            have c7 : getV ps 7 = none := by cases hg : getV ps 7 with | none => rfl | some _ => rw [hg] at c7; cases c7
            obtain ⟨b0, hg1, hg2, hg3⟩ := dget s78 (show 0 < 9 by decide) hew
            refine ⟨_, rfl, d, _, rfl, hg1, _, rfl, by decide, fun cb H9 s9 hcb0 hcb => ⟨_, _, bs_dp (.inl (.inl (s9 _ _ hg2))), bs_dp (.inl (.inl hcb)), sh_nats _, sh_nats _, _, rfl, fun hb => ?_, fun hb => nope _ (s78.trans s9) ?_⟩⟩
            · rw [eqv_nats, syn_text] at hb
              have hb := of_decide_eq_true hb
              subst hb
              rw [if_pos ⟨c7, hew⟩] at nope good
              have s79 := s78.trans s9
              refine ⟨big_le (by simp), fun q1 hq1 => ⟨_, rfl, q1, D2, _, _, rfl, rfl, upd_same, same_new hq1 _ _ (s9 _ _ hD8), big_le (by simp), fun q2 hq2 => ?_⟩⟩
              have s7b := s79.trans ((same_new (o := .lst [.int 1]) hq1).trans (same_new (o := .lst ([.int 1] ++ [V.int (dv : Int), V.int (nv : Int), V.int (pv' : Int), V.int (cv : Int)])) hq2))
              have hq2v := upd_same (H := upd H9 q1 (.lst [.int 1])) (a := q2) (o := .lst ([.int 1] ++ [V.int (dv : Int), V.int (nv : Int), V.int (pv' : Int), V.int (cv : Int)]))
              generalize upd (upd H9 q1 (.lst [.int 1])) q2 (.lst ([.int 1] ++ [V.int (dv : Int), V.int (nv : Int), V.int (pv' : Int), V.int (cv : Int)])) = H10 at s7b hq2v
              obtain ⟨b8, hg81, hg82, hg83⟩ := dget s7b (show 8 < 9 by decide) htw
              have egp : gp ps 8 = Vbpoag.plain 6 tw := by unfold gp; rw [htw]; rfl
              rw [egp] at nope good
              refine ⟨_, rfl, d, _, rfl, hg81, b8, tw, rfl, .inl (.inl hg82), hg83, fun tv htv H11 s11 => ?_, fun htv H11 s11 => nope _ (s7b.trans s11) (by rw [htv]; rfl)⟩
              rw [htv, bnd] at nope good
              refine ⟨big_le (by simp), fun q3 hq3 => ⟨q2, q3, _, _, rfl, rfl, same_new hq3 _ _ (s11 _ _ hq2v), upd_same, big_le (by simp), fun q4 hq4 => ⟨q4, _, rfl, .inl ⟨.inl (.inl upd_same), fun q5 hq5 => ?_⟩⟩⟩⟩
              have s7f := s7b.trans (s11.trans ((same_new (o := .lst [V.int (tv : Int)]) hq3).trans ((same_new (o := .lst (([.int 1] ++ [V.int (dv : Int), V.int (nv : Int), V.int (pv' : Int), V.int (cv : Int)]) ++ [V.int (tv : Int)])) hq4).trans (same_new (o := .tup (([.int 1] ++ [V.int (dv : Int), V.int (nv : Int), V.int (pv' : Int), V.int (cv : Int)]) ++ [V.int (tv : Int)])) hq5))))
              generalize hF : ({ device := dv, number := nv, epoch := pv', clock := cv, body := .sync tv } : Fact) = F at good nope
              have eF : (RF.of F).l = [1, (dv : Int), (nv : Int), (pv' : Int), (cv : Int), (tv : Int)] := by rw [← hF]; rfl
              refine ⟨.ref q5, RF.of F, rfl, by rw [eF]; exact tupI_dp (.inl (.inl upd_same)), fun h => good F (checked_ok h) _ _ s7f ?_, fun h => nope _ s7f (checked_no h)⟩
              unfold factD
              rw [← RF.of_l, eF]
              exact tupI_dp (.inl (.inl upd_same))
            · rw [eqv_nats, syn_text] at hb
              have hb := of_decide_eq_false hb
              rw [if_neg]
              rintro ⟨_, h0⟩
              rw [hew] at h0
              exact hb (Option.some.inj h0)
          · rw [if_neg]
            rintro ⟨h0, _⟩
            rw [hN8.none (by decide), hL, h0] at c7
            cases c7
        · rw [cl, rest_scan] at nope good
          have hsc : (keysL ps).isPerm scanKeys = true := hor.resolve_right (by rw [cl]; exact Bool.false_ne_true)
          obtain ⟨⟨ow, how⟩, iw, hiw⟩ := present_scan pnd plt hsc
          have egp : gp ps 6 = Vbpoag.plain 6 iw := by unfold gp; rw [hiw]; rfl
          rw [egp, hew, bnd, how, bnd] at nope good
          obtain ⟨b6, hg61, hg62, hg63⟩ := dget s78 (show 6 < 9 by decide) hiw
          refine ⟨_, rfl, d, _, rfl, hg61, b6, iw, rfl, .inl (.inl hg62), hg63, fun iv hi H9 s9 => ?_, fun hi H9 s9 => nope _ (s78.trans s9) (by rw [hi]; rfl)⟩
          rw [hi, bnd] at nope good
          have s79 := s78.trans s9
          obtain ⟨b0, hg01, hg02, hg03⟩ := dget s79 (show 0 < 9 by decide) hew
          refine ⟨_, rfl, d, _, rfl, hg01, b0, a_KINDS, ew, zKINDS, rfl, .inl (.inl hg02), .inr (tab_strs (dp_KINDS _)), by decide, kinds_size, ?_⟩
          rw [← code_find]
          refine ⟨fun kv hk H10 s10 => ?_, fun hk H10 s10 => nope _ (s79.trans s10) (by rw [hk]; rfl)⟩
          rw [hk, bnd] at nope good
          have s7a := s79.trans s10
          have hNa := hN7.same s7a
          refine ⟨_, _, rfl, ?_⟩
          refine cut_S (P := fun σ H11 => ∃ sg : Nat, σ = [some (V.ref a), some (V.ref d), some (V.ref t), some (V.ref D2), some (V.int (iv : Int)), some (V.int (kv : Int)), some (V.int (sg : Int)), none] ∧ pySign ps = some sg ∧ Same H8 H11) (fun fin => ⟨_, rfl, d, _, rfl, .inl ⟨_, nmK 7, .inl hNa.top, rfl, rfl⟩, _, rfl, iteB (fun c7 => ?_) fun c7 => fin _ _ ⟨0, rfl, ?_, s9.trans s10⟩⟩) fun σ H11 h11 => ?_
          · rw [hNa.none (by decide), hL] at c7
            obtain ⟨gw, hgw⟩ := Option.isSome_iff_exists.mp c7
            obtain ⟨b7, hg71, hg72, hg73⟩ := dget s7a (show 7 < 9 by decide) hgw
            have es : pySign ps = (Vbpoag.plain 6 gw).bind fun s => if 0 < s then some s else none := by unfold pySign; rw [hgw]
            refine ⟨_, rfl, d, _, rfl, hg71, b7, gw, rfl, .inl (.inl hg72), hg73, fun sv hs' H11 s11 => ?_, fun hs' H11 s11 => nope _ (s7a.trans s11) (by rw [es, hs']; rfl)⟩
            rw [hs', bnd] at es
            refine ⟨_, rfl, _, _, rfl, rfl, _, rfl, fun hb => fin _ _ ⟨sv, rfl, ?_, (s9.trans s10).trans s11⟩, fun hb => nope _ (s7a.trans s11) ?_⟩
            · have hb := of_decide_eq_true hb
              rw [es, if_pos (by omega)]
            · have hb := of_decide_eq_false hb
              rw [es, if_neg (by omega)]
              rfl
          · rw [hNa.none (by decide), hL] at c7
            unfold pySign
            cases hg : getV ps 7 with
            | none => rfl
            | some _ => rw [hg] at c7; cases c7
          · obtain ⟨sg, rfl, hsg, s8b⟩ := h11
            rw [hsg, bnd] at nope good
            refine ⟨big_le (by simp), fun q1 hq1 => ⟨_, rfl, q1, D2, _, _, rfl, rfl, upd_same, same_new hq1 _ _ (s8b _ _ hD8), big_le (by simp), fun q2 hq2 => ?_⟩⟩
            have s7c := (s78.trans s8b).trans ((same_new (o := .lst [.int 0]) hq1).trans (same_new (o := .lst ([.int 0] ++ [V.int (dv : Int), V.int (nv : Int), V.int (pv' : Int), V.int (cv : Int)])) hq2))
            have hq2v := upd_same (H := upd H11 q1 (.lst [.int 0])) (a := q2) (o := .lst ([.int 0] ++ [V.int (dv : Int), V.int (nv : Int), V.int (pv' : Int), V.int (cv : Int)]))
            generalize upd (upd H11 q1 (.lst [.int 0])) q2 (.lst ([.int 0] ++ [V.int (dv : Int), V.int (nv : Int), V.int (pv' : Int), V.int (cv : Int)])) = H12 at s7c hq2v
            obtain ⟨b5, hg51, hg52, hg53⟩ := dget s7c (show 5 < 9 by decide) how
            refine ⟨_, rfl, _, rfl, _, rfl, d, _, rfl, hg51, _, rfl, by decide, fun b hb0 => ?_⟩
            have s7d := s7c.trans (same_new (o := .lst (zOFFS.map V.str)) hb0)
            refine ⟨b5, b, ow, zOFFS, rfl, .inl (.inl (same_new hb0 _ _ hg52)), .inl (.inl (.inl upd_same)), by decide, offs_size, ?_⟩
            rw [← office_find]
            refine ⟨fun o ho H13 s13 => ?_, fun ho H13 s13 => nope _ (s7d.trans s13) (by rw [ho]; rfl)⟩
            rw [ho, bnd] at nope good
            refine ⟨_, rfl, big_le (by simp), fun q3 hq3 => ⟨q2, q3, _, _, rfl, rfl, same_new hq3 _ _ (s13 _ _ (same_new hb0 _ _ hq2v)), upd_same, big_le (by simp), fun q4 hq4 => ⟨q4, _, rfl, .inl ⟨.inl (.inl upd_same), fun q5 hq5 => ?_⟩⟩⟩⟩
            have s7f := s7d.trans (s13.trans ((same_new (o := .lst [V.int (iv : Int), V.int (kv : Int), V.int (o : Int), V.int (sg : Int)]) hq3).trans ((same_new (o := .lst (([.int 0] ++ [V.int (dv : Int), V.int (nv : Int), V.int (pv' : Int), V.int (cv : Int)]) ++ [V.int (iv : Int), V.int (kv : Int), V.int (o : Int), V.int (sg : Int)])) hq4).trans (same_new (o := .tup (([.int 0] ++ [V.int (dv : Int), V.int (nv : Int), V.int (pv' : Int), V.int (cv : Int)]) ++ [V.int (iv : Int), V.int (kv : Int), V.int (o : Int), V.int (sg : Int)])) hq5))))
            generalize hF : ({ device := dv, number := nv, epoch := pv', clock := cv, body := .scan { item := iv, kind := kv, office := o, sign := sg } } : Fact) = F at good nope
            have eF : (RF.of F).l = [0, (dv : Int), (nv : Int), (pv' : Int), (cv : Int), (iv : Int), (kv : Int), (o : Int), (sg : Int)] := by rw [← hF]; rfl
            refine ⟨.ref q5, RF.of F, rfl, by rw [eF]; exact tupI_dp (.inl (.inl upd_same)), fun h => good F (checked_ok h) _ _ s7f ?_, fun h => nope _ s7f (checked_no h)⟩
            unfold factD
            rw [← RF.of_l, eF]
            exact tupI_dp (.inl (.inl upd_same))
    · rw [ev] at hb
      rw [if_neg]
      simpa using hb
end Sc
namespace Sc
open PySem PySem.Spec PyProof.Rows L2
open C8 (pe_gc)
open Vbpoag (Fact Scan Body cut isDigit number checkedFact firstRead codeOf office digits decimal joined firstLine otherLine CODES)
def rdL (form : Nat) (w : List Nat) : Option Fact := if form = 0 then firstRead w else pyNamed w
def sp_read_line (G : Gx) : Sp := fun vs H Q E => ∃ (a : Addr) (w : List Nat) (form : Nat), vs = [.ref a, .int form] ∧ SqL G.K H a (w.map natV) ∧ w.length ≤ 9000 ∧ OutW G H E (rdL form w) fun f => ∀ u H', Same H H' → Dp G.K H' u (factD f) → Q u H'
theorem cal_read_line {P : Program} {w : World} {mg : Str → Option Value} {base : Heap} {G : Gx} (T : Txt G mg) (h : Has G mg "read_line" s_read_line) (c_read_named : CalX P w G.K mg base 5 "read_named" (sp_read_named G)) (c_read_worded : CalX P w G.K mg base 5 "read_worded" (sp_read_worded G)) : CalX P w G.K mg base 6 "read_line" (sp_read_line G) := by
  obtain ⟨f, fd, F, hm⟩ := h
  have nd := sc_read_line.nd
  refine ⟨f, fd, ["line", "form"], ?_, hm, F.kp, F.bindsN fun _ _ _ _ _ _ us hl => match us, hl with | [_, _], _ => rfl⟩
  refine F.ok sc_read_line (fun vs H Q E h => by obtain ⟨a, w, form, rfl, _⟩ := h; rfl) fun cdv A outer s H vs Q E hr h => ?_
  refine ⟨_, (pss_cons (ps_if (pt_cmpR op_eq (pv 1) (pe_gc rfl T.c_WORDED) (nomark _)) (pss_one (ps_ret (pe_cx c_read_worded hr (by decide) rfl (fun σ => passAt (takes_of rfl rfl rfl rfl) σ) (pa_cons (pv 0) pa_nil)))) pss_nil)
      (pss_one (ps_ret (pe_cx c_read_named hr (by decide) rfl (fun σ => passAt (takes_of rfl rfl rfl rfl) σ) (pa_cons (pv 0) pa_nil))))), ?_⟩
  obtain ⟨a, w, form, rfl, hs, hl, k1, k2⟩ := h
  refine ⟨_, rfl, rfl, _, rfl, iteB (fun c => ?_) fun c => ?_⟩
  · have c : form = 0 := by have := of_decide_eq_true c; simp only [V.int.injEq] at this; omega
    subst c
    exact ⟨_, rfl, a, w, rfl, hs, by omega, k1, k2⟩
  · have c : ¬ form = 0 := fun e => by subst e; exact absurd rfl (of_decide_eq_false c)
    unfold rdL at k1 k2
    rw [if_neg c] at k1 k2
    exact ⟨_, rfl, a, w, rfl, hs, hl, k1, k2⟩
def pyFrom (form : Nat) : Nat → List (List Nat) → Except Nat (List Fact)
  | _, [] => .ok []
  | n, l :: r =>
    if l.isEmpty = true then pyFrom form (n + 1) r
    else match rdL form l with
    | none => .error n
    | some f => match pyFrom form (n + 1) r with
      | .error e => .error e
      | .ok fs => .ok (f :: fs)
def addF (fs : List Fact) : Except Nat (List Fact) → Except Nat (List Fact)
  | .error e => .error e
  | .ok gs => .ok (fs ++ gs)
theorem addF_nil (x : Except Nat (List Fact)) : addF [] x = x := by cases x <;> rfl
theorem addF_snoc (fs : List Fact) (f : Fact) (x : Except Nat (List Fact)) : addF (fs ++ [f]) x = addF fs (match x with | .error e => .error e | .ok gs => .ok (f :: gs)) := by
  cases x with
  | error e => rfl
  | ok gs => simp [addF]
def sp_read_facts (G : Gx) : Sp := fun vs H Q _ => ∃ (a : Addr) (t : List Nat) (form : Nat), vs = [.ref a, .int form] ∧ SqL G.K H a (t.map natV) ∧ t.length ≤ 9000 ∧
  ∀ (u l : Addr) (fs : List Fact) (ys : List V) (n : Nat) (H' : Hp), Same H H' → SqT G.K H' u [.ref l, .int (n : Int)] → H' l = some (.lst ys) → DpAll G.K H' ys (fs.map factD) → fs.length ≤ 9001 → ((pyFrom form 1 (cut 10 t) = .ok fs ∧ n = 0) ∨ (pyFrom form 1 (cut 10 t) = .error n ∧ 0 < n)) → Q (.ref u) H'
theorem cal_read_facts {P : Program} {w : World} {mg : Str → Option Value} {base : Heap} {G : Gx} (T : Txt G mg) (h : Has G mg "read_facts" s_read_facts) (c_parted : CalN P w G.K mg base 1 "parted" (sp_parted G)) (c_read_line : CalX P w G.K mg base 6 "read_line" (sp_read_line G)) : CalN P w G.K mg base 7 "read_facts" (sp_read_facts G) := by
  obtain ⟨f, fd, F, hm⟩ := h
  have nd := sc_read_facts.nd
  refine ⟨f, fd, ["text", "form"], ?_, hm, F.kp, F.bindsN fun _ _ _ _ _ _ us hl => match us, hl with | [_, _], _ => rfl⟩
  refine F.ok sc_read_facts (fun vs H Q E h => by obtain ⟨a, t, form, rfl, _⟩ := h; rfl) fun cdv A outer s H vs Q E hr h => ?_
  refine ⟨_, PSs.nox (pss_cons (ps_set (i := 2) nd rfl (Or.inl rfl) (pe_lst pa_nil))
      (pss_cons (ps_for PassesOwn.never rfl (pi_enum (by rfl) T.b_enumerate (pa_cons (pe_cn c_parted hr (by decide) rfl (pa_cons (pv 0) (pa_cons (pe_gc rfl T.c_LINE_END) pa_nil))) pa_nil)) (pg_tup rfl (pgs_cons (pg_name (i := 3) nd rfl (Or.inl rfl)) (pgs_cons (pg_name (i := 4) nd rfl (Or.inl rfl)) pgs_nil)))
      (pss_one (ps_if (pt_cmpR (op_neD hr.units) (pv 4) (pe_lst pa_nil) (nomark _)) (pss_one (ps_try_only (tb := fun W => tDrop (tBM G.K "list" rAppend (tVar 2) (tCons (tCallS (sp_read_line G) (WE W) (tCons (tVar 4) (tCons (tVar 1) tNil))) tNil))) (ts := fun _ _ _ => tRet (tTup (tCons (tVar 2) (tCons (tOp (rI0 fun i j => .int (i + j)) (tVar 3) (tC (.int 1))) tNil)))) (Wout := fun _ _ _ _ => False) rfl rfl ⟨rfl, by decide, Or.inl T.gW⟩ takes0
      (fun W pn xe tk pw => (pss_one (ps_expr (pe_bm PySem.F.plainAttrs_list PySem.F.slot_list_append PySem.F.type_list_append mt_append (pv 2) (pa_cons (pe_cx c_read_line hr (by decide) rfl (fun σ => passAt tk σ) (pa_cons (pv 4) (pa_cons (pv 1) pa_nil))) pa_nil)))))
      (fun a oe cls d pn hz hf => (pss_one (ps_ret (pe_tup (pa_cons (pv 2) (pa_cons (pe_op op_add (pv 3) pe_int) pa_nil)))))))) pss_nil)))
      (pss_one (ps_ret (pe_tup (pa_cons (pv 2) (pa_cons pe_int pa_nil))))))), ?_⟩
  obtain ⟨a, t, form, rfl, hs, hl, k⟩ := h
  refine ⟨big_le (by simp), fun l hl0 => ?_⟩
  have s0 : Same H (upd H l (.lst [])) := same_new hl0
  have hlt : (upd H l (.lst [])) l = some (.lst []) := upd_same
  generalize upd H l (.lst []) = H0 at s0 hlt
  refine ⟨_, rfl, a, t, 10, rfl, s0.seq hs, by omega, fun p L0 H1 s1 hP hL0 => ⟨p, _, rfl, .inl (.inl hP.top), for_it (walk_enumP (xs := L0.map fun q => V.ref q.1)) (fun j σ H2 => ∃ u3 u4 acc gs, σ = [some (.ref a), some (.int (form : Int)), some (.ref l), u3, u4] ∧ SX l H1 H2 ∧ H2 l = some (.lst acc) ∧ DpAll G.K H2 acc (gs.map factD) ∧ gs.length ≤ j ∧ pyFrom form 1 (cut 10 t) = addF gs (pyFrom form (j + 1) ((L0.map (·.2)).drop j))) ⟨none, none, [], [], rfl, SX.of (same_refl _), s1 _ _ hlt, .nil, Nat.le_refl _, by rw [hL0]; exact (addF_nil _).symm⟩ (fun j σ H2 _ h => ?_) (fun j x σ H2 H3 hj h hy => ?_) fun σ H2 h => ?_⟩⟩
  all_goals have hpl : p ≠ l := ne_of_new' hlt hP.new
  all_goals have hl0' : L0.length ≤ 9001 := (by have e := congrArg List.length hL0; have c := cut_length 10 t; rw [List.length_map] at e; omega)
  · obtain ⟨_, _, _, _, _, sx, _⟩ := h
    exact sx.sqL hpl (.inl (.inl hP.top))
  · obtain ⟨u3, u4, acc, gs, rfl, sx, hla, hda, hgl, hpy⟩ := h
    rw [List.length_map] at hj
    obtain ⟨tt, iv, pv, rfl, ht, rfl, e1, e2⟩ := hy
    cases e1
    have e2 : (L0.map fun q => V.ref q.1)[j]? = some pv := e2
    have hrj : L0[j]? = some L0[j] := List.getElem?_eq_getElem hj
    generalize L0[j] = r at hrj
    have ex : pv = .ref r.1 := by rw [List.getElem?_map, hrj] at e2; exact (Option.some.inj e2).symm
    subst ex
    have hmem := List.mem_of_getElem? hrj
    obtain ⟨hr1, hr2, hr3⟩ := hP.row r hmem
    have hrl : r.1 ≠ l := ne_of_new' hlt hr2
    have hrow := sx.lst hrl hr1
    have hrlen : r.2.length ≤ 9000 := by
      have : r.2 ∈ cut 10 t := by rw [← hL0]; exact List.mem_map.mpr ⟨r, hmem, rfl⟩
      have := cut_piece_len this
      omega
    have hdrop : (L0.map (·.2)).drop j = r.2 :: (L0.map (·.2)).drop (j + 1) := by
      rw [List.drop_eq_getElem_cons (by rw [List.length_map]; exact hj)]
      congr 1
      have : (L0.map (·.2))[j]? = some r.2 := by rw [List.getElem?_map, hrj]; rfl
      rw [List.getElem?_eq_getElem (by rw [List.length_map]; exact hj)] at this
      exact Option.some.inj this
    rw [hdrop, pyFrom] at hpy
    have st := same_new (o := .tup [V.int ((j : Nat) : Int), .ref r.1]) ht
    have s02 : Same H H2 := sx.same (s0.trans s1) hl0
    refine ⟨tt, _, rfl, .inl (.inl upd_same), rfl, _, _, rfl, _, _, rfl, rfl, _, rfl, big_le (by simp), fun q hq => ?_⟩
    have st2 := st.trans (same_new (o := .lst []) hq)
    have hq2 := upd_same (H := upd H2 tt (.tup [V.int ((j : Nat) : Int), .ref r.1])) (a := q) (o := .lst [])
    generalize upd (upd H2 tt (.tup [V.int ((j : Nat) : Int), .ref r.1])) q (.lst []) = H4 at st2 hq2
    have hrow4 := st2 _ _ hrow
    refine ⟨_, _, bs_dp (.inl (.inl hrow4)), .lst (.inl (.inl hq2)) .nil, sh_nats r.2, sh_nil, _, rfl, ?_⟩
    rw [eqv_nats_nil]
    have hla4 := st2 _ _ hla
    refine iteN (fun c => ?_) fun c => ?_
    · rw [if_neg (by rw [c]; exact Bool.false_ne_true)] at hpy
      refine ⟨_, rfl, .inl ⟨rfl, _, .inl (.inl hla4)⟩, _, rfl, _, rfl, r.1, r.2, form, rfl, .inl (.inl hrow4), hrlen, fun f hf u H5 s5 hdu => ?_, fun hf H5 s5 => ?_⟩
      · rw [hf] at hpy
        dsimp only at hpy
        have hla5 := s5 _ _ hla4
        refine ⟨l, acc, u, rfl, rfl, hla5, big_lt (by have := dpAll_len hda; rw [List.length_map] at this; omega), _, _, acc ++ [u], gs ++ [f], rfl, ((sx.trans (SX.of st2)).trans (SX.of s5)).upd, upd_same, ?_, by rw [List.length_append]; simp; omega, ?_⟩
        · rw [List.map_append]
          exact dpAll_app (dpAll_upd hla5 _ _ (lfree_map lfree_fact _) (Same.dpAll (st2.trans s5) hda)) (.cons (dp_upd hla5 _ _ (lfree_fact f) hdu) .nil)
        · rw [hpy, addF_snoc]
      · rw [hf] at hpy
        dsimp only at hpy
        refine ⟨true, T.eW, fun _ _ _ => ⟨_, rfl, _, rfl, _, _, rfl, rfl, big_le (by simp), fun q2 hq2' => ?_⟩, fun z => Bool.noConfusion z⟩
        have s5f := s5.trans (same_new (o := .tup [.ref l, .int ((j : Int) + 1)]) hq2')
        exact k q2 l gs acc (j + 1) _ (s02.trans (st2.trans s5f)) (.inl (.inl upd_same)) (s5f _ _ hla4) (Same.dpAll (st2.trans s5f) hda) (by omega) (.inr ⟨hpy, by omega⟩)
    · rw [if_pos c] at hpy
      exact ⟨_, _, acc, gs, rfl, sx.trans (SX.of st2), hla4, Same.dpAll st2 hda, by omega, hpy⟩
  · obtain ⟨u3, u4, acc, gs, rfl, sx, hla, hda, hgl, hpy⟩ := h
    rw [List.length_map, ← List.length_map (f := (·.2)) (as := L0), List.drop_length, pyFrom] at hpy
    have hpy : pyFrom form 1 (cut 10 t) = .ok gs := by rw [hpy]; simp [addF]
    refine ⟨_, rfl, big_le (by simp), fun q hq => ?_⟩
    have sq := same_new (o := .tup [.ref l, .int 0]) hq
    exact k q l gs acc 0 _ ((sx.same (s0.trans s1) hl0).trans sq) (.inl (.inl upd_same)) (sq _ _ hla) (Same.dpAll sq hda) (by rw [List.length_map] at hgl; omega) (.inl ⟨hpy, rfl⟩)
def sp_padded (G : Gx) : Sp := fun vs H Q _ => ∃ (z : Str) (c n m : Nat), vs = [.str z, .int n, .int m] ∧ cp z = [c] ∧ 1 ≤ m ∧ m ≤ 10 ∧ n < 10 ^ m ∧ ∀ r : Str, cp r = c :: digits m n → Q (.str r) H
theorem cal_padded {P : Program} {w : World} {mg : Str → Option Value} {base : Heap} {G : Gx} (T : Txt G mg) (h : Has G mg "padded" s_padded) : CalN P w G.K mg base 1 "padded" (sp_padded G) := by
  obtain ⟨f, fd, F, hm⟩ := h
  have nd := sc_padded.nd
  refine ⟨f, fd, ["letter", "number", "many"], ?_, hm, F.kp, F.bindsN fun _ _ _ _ _ _ us hl => match us, hl with | [_, _, _], _ => rfl⟩
  refine F.ok sc_padded (fun vs H Q E h => by obtain ⟨z, c, n, m, rfl, _⟩ := h; rfl) fun cdv A outer s H vs Q E hr h => ?_
  refine ⟨_, PSs.nox (pss_cons (ps_set (i := 3) nd rfl (Or.inl rfl) (pe_callTy call_str_int (by rfl) T.b_str (by decide +kernel) (pa_cons (pv 1) pa_nil)))
      (pss_one (ps_ret (pe_op op_add_str (pe_op op_add_str (pv 0) (pe_op op_mulS pe_str (pe_op op_sub (pv 2) (pe_callB call_len_str (by rfl) T.b_len PySem.boot_len (pa_cons (pv 3) pa_nil))))) (pv 3))))), ?_⟩
  obtain ⟨z, c, n, m, rfl, hz, hm, hm2, hn, k⟩ := h
  have hd := cp_int n
  have hdl := decimal_len m hm hn
  have hlen : (toString (n : Int) : Str).length = (decimal n).length := by rw [cp_len, hd]
  have hzl : z.length = 1 := by rw [cp_len, hz]; rfl
  have hbig : (n : Int).natAbs.log2 < 1920 := by
    have h1 : n < 10 ^ 10 := Nat.lt_of_lt_of_le hn (Nat.pow_le_pow_right (by decide) hm2)
    have h2 : (n : Int).natAbs = n := rfl
    rw [h2]
    by_cases h0 : n = 0
    · subst h0; decide
    · rw [Nat.log2_lt h0]
      exact Nat.lt_trans h1 (by decide +kernel)
  have hsub : (m : Int) - ((decimal n).length : Int) = ((m - (decimal n).length : Nat) : Int) := by omega
  have hml : (Txt.mul ("0" : Str) ((m - (decimal n).length : Nat) : Int)).length = m - (decimal n).length := by rw [cp_len, cp_mul0 _ rfl, List.length_replicate]
  refine ⟨_, rfl, _, rfl, hbig, _, rfl, _, rfl, _, rfl, _, rfl, big_le (by omega), _, _, rfl, rfl, _, _, rfl, rfl, ?_, ?_, by decide, _, _, rfl, rfl, ?_, _, rfl, _, _, rfl, rfl, ?_, ?_⟩
  · rw [hlen]; omega
  · rw [hlen]; omega
  · rw [hlen, hsub, hml]; exact big_le (by omega)
  · rw [hlen, hsub, cp_len, cp_app, cp_mul0 _ rfl, List.length_append, List.length_replicate, hz]; exact big_le (by simp; omega)
  · refine k _ ?_
    rw [hlen, hsub, cp_app, cp_app, cp_mul0 _ rfl, hz, hd, digits_eq m n hm hn]
    rfl
def sp_worded (G : Gx) : Sp := fun vs H Q _ => ∃ (v : V) (f : Fact), vs = [v] ∧ Dp G.K H v (factD f) ∧ Vbpoag.inRange f = true ∧ ∀ (r : Str) (H' : Hp), Same H H' → cp r = firstLine f → Q (.str r) H'
theorem cal_worded {P : Program} {w : World} {mg : Str → Option Value} {base : Heap} {G : Gx} (T : Txt G mg) (h : Has G mg "worded" s_worded) (c_padded : CalN P w G.K mg base 1 "padded" (sp_padded G)) : CalN P w G.K mg base 2 "worded" (sp_worded G) := by
  obtain ⟨f, fd, F, hm⟩ := h
  have nd := sc_worded.nd
  obtain ⟨a_KINDS, g_KINDS, dp_KINDS⟩ := T.t_KINDS
  refine ⟨f, fd, ["fact"], ?_, hm, F.kp, F.bindsN fun _ _ _ _ _ _ us hl => match us, hl with | [_], _ => rfl⟩
  refine F.ok sc_worded (fun vs H Q E h => by obtain ⟨v, f, rfl, _⟩ := h; rfl) fun cdv A outer s H vs Q E hr h => ?_
  refine ⟨_, PSs.nox (pss_cons (ps_set (i := 1) nd rfl (Or.inl rfl) (pe_lst (pa_cons (pe_cn c_padded hr (by decide) rfl (pa_cons pe_str (pa_cons (pe_ix ix_tup (pv 0) (pe_gc rfl T.c_DEVICE) (fun _ _ => rfl)) (pa_cons pe_int pa_nil)))) (pa_cons (pe_cn c_padded hr (by decide) rfl (pa_cons pe_str (pa_cons (pe_ix ix_tup (pv 0) (pe_gc rfl T.c_NUMBER) (fun _ _ => rfl)) (pa_cons pe_int pa_nil)))) (pa_cons (pe_cn c_padded hr (by decide) rfl (pa_cons pe_str (pa_cons (pe_ix ix_tup (pv 0) (pe_gc rfl T.c_SETTING) (fun _ _ => rfl)) (pa_cons pe_int pa_nil)))) pa_nil)))))
      (pss_cons (ps_expr (pe_bm PySem.F.plainAttrs_list PySem.F.slot_list_append PySem.F.type_list_append mt_append (pv 1) (pa_cons (pe_cn c_padded hr (by decide) rfl (pa_cons pe_str (pa_cons (pe_ix ix_tup (pv 0) (pe_gc rfl T.c_CLOCK) (fun _ _ => rfl)) (pa_cons pe_int pa_nil)))) pa_nil)))
      (pss_cons (ps_if (pt_cmpR op_eq (pe_ix ix_tup (pv 0) pe_int (fun _ _ => rfl)) (pe_gc rfl T.c_LOOK) (nomark _)) (pss_one (ps_expr (pe_bm PySem.F.plainAttrs_list PySem.F.slot_list_extend PySem.F.type_list_extend mt_extend (pv 1) (pa_cons (pe_lst (pa_cons pe_str (pa_cons (pe_cn c_padded hr (by decide) rfl (pa_cons pe_str (pa_cons (pe_ix ix_tup (pv 0) (pe_gc rfl T.c_TIME) (fun _ _ => rfl)) (pa_cons pe_int pa_nil)))) pa_nil))) pa_nil)))) (pss_cons (ps_expr (pe_bm PySem.F.plainAttrs_list PySem.F.slot_list_extend PySem.F.type_list_extend mt_extend (pv 1) (pa_cons (pe_lst (pa_cons (pe_cn c_padded hr (by decide) rfl (pa_cons pe_str (pa_cons (pe_ix ix_tup (pv 0) (pe_gc rfl T.c_ITEM) (fun _ _ => rfl)) (pa_cons pe_int pa_nil)))) (pa_cons (pe_ix ix_tup (pe_gc rfl g_KINDS) (pe_ix ix_tup (pv 0) (pe_gc rfl T.c_KIND) (fun _ _ => rfl)) (fun _ _ => rfl)) (pa_cons (pe_ix ix_str (pe_gc rfl T.c_OFFICES) (pe_ix ix_tup (pv 0) (pe_gc rfl T.c_OFFICE) (fun _ _ => rfl)) (fun _ _ => rfl)) pa_nil)))) pa_nil)))
      (pss_one (ps_expr (pe_bm PySem.F.plainAttrs_list PySem.F.slot_list_append PySem.F.type_list_append mt_append (pv 1) (pa_cons (pe_cn c_padded hr (by decide) rfl (pa_cons pe_str (pa_cons (pe_ix ix_tup (pv 0) (pe_gc rfl T.c_SIGNATURE) (fun _ _ => rfl)) (pa_cons pe_int pa_nil)))) pa_nil))))))
      (pss_one (ps_ret (pe_join pe_str (pv 1))))))), ?_⟩
  obtain ⟨v, f, rfl, hd, hr0, k⟩ := h
  cases hb : f.body with
  | scan z =>
    obtain ⟨a, rfl, hS⟩ := fact_sq hd hb
    obtain ⟨⟨r1, r2, r3, r4, r5⟩, r6, r7, r8, r9, r10⟩ := scan_of_range hr0 hb
    refine ⟨_, rfl, _, _, _, _, rfl, rfl, hS, rfl, _, 68, f.device, 1, rfl, rfl, by decide, by decide, by omega, fun w1 e1 => ⟨_, rfl, _, _, _, _, rfl, rfl, hS, rfl, _, 78, f.number, 4, rfl, rfl, by decide, by decide, by omega, fun w2 e2 => ⟨_, rfl, _, _, _, _, rfl, rfl, hS, rfl, _, 69, f.epoch, 1, rfl, rfl, by decide, by decide, by omega, fun w3 e3 => ⟨big_le (by simp), fun l hl0 => ?_⟩⟩⟩⟩
    have s1 : Same H (upd H l (.lst [.str w1, .str w2, .str w3])) := same_new hl0
    have hl1 : (upd H l (.lst [.str w1, .str w2, .str w3])) l = some (.lst [.str w1, .str w2, .str w3]) := upd_same
    generalize upd H l (.lst [.str w1, .str w2, .str w3]) = H1 at s1 hl1
    have hS1 := sq_same s1 hS
    refine ⟨_, rfl, .inl ⟨rfl, _, .inl (.inl hl1)⟩, _, rfl, _, _, _, _, rfl, rfl, hS1, rfl, _, 84, f.clock, 5, rfl, rfl, by decide, by decide, by omega, fun w4 e4 => ⟨l, _, _, rfl, rfl, hl1, big_lt (by simp), ?_⟩⟩
    have s2 : Same H (upd H1 l (.lst ([.str w1, .str w2, .str w3] ++ [.str w4]))) := same_upd s1 hl0
    have hl2 : (upd H1 l (.lst ([.str w1, .str w2, .str w3] ++ [.str w4]))) l = some (.lst [.str w1, .str w2, .str w3, .str w4]) := upd_same
    generalize upd H1 l (.lst ([.str w1, .str w2, .str w3] ++ [.str w4])) = H2 at s2 hl2
    have hS2 := sq_same s2 hS
    obtain ⟨zk, hT, hk1, hk2⟩ := kind_at (dp_KINDS H2) r8
    have ho : atI ("ABCDEF" : Str).cps.toList (z.office : Int) = some (65 + z.office) := at_nat (j := z.office) (by
      have : ∀ o, o < 6 → ("ABCDEF" : Str).cps.toList[o]? = some (65 + o) := by decide
      exact this _ r9) rfl
    refine ⟨_, rfl, _, _, _, _, rfl, rfl, hS2, rfl, rfl, _, rfl, iteF ⟨_, rfl, .inl ⟨rfl, _, .inl (.inl hl2)⟩, _, rfl, _, _, _, _, rfl, rfl, hS2, rfl, _, 73, z.item, 2, rfl, rfl, by decide, by decide, by omega, fun w5 e5 => ⟨_, rfl, _, _, _, _, rfl, rfl, hS2, rfl, _, _, _, _, rfl, rfl, hT, at_nat hk1 rfl, _, rfl, _, _, _, _, rfl, rfl, hS2, rfl, _, _, _, rfl, rfl, by decide, ho, big_le (by simp), fun q hq => ?_⟩⟩⟩
    have hql : q ≠ l := ne_of_new' hl2 hq
    refine ⟨l, q, _, _, rfl, rfl, same_new hq _ _ hl2, upd_same, big_le (by simp), ?_⟩
    have s3 : Same H (upd (upd H2 q (.lst [.str w5, .str zk, .str ⟨#[65 + z.office]⟩])) l (.lst ([.str w1, .str w2, .str w3, .str w4] ++ [.str w5, .str zk, .str ⟨#[65 + z.office]⟩]))) := same_upd (s2.trans (same_new hq)) hl0
    have hl3 : (upd (upd H2 q (.lst [.str w5, .str zk, .str ⟨#[65 + z.office]⟩])) l (.lst ([.str w1, .str w2, .str w3, .str w4] ++ [.str w5, .str zk, .str ⟨#[65 + z.office]⟩]))) l = some (.lst [.str w1, .str w2, .str w3, .str w4, .str w5, .str zk, .str ⟨#[65 + z.office]⟩]) := upd_same
    generalize upd (upd H2 q (.lst [.str w5, .str zk, .str ⟨#[65 + z.office]⟩])) l (.lst ([.str w1, .str w2, .str w3, .str w4] ++ [.str w5, .str zk, .str ⟨#[65 + z.office]⟩])) = H3 at s3 hl3
    have hS3 := sq_same s3 hS
    refine ⟨_, rfl, .inl ⟨rfl, _, .inl (.inl hl3)⟩, _, rfl, _, _, _, _, rfl, rfl, hS3, rfl, _, 83, z.sign, 6, rfl, rfl, by decide, by decide, by omega, fun w6 e6 => ⟨l, _, _, rfl, rfl, hl3, big_lt (by simp), ?_⟩⟩
    have hzk : (cp zk).length ≤ 10 := by
      rw [hk2]
      have : ∀ j, j < 10 → (CODES.getD j []).length ≤ 10 := by decide
      exact this _ r8
    refine ⟨⟨_, rfl⟩, _, rfl, _, l, [w1, w2, w3, w4, w5, zk, ⟨#[65 + z.office]⟩, w6], rfl, rfl, .inl (.inl (.inl upd_same)), ?_, k _ _ (same_upd s3 hl0) ?_⟩
    · simp only [List.map_cons, List.map_nil, List.sum_cons, List.sum_nil, List.length_cons, List.length_nil]
      have h1 := congrArg List.length e1
      have h2 := congrArg List.length e2
      have h3 := congrArg List.length e3
      have h4 := congrArg List.length e4
      have h5 := congrArg List.length e5
      have h6 := congrArg List.length e6
      simp only [List.length_cons, digits_len] at h1 h2 h3 h4 h5 h6
      simp only [cp_len]
      have h7 : (cp (⟨#[65 + z.office]⟩ : Str)).length = 1 := rfl
      have h8 : (cp (" " : Str)).length = 1 := by decide
      omega
    · rw [cp_join _ (c := 32) (by decide)]
      unfold firstLine
      rw [hb]
      simp only [List.map_cons, List.map_nil, e1, e2, e3, e4, e5, e6, hk2]
      rfl
  | sync tt =>
    obtain ⟨a, rfl, hS⟩ := dp_tupI hd
    rw [factI_sync hb] at hS
    have hS : SqT G.K H a [.int 1, .int (f.device : Int), .int (f.number : Int), .int (f.epoch : Int), .int (f.clock : Int), .int (tt : Int)] := hS
    obtain ⟨⟨r1, r2, r3, r4, r5⟩, r6⟩ := sync_of_range hr0 hb
    refine ⟨_, rfl, _, _, _, _, rfl, rfl, hS, rfl, _, 68, f.device, 1, rfl, rfl, by decide, by decide, by omega, fun w1 e1 => ⟨_, rfl, _, _, _, _, rfl, rfl, hS, rfl, _, 78, f.number, 4, rfl, rfl, by decide, by decide, by omega, fun w2 e2 => ⟨_, rfl, _, _, _, _, rfl, rfl, hS, rfl, _, 69, f.epoch, 1, rfl, rfl, by decide, by decide, by omega, fun w3 e3 => ⟨big_le (by simp), fun l hl0 => ?_⟩⟩⟩⟩
    have s1 : Same H (upd H l (.lst [.str w1, .str w2, .str w3])) := same_new hl0
    have hl1 : (upd H l (.lst [.str w1, .str w2, .str w3])) l = some (.lst [.str w1, .str w2, .str w3]) := upd_same
    generalize upd H l (.lst [.str w1, .str w2, .str w3]) = H1 at s1 hl1
    have hS1 := sq_same s1 hS
    refine ⟨_, rfl, .inl ⟨rfl, _, .inl (.inl hl1)⟩, _, rfl, _, _, _, _, rfl, rfl, hS1, rfl, _, 84, f.clock, 5, rfl, rfl, by decide, by decide, by omega, fun w4 e4 => ⟨l, _, _, rfl, rfl, hl1, big_lt (by simp), ?_⟩⟩
    have s2 : Same H (upd H1 l (.lst ([.str w1, .str w2, .str w3] ++ [.str w4]))) := same_upd s1 hl0
    have hl2 : (upd H1 l (.lst ([.str w1, .str w2, .str w3] ++ [.str w4]))) l = some (.lst [.str w1, .str w2, .str w3, .str w4]) := upd_same
    generalize upd H1 l (.lst ([.str w1, .str w2, .str w3] ++ [.str w4])) = H2 at s2 hl2
    have hS2 := sq_same s2 hS
    refine ⟨_, rfl, _, _, _, _, rfl, rfl, hS2, rfl, rfl, _, rfl, iteT ⟨_, rfl, .inl ⟨rfl, _, .inl (.inl hl2)⟩, _, rfl, _, _, _, _, rfl, rfl, hS2, rfl, _, 84, tt, 5, rfl, rfl, by decide, by decide, by omega, fun w5 e5 => ⟨big_le (by simp), fun q hq => ?_⟩⟩⟩
    refine ⟨l, q, _, _, rfl, rfl, same_new hq _ _ hl2, upd_same, big_le (by simp), ?_⟩
    have s3 : Same H (upd (upd H2 q (.lst [.str "=", .str w5])) l (.lst ([.str w1, .str w2, .str w3, .str w4] ++ [.str "=", .str w5]))) := same_upd (s2.trans (same_new hq)) hl0
    refine ⟨⟨_, rfl⟩, _, rfl, _, l, [w1, w2, w3, w4, "=", w5], rfl, rfl, .inl (.inl (.inl upd_same)), ?_, k _ _ s3 ?_⟩
    · simp only [List.map_cons, List.map_nil, List.sum_cons, List.sum_nil, List.length_cons, List.length_nil]
      have h1 := congrArg List.length e1
      have h2 := congrArg List.length e2
      have h3 := congrArg List.length e3
      have h4 := congrArg List.length e4
      have h5 := congrArg List.length e5
      simp only [List.length_cons, digits_len] at h1 h2 h3 h4 h5
      simp only [cp_len]
      have h7 : (cp ("=" : Str)).length = 1 := by decide
      have h8 : (cp (" " : Str)).length = 1 := by decide
      omega
    · rw [cp_join _ (c := 32) (by decide)]
      unfold firstLine
      rw [hb]
      simp only [List.map_cons, List.map_nil, e1, e2, e3, e4, e5]
      rfl
end Sc
namespace Sc
open PySem PySem.Spec PyProof.Rows L2
open C8 (pe_gc)
open Vbpoag (Fact Scan Body cut isDigit number checkedFact firstRead codeOf office digits decimal joined firstLine otherLine CODES text)
def sp_named (G : Gx) : Sp := fun vs H Q _ => ∃ (v : V) (f : Fact), vs = [v] ∧ Dp G.K H v (factD f) ∧ Vbpoag.inRange f = true ∧ ∀ (r : Str) (H' : Hp), Same H H' → cp r = otherLine f → Q (.str r) H'
theorem cal_named {P : Program} {w : World} {mg : Str → Option Value} {base : Heap} {G : Gx} (T : Txt G mg) (h : Has G mg "named" s_named) : CalN P w G.K mg base 2 "named" (sp_named G) := by
  obtain ⟨f, fd, F, hm⟩ := h
  have nd := sc_named.nd
  obtain ⟨a_KINDS, g_KINDS, dp_KINDS⟩ := T.t_KINDS
  refine ⟨f, fd, ["fact"], ?_, hm, F.kp, F.bindsN fun _ _ _ _ _ _ us hl => match us, hl with | [_], _ => rfl⟩
  refine F.ok sc_named (fun vs H Q E h => by obtain ⟨v, f, rfl, _⟩ := h; rfl) fun cdv A outer s H vs Q E hr h => ?_
  refine ⟨_, PSs.nox (pss_cons (ps_if (pt_cmpR op_eq (pe_ix ix_tup (pv 0) pe_int (fun _ _ => rfl)) (pe_gc rfl T.c_LOOK) (nomark _)) (pss_one (ps_set (i := 1) nd rfl (Or.inl rfl) (pe_lst (pa_cons (pe_op op_add_str pe_str (pe_gc rfl T.c_LOOK_NAME)) (pa_cons (pe_op op_add_str pe_str (pe_callTy call_str_int (by rfl) T.b_str (by decide +kernel) (pa_cons (pe_ix ix_tup (pv 0) (pe_gc rfl T.c_TIME) (fun _ _ => rfl)) pa_nil))) pa_nil))))) (pss_cons (ps_set (i := 1) nd rfl (Or.inl rfl) (pe_lst (pa_cons (pe_op op_add_str pe_str (pe_ix ix_tup (pe_gc rfl g_KINDS) (pe_ix ix_tup (pv 0) (pe_gc rfl T.c_KIND) (fun _ _ => rfl)) (fun _ _ => rfl))) (pa_cons (pe_op op_add_str pe_str (pe_ix ix_str (pe_gc rfl T.c_OFFICES) (pe_ix ix_tup (pv 0) (pe_gc rfl T.c_OFFICE) (fun _ _ => rfl)) (fun _ _ => rfl))) (pa_cons (pe_op op_add_str pe_str (pe_callTy call_str_int (by rfl) T.b_str (by decide +kernel) (pa_cons (pe_ix ix_tup (pv 0) (pe_gc rfl T.c_ITEM) (fun _ _ => rfl)) pa_nil))) pa_nil)))))
      (pss_one (ps_if (pt_cmpR op_ne (pe_ix ix_tup (pv 0) (pe_gc rfl T.c_SIGNATURE) (fun _ _ => rfl)) pe_int (nomark _)) (pss_one (ps_expr (pe_bm PySem.F.plainAttrs_list PySem.F.slot_list_append PySem.F.type_list_append mt_append (pv 1) (pa_cons (pe_op op_add_str pe_str (pe_callTy call_str_int (by rfl) T.b_str (by decide +kernel) (pa_cons (pe_ix ix_tup (pv 0) (pe_gc rfl T.c_SIGNATURE) (fun _ _ => rfl)) pa_nil))) pa_nil)))) pss_nil))))
      (pss_cons (ps_expr (pe_bm PySem.F.plainAttrs_list PySem.F.slot_list_extend PySem.F.type_list_extend mt_extend (pv 1) (pa_cons (pe_lst (pa_cons (pe_op op_add_str pe_str (pe_callTy call_str_int (by rfl) T.b_str (by decide +kernel) (pa_cons (pe_ix ix_tup (pv 0) (pe_gc rfl T.c_DEVICE) (fun _ _ => rfl)) pa_nil))) (pa_cons (pe_op op_add_str pe_str (pe_callTy call_str_int (by rfl) T.b_str (by decide +kernel) (pa_cons (pe_ix ix_tup (pv 0) (pe_gc rfl T.c_NUMBER) (fun _ _ => rfl)) pa_nil))) pa_nil))) pa_nil)))
      (pss_one (ps_ret (pe_join pe_str (pe_op op_cat (pv 1) (pe_lst (pa_cons (pe_op op_add_str pe_str (pe_callTy call_str_int (by rfl) T.b_str (by decide +kernel) (pa_cons (pe_ix ix_tup (pv 0) (pe_gc rfl T.c_SETTING) (fun _ _ => rfl)) pa_nil))) (pa_cons (pe_op op_add_str pe_str (pe_callTy call_str_int (by rfl) T.b_str (by decide +kernel) (pa_cons (pe_ix ix_tup (pv 0) (pe_gc rfl T.c_CLOCK) (fun _ _ => rfl)) pa_nil))) pa_nil))))))))), ?_⟩
  obtain ⟨v, f, rfl, hd, hr0, k⟩ := h
  obtain ⟨a, xs, rfl, hF⟩ := fact_hd hd
  obtain ⟨r1, r2, r3, r4, r5⟩ := head_range hr0
  refine cut_seq (P := fun σ H2 => ∃ (l : Addr) (ws : List Str), σ = [some (.ref a), some (.ref l)] ∧ H l = none ∧ Same H H2 ∧ H2 l = some (.lst (ws.map V.str)) ∧ ws.map cp = front f ∧ (∀ y ∈ ws, (cp y).length ≤ 20) ∧ ws.length ≤ 4) (fun fin => ?_) fun σ H2 h2 => ?_
  · cases hb : f.body with
    | scan z =>
      obtain ⟨a', e, hS⟩ := fact_sq hd hb
      cases e
      obtain ⟨_, r6, r7, r8, r9, r10⟩ := scan_of_range hr0 hb
      obtain ⟨zk, hT, hk1, hk2⟩ := kind_at (dp_KINDS H) r8
      have ho := off_at r9
      have hzk : (cp zk).length = 3 := by rw [hk2, code_len r8]
      have di := dec_len (n := z.item) (by omega)
      have ds := dec_len (n := z.sign) (by omega)
      have l4 : ∀ s : Str, (cp s).length = 4 → s.length = 4 := fun s h => by rw [cp_len, h]
      refine ⟨_, rfl, _, _, _, _, rfl, rfl, hS, rfl, rfl, _, rfl, iteF ⟨_, rfl, _, _, _, _, rfl, rfl, hS, rfl, _, _, _, _, rfl, rfl, hT, at_nat hk1 rfl, _, _, rfl, rfl, big_le (by rw [cp_len, cp_len, hzk]; decide), _, rfl, _, _, _, _, rfl, rfl, hS, rfl, _, _, _, rfl, rfl, by decide, ho, _, _, rfl, rfl, big_le (by have e : (⟨#[65 + z.office]⟩ : Str).length = 1 := rfl; rw [e]; decide), _, rfl, _, _, _, _, rfl, rfl, hS, rfl, _, rfl, log_ok (by omega), _, _, rfl, rfl, big_le (by rw [str_len, cp_len]; have : (cp "ITM:").length = 4 := (by decide); omega), big_le (by simp), fun l hl0 => ?_⟩⟩
      have s1 : Same H (upd H l (.lst [.str ("EVT:" ++ zk), .str ("OFF:" ++ ⟨#[65 + z.office]⟩), .str ("ITM:" ++ toString (z.item : Int))])) := same_new hl0
      have hl1 : (upd H l (.lst [.str ("EVT:" ++ zk), .str ("OFF:" ++ ⟨#[65 + z.office]⟩), .str ("ITM:" ++ toString (z.item : Int))])) l = some (.lst [.str ("EVT:" ++ zk), .str ("OFF:" ++ ⟨#[65 + z.office]⟩), .str ("ITM:" ++ toString (z.item : Int))]) := upd_same
      generalize upd H l (.lst [.str ("EVT:" ++ zk), .str ("OFF:" ++ ⟨#[65 + z.office]⟩), .str ("ITM:" ++ toString (z.item : Int))]) = H1 at s1 hl1
      have hS1 := sq_same s1 hS
      have base : [("EVT:" ++ zk : Str), "OFF:" ++ ⟨#[65 + z.office]⟩, "ITM:" ++ toString (z.item : Int)].map cp = [text "EVT" ++ (58 :: CODES.getD z.kind []), text "OFF" ++ (58 :: [65 + z.office]), text "ITM" ++ (58 :: decimal z.item)] := by
        simp only [List.map_cons, List.map_nil, cp_app, hk2, cp_int]
        rfl
      have bl : ∀ y ∈ [("EVT:" ++ zk : Str), "OFF:" ++ ⟨#[65 + z.office]⟩, "ITM:" ++ toString (z.item : Int)], (cp y).length ≤ 20 := fun y hy => by
        have e1 : (cp ("EVT:" : Str)).length = 4 := by decide
        have e2 : (cp ("OFF:" : Str)).length = 4 := by decide
        have e3 : (cp ("ITM:" : Str)).length = 4 := by decide
        have e4 : (cp (⟨#[65 + z.office]⟩ : Str)).length = 1 := rfl
        simp only [List.mem_cons, List.not_mem_nil, or_false] at hy
        rcases hy with e | e | e <;> subst e <;> rw [cp_app, List.length_append]
        · omega
        · omega
        · rw [cp_int]; omega
      have e0 : (!decide (V.int (z.sign : Int) = V.int 0)) = (z.sign != 0) := by
        have := decN (a := z.sign) (b := 0)
        exact congrArg Bool.not this
      refine ⟨_, rfl, _, _, _, _, rfl, rfl, hS1, rfl, rfl, _, rfl, ?_⟩
      refine iteB (fun c => ?_) fun c => ?_
      · have c := e0.symm.trans c
        have hs0 : ¬ z.sign = 0 := by simpa using c
        refine ⟨_, rfl, .inl ⟨rfl, _, .inl (.inl hl1)⟩, _, rfl, _, _, _, _, rfl, rfl, hS1, rfl, _, rfl, log_ok (by omega), _, _, rfl, rfl, big_le (by rw [str_len, cp_len]; have : (cp "SIG:").length = 4 := (by decide); omega), l, _, _, rfl, rfl, hl1, big_lt (by simp), fin _ _ ⟨l, [("EVT:" ++ zk : Str), "OFF:" ++ ⟨#[65 + z.office]⟩, "ITM:" ++ toString (z.item : Int), "SIG:" ++ toString (z.sign : Int)], rfl, hl0, same_upd s1 hl0, upd_same, ?_, fun y hy => ?_, by simp⟩⟩
        · unfold front
          rw [hb]
          dsimp only
          rw [if_neg hs0, ← base]
          simp only [List.map_cons, List.map_nil, List.cons_append, List.nil_append, cp_app, cp_int]
          rfl
        · have e1 : (cp ("SIG:" : Str)).length = 4 := by decide
          rcases List.mem_append.mp (show y ∈ [("EVT:" ++ zk : Str), "OFF:" ++ ⟨#[65 + z.office]⟩, "ITM:" ++ toString (z.item : Int)] ++ [("SIG:" ++ toString (z.sign : Int) : Str)] from hy) with h | h
          · exact bl y h
          · rw [List.mem_singleton.mp h, cp_app, cp_int, List.length_append]; omega
      · have c := e0.symm.trans c
        have hs0 : z.sign = 0 := by simpa using c
        refine fin _ _ ⟨l, [("EVT:" ++ zk : Str), "OFF:" ++ ⟨#[65 + z.office]⟩, "ITM:" ++ toString (z.item : Int)], rfl, hl0, s1, hl1, ?_, bl, by simp⟩
        unfold front
        rw [hb]
        dsimp only
        rw [if_pos hs0, List.append_nil]
        exact base
    | sync tt =>
      obtain ⟨a', e, hS⟩ := dp_tupI hd
      cases e
      rw [factI_sync hb] at hS
      have hS : SqT G.K H a [.int 1, .int (f.device : Int), .int (f.number : Int), .int (f.epoch : Int), .int (f.clock : Int), .int (tt : Int)] := hS
      obtain ⟨_, r6⟩ := sync_of_range hr0 hb
      have dt := dec_len (n := tt) (by omega)
      refine ⟨_, rfl, _, _, _, _, rfl, rfl, hS, rfl, rfl, _, rfl, iteT ⟨_, _, rfl, rfl, big_le (by decide), _, rfl, _, _, _, _, rfl, rfl, hS, rfl, _, rfl, log_ok (by omega), _, _, rfl, rfl, big_le (by rw [str_len, cp_len]; have : (cp "TRU:").length = 4 := (by decide); omega), big_le (by simp), fun l hl0 => fin _ _ ⟨l, [("EVT:" ++ "SYN" : Str), "TRU:" ++ toString (tt : Int)], rfl, hl0, same_new hl0, upd_same, ?_, fun y hy => ?_, by simp⟩⟩⟩
      · unfold front
        rw [hb]
        simp only [List.map_cons, List.map_nil, cp_app, cp_int]
        rfl
      · have e1 : (cp ("EVT:" : Str)).length = 4 := by decide
        have e2 : (cp ("SYN" : Str)).length = 3 := by decide
        have e3 : (cp ("TRU:" : Str)).length = 4 := by decide
        simp only [List.mem_cons, List.not_mem_nil, or_false] at hy
        rcases hy with e | e <;> subst e <;> rw [cp_app, List.length_append]
        · omega
        · rw [cp_int]; omega
  · obtain ⟨l, ws, rfl, hl0, s2, hl2, hws, hwl, hwn⟩ := h2
    have hF2 := sq_same s2 hF
    have d1 := dec_len (n := f.device) (by omega)
    have d2 := dec_len (n := f.number) (by omega)
    have d3 := dec_len (n := f.epoch) (by omega)
    have d4 := dec_len (n := f.clock) (by omega)
    have c1 : (cp ("DEV:" : Str)).length = 4 := by decide
    have c2 : (cp ("SEQ:" : Str)).length = 4 := by decide
    have c3 : (cp ("EPO:" : Str)).length = 4 := by decide
    have c4 : (cp ("CLK:" : Str)).length = 4 := by decide
    refine ⟨_, rfl, .inl ⟨rfl, _, .inl (.inl hl2)⟩, _, rfl, _, _, _, _, rfl, rfl, hF2, at_nat (j := 1) rfl rfl, _, rfl, log_ok (by omega), _, _, rfl, rfl, big_le (by rw [str_len, cp_len]; omega), _, rfl, _, _, _, _, rfl, rfl, hF2, at_nat (j := 2) rfl rfl, _, rfl, log_ok (by omega), _, _, rfl, rfl, big_le (by rw [str_len, cp_len]; omega), big_le (by simp), fun q hq => ⟨l, q, _, _, rfl, rfl, same_new hq _ _ hl2, upd_same, big_le (by simp; omega), ?_⟩⟩
    have s3 : Same H (upd (upd H2 q (.lst [.str ("DEV:" ++ toString (f.device : Int)), .str ("SEQ:" ++ toString (f.number : Int))])) l (.lst (ws.map V.str ++ [.str ("DEV:" ++ toString (f.device : Int)), .str ("SEQ:" ++ toString (f.number : Int))]))) := same_upd (s2.trans (same_new hq)) hl0
    have hl3 := upd_same (H := upd H2 q (.lst [.str ("DEV:" ++ toString (f.device : Int)), .str ("SEQ:" ++ toString (f.number : Int))])) (a := l) (o := .lst (ws.map V.str ++ [.str ("DEV:" ++ toString (f.device : Int)), .str ("SEQ:" ++ toString (f.number : Int))]))
    generalize upd (upd H2 q (.lst [.str ("DEV:" ++ toString (f.device : Int)), .str ("SEQ:" ++ toString (f.number : Int))])) l (.lst (ws.map V.str ++ [.str ("DEV:" ++ toString (f.device : Int)), .str ("SEQ:" ++ toString (f.number : Int))])) = H3 at s3 hl3
    have hF3 := sq_same s3 hF
    refine ⟨⟨_, rfl⟩, _, rfl, _, rfl, _, _, _, _, rfl, rfl, hF3, at_nat (j := 3) rfl rfl, _, rfl, log_ok (by omega), _, _, rfl, rfl, big_le (by rw [str_len, cp_len]; omega), _, rfl, _, _, _, _, rfl, rfl, hF3, at_nat (j := 4) rfl rfl, _, rfl, log_ok (by omega), _, _, rfl, rfl, big_le (by rw [str_len, cp_len]; omega), big_le (by simp), fun q1 hq1 => ⟨l, q1, _, _, rfl, rfl, same_new hq1 _ _ hl3, upd_same, big_le (by simp; omega), fun q2 hq2 => ?_⟩⟩
    refine ⟨_, q2, ws ++ [("DEV:" : Str) ++ toString (f.device : Int), "SEQ:" ++ toString (f.number : Int), "EPO:" ++ toString (f.epoch : Int), "CLK:" ++ toString (f.clock : Int)], rfl, rfl, .inl (sqL_eq upd_same ?_), ?_, k _ _ (s3.trans ((same_new hq1).trans (same_new hq2))) ?_⟩
    · rw [List.map_append, List.append_assoc]; rfl
    · have := sum_len (ws ++ [("DEV:" : Str) ++ toString (f.device : Int), "SEQ:" ++ toString (f.number : Int), "EPO:" ++ toString (f.epoch : Int), "CLK:" ++ toString (f.clock : Int)]) 20 fun y hy => by
        rcases (List.mem_append.mp hy) with hy | hy
        · exact hwl y hy
        · simp only [List.mem_cons, List.not_mem_nil, or_false] at hy
          rcases hy with e | e | e | e <;> subst e <;> rw [cp_app, List.length_append, cp_int] <;> omega
      have e2 : (ws ++ [("DEV:" : Str) ++ toString (f.device : Int), "SEQ:" ++ toString (f.number : Int), "EPO:" ++ toString (f.epoch : Int), "CLK:" ++ toString (f.clock : Int)]).length = ws.length + 4 := by rw [List.length_append]; rfl
      have e3 : (";" : Str).length = 1 := by decide
      rw [e2] at this ⊢
      rw [e3]
      omega
    · rw [cp_join _ (c := 59) (by decide), List.map_append, hws]
      unfold otherLine front
      simp only [List.map_cons, List.map_nil, cp_app, cp_int]
      cases hb : f.body with
      | scan z => rfl
      | sync t => rfl
def strOf (l : List Nat) : Str := ⟨l.toArray⟩
theorem cp_strOf (l : List Nat) : cp (strOf l) = l := rfl
theorem dec_le {n : Nat} (h : n < 1000000) : (decimal n).length ≤ 6 := dec_len h
theorem first_len {f : Fact} (h : Vbpoag.inRange f = true) : (firstLine f).length ≤ 100 := by
  unfold firstLine
  cases hb : f.body with
  | scan z =>
    have hk := code_len (scan_of_range h hb).2.2.2.1
    refine Nat.le_trans (joined_len 32 _ 7 fun w hw => ?_) (by simp)
    simp only [List.cons_append, List.nil_append, List.mem_cons, List.not_mem_nil, or_false] at hw
    rcases hw with e | e | e | e | e | e | e | e <;> subst e <;> first | (rw [hk]; decide) | simp [digits_len]
  | sync t =>
    refine Nat.le_trans (joined_len 32 _ 7 fun w hw => ?_) (by simp)
    simp only [List.cons_append, List.nil_append, List.mem_cons, List.not_mem_nil, or_false] at hw
    rcases hw with e | e | e | e | e | e <;> subst e <;> simp [digits_len]
theorem other_len {f : Fact} (h : Vbpoag.inRange f = true) : (otherLine f).length ≤ 100 := by
  obtain ⟨r1, r2, r3, r4, r5⟩ := head_range h
  have d1 := dec_le (n := f.device) (by omega)
  have d2 := dec_le (n := f.number) (by omega)
  have d3 := dec_le (n := f.epoch) (by omega)
  have d4 := dec_le (n := f.clock) (by omega)
  have tl : ∀ s ∈ ["EVT", "OFF", "ITM", "SIG", "TRU", "DEV", "SEQ", "EPO", "CLK", "SYN"], (text s).length = 3 := by decide
  unfold otherLine
  cases hb : f.body with
  | scan z =>
    obtain ⟨_, r6, r7, r8, r9, r10⟩ := scan_of_range h hb
    have hk := code_len r8
    have d5 := dec_le (n := z.item) (by omega)
    have d6 := dec_le (n := z.sign) (by omega)
    refine Nat.le_trans (joined_len 59 _ 10 fun w hw => ?_) ?_
    · dsimp only at hw
      rw [List.mem_append, List.mem_append] at hw
      rcases hw with (hw | hw) | hw
      · simp only [List.mem_cons, List.not_mem_nil, or_false] at hw
        rcases hw with e | e | e <;> subst e <;> rw [List.length_append, List.length_cons, tl _ (by simp)]
        · omega
        · simp
        · omega
      · by_cases h0 : z.sign = 0
        · rw [if_pos h0] at hw; cases hw
        · rw [if_neg h0] at hw
          rw [List.mem_singleton.mp hw, List.length_append, List.length_cons, tl _ (by simp)]
          omega
      · simp only [List.mem_cons, List.not_mem_nil, or_false] at hw
        rcases hw with e | e | e | e <;> subst e <;> rw [List.length_append, List.length_cons, tl _ (by simp)] <;> omega
    · dsimp only
      by_cases h0 : z.sign = 0
      · rw [if_pos h0]; simp
      · rw [if_neg h0]; simp
  | sync t =>
    obtain ⟨_, r6⟩ := sync_of_range h hb
    have d5 := dec_le (n := t) (by omega)
    refine Nat.le_trans (joined_len 59 _ 10 fun w hw => ?_) (by simp)
    dsimp only at hw
    rw [List.mem_append] at hw
    rcases hw with hw | hw
    · simp only [List.mem_cons, List.not_mem_nil, or_false] at hw
      rcases hw with e | e <;> subst e <;> rw [List.length_append, List.length_cons, tl _ (by simp)]
      · rw [tl _ (by simp)]; omega
      · omega
    · simp only [List.mem_cons, List.not_mem_nil, or_false] at hw
      rcases hw with e | e | e | e <;> subst e <;> rw [List.length_append, List.length_cons, tl _ (by simp)] <;> omega
def sp_written (G : Gx) : Sp := fun vs H Q _ => ∃ (v : V) (fs : List Fact) (form : Nat), vs = [v, .int form] ∧ Dp G.K H v (factsD fs) ∧ fs.length ≤ 9001 ∧ (∀ f ∈ fs, Vbpoag.inRange f = true) ∧ ∀ b H', Same H H' → H b = none → H' b = some (.lst ((Vbpoag.written form fs).map natV)) → Q (.ref b) H'
theorem cal_written {P : Program} {w : World} {mg : Str → Option Value} {base : Heap} {G : Gx} (T : Txt G mg) (h : Has G mg "written" s_written) (c_codes : CalN P w G.K mg base 1 "codes" (sp_codes G)) (c_named : CalN P w G.K mg base 2 "named" (sp_named G)) (c_worded : CalN P w G.K mg base 2 "worded" (sp_worded G)) : CalN P w G.K mg base 3 "written" (sp_written G) := by
  obtain ⟨f, fd, F, hm⟩ := h
  have nd := sc_written.nd
  refine ⟨f, fd, ["facts", "form"], ?_, hm, F.kp, F.bindsN fun _ _ _ _ _ _ us hl => match us, hl with | [_, _], _ => rfl⟩
  refine F.ok sc_written (fun vs H Q E h => by obtain ⟨v, fs, form, rfl, _⟩ := h; rfl) fun cdv A outer s H vs Q E hr h => ?_
  refine ⟨_, PSs.nox (pss_cons (ps_if (pt_cmpR op_eq (pv 1) (pe_gc rfl T.c_WORDED) (nomark _)) (pss_one (ps_ret (pe_cn c_codes hr (by decide) rfl (pa_cons (pe_join pe_str (pe_lc (own := [("fact", 2)]) rfl nd (pi_list (pv 0)) (blkOk_by (own := [("fact", 2)]) (N := N_written) (sc := defScope s_written) (by decide +kernel)) (fun _ _ _ _ _ => (pg_name (i := 2) nd rfl (Or.inl rfl))) (fun _ _ _ _ _ => pts_nil) (fun _ _ _ _ _ => (pe_cn c_worded hr (by decide) rfl (pa_cons (pv 2) pa_nil))))) pa_nil)))) pss_nil)
      (pss_one (ps_ret (pe_cn c_codes hr (by decide) rfl (pa_cons (pe_join pe_str (pe_lc (own := [("fact", 2)]) rfl nd (pi_list (pv 0)) (blkOk_by (own := [("fact", 2)]) (N := N_written) (sc := defScope s_written) (by decide +kernel)) (fun _ _ _ _ _ => (pg_name (i := 2) nd rfl (Or.inl rfl))) (fun _ _ _ _ _ => pts_nil) (fun _ _ _ _ _ => (pe_cn c_named hr (by decide) rfl (pa_cons (pv 2) pa_nil))))) pa_nil))))), ?_⟩
  obtain ⟨v, fs, form, rfl, hd, hl, hr0, k⟩ := h
  obtain ⟨a, xs, rfl, hs, hx⟩ := dp_list_inv hd
  have hlen : xs.length = fs.length := by rw [dpAll_len hx, List.length_map]
  refine ⟨_, rfl, rfl, _, rfl, iteB (fun c => ?_) fun c => ?_⟩
  · have c : form = 0 := by have := of_decide_eq_true c; simp only [V.int.injEq] at this; omega
    subst c
    refine ⟨⟨_, rfl⟩, _, rfl, a, rfl, ⟨_, hs⟩, fun D hD => lc_data (fun _ => true) (fun f => .str (strOf (firstLine f))) hD hs hlen (big_lt (by omega)) (fun f _ _ => rfl) (fun j x f H' Kf Kt hxj hfj s kf kt => ⟨rfl, iteT (B := Kf H') ⟨_, rfl, x, f, rfl, Same.dp s (facts_at hx hxj hfj), hr0 f (List.mem_of_getElem? hfj), fun r H2 s2 hr => kt _ _ s2 rfl ?_⟩⟩) fun H1 ys s1 hD1 hdp1 => ?_⟩
    · have : r = strOf (firstLine f) := cp_ext hr
      rw [this]
      exact .str _
    · rw [filter_true'] at hdp1
      have e1 : fs.map (fun f => PyData.str (strOf (firstLine f))) = (fs.map fun f => strOf (firstLine f)).map PyData.str := by rw [List.map_map]; rfl
      rw [e1] at hdp1
      have e2 := dpAll_strs_inv hdp1
      subst e2
      have hsum := sum_len (fs.map fun f => strOf (firstLine f)) 100 fun y hy => by
        obtain ⟨f, hf, rfl⟩ := List.mem_map.mp hy
        rw [cp_strOf]
        exact first_len (hr0 f hf)
      rw [List.length_map] at hsum
      have ej := cp_join "\n" (c := 10) (by decide) (fs.map fun f => strOf (firstLine f))
      rw [List.map_map] at ej
      have ew : cp (Txt.join "\n" (fs.map fun f => strOf (firstLine f))) = Vbpoag.written 0 fs := ej
      refine ⟨_, D, _, rfl, rfl, .inl (.inl (.inl hD1)), ?_, _, rfl, ?_, fun b H2 s2 hb0 hb2 => k b H2 (s1.trans s2) (same_none s1 hb0) ?_⟩
      · have e3 : ("\n" : Str).length = 1 := by decide
        rw [e3, List.length_map]
        omega
      · rw [cp_size, ej]
        have := joined_len 10 (fs.map fun f => firstLine f) 100 fun w hw => by
          obtain ⟨f, hf, rfl⟩ := List.mem_map.mp hw
          exact first_len (hr0 f hf)
        rw [List.length_map] at this
        refine Nat.le_trans this ?_
        omega
      · rw [hb2, ← ew]; rfl
  · have c : ¬ form = 0 := fun e => by subst e; exact absurd rfl (of_decide_eq_false c)
    have el : ∀ f, Vbpoag.lineOf form f = otherLine f := fun f => by unfold Vbpoag.lineOf; rw [if_neg c]
    refine ⟨⟨_, rfl⟩, _, rfl, a, rfl, ⟨_, hs⟩, fun D hD => lc_data (fun _ => true) (fun f => .str (strOf (otherLine f))) hD hs hlen (big_lt (by omega)) (fun f _ _ => rfl) (fun j x f H' Kf Kt hxj hfj s kf kt => ⟨rfl, iteT (B := Kf H') ⟨_, rfl, x, f, rfl, Same.dp s (facts_at hx hxj hfj), hr0 f (List.mem_of_getElem? hfj), fun r H2 s2 hr => kt _ _ s2 rfl ?_⟩⟩) fun H1 ys s1 hD1 hdp1 => ?_⟩
    · have : r = strOf (otherLine f) := cp_ext hr
      rw [this]
      exact .str _
    · rw [filter_true'] at hdp1
      have e1 : fs.map (fun f => PyData.str (strOf (otherLine f))) = (fs.map fun f => strOf (otherLine f)).map PyData.str := by rw [List.map_map]; rfl
      rw [e1] at hdp1
      have e2 := dpAll_strs_inv hdp1
      subst e2
      have hsum := sum_len (fs.map fun f => strOf (otherLine f)) 100 fun y hy => by
        obtain ⟨f, hf, rfl⟩ := List.mem_map.mp hy
        rw [cp_strOf]
        exact other_len (hr0 f hf)
      rw [List.length_map] at hsum
      have ej := cp_join "\n" (c := 10) (by decide) (fs.map fun f => strOf (otherLine f))
      rw [List.map_map] at ej
      have ew : cp (Txt.join "\n" (fs.map fun f => strOf (otherLine f))) = Vbpoag.written form fs := by
        rw [ej]
        unfold Vbpoag.written
        congr 1
        exact List.map_congr_left fun f _ => (el f).symm
      refine ⟨_, D, _, rfl, rfl, .inl (.inl (.inl hD1)), ?_, _, rfl, ?_, fun b H2 s2 hb0 hb2 => k b H2 (s1.trans s2) (same_none s1 hb0) ?_⟩
      · have e3 : ("\n" : Str).length = 1 := by decide
        rw [e3, List.length_map]
        omega
      · rw [cp_size, ej]
        have := joined_len 10 (fs.map fun f => otherLine f) 100 fun w hw => by
          obtain ⟨f, hf, rfl⟩ := List.mem_map.mp hw
          exact other_len (hr0 f hf)
        rw [List.length_map] at this
        refine Nat.le_trans this ?_
        omega
      · rw [hb2, ← ew]; rfl
end Sc
namespace Sc
open PySem PySem.Spec PyProof.Rows L2
open C8 (pe_gc)
open Vbpoag (Fact Scan Body State factsAt isPlace isItem within)
def sp_Refused_init (G : Gx) : Sp := fun vs H Q _ => ∃ (a : Addr) (n : Int), vs = [.ref a, .int n] ∧ H a = some (exo a G.CR none) ∧ ∀ dx, H dx = none → dx ≠ a → Q .non (upd (upd H dx (exd dx [("number", .int n)])) a (exo a G.CR (some dx)))
theorem cal_Refused_init {P : Program} {w : World} {mg : Str → Option Value} {base : Heap} {G : Gx} (T : Txt G mg) (h : HasR G s_Refused_init) : MakR P w G mg base 1 (sp_Refused_init G) := by
  obtain ⟨f, fd, F, q1, q2⟩ := h
  have nd := sc_Refused_init.nd
  refine ⟨f, fd, ["self", "number"], q1, q2, ?_, F.bindsN fun _ _ _ _ _ _ us hl => match us, hl with | [_, _], _ => rfl⟩
  refine F.ok sc_Refused_init (fun vs H Q E h => by obtain ⟨a, n, rfl, _⟩ := h; rfl) fun cdv A outer s H vs Q E hr h => ?_
  refine ⟨_, PSs.nox (pss_cons (ps_expr (pe_veinit (by rfl) T.b_ValueError T.vV (pa_cons (pv 0) (pa_cons pe_str pa_nil))))
      (pss_one (ps_ost (pv 0) (pv 1)))), ?_⟩
  obtain ⟨a, n, rfl, ha, k⟩ := h
  exact ⟨_, rfl, a, G.CR, _, rfl, by decide, T.oR, ha, _, rfl, _, rfl, a, G.CR, rfl, T.oR, T.nR, .inl ⟨ha, fun dx h1 h2 => k dx h1 h2⟩⟩
def sp_want (G : Gx) : Sp := fun vs H Q E => ∃ (b : Bool) (n : Int), vs = [.bl b, .int n] ∧ (b = true → Q .non H) ∧ (b = false → RefE G H E n)
theorem cal_want {P : Program} {w : World} {mg : Str → Option Value} {base : Heap} {G : Gx} (T : Txt G mg) (h : Has G mg "want" s_want) (c_Refused : MakR P w G mg base 1 (sp_Refused_init G)) : CalX P w G.K mg base 3 "want" (sp_want G) := by
  obtain ⟨f, fd, F, hm⟩ := h
  have nd := sc_want.nd
  refine ⟨f, fd, ["is_so", "number"], ?_, hm, F.kp, F.bindsN fun _ _ _ _ _ _ us hl => match us, hl with | [_, _], _ => rfl⟩
  refine F.ok sc_want (fun vs H Q E h => by obtain ⟨b, n, rfl, _⟩ := h; rfl) fun cdv A outer s H vs Q E hr h => ?_
  refine ⟨_, (pss_one (ps_if (pt_not (pt_val (pv 0))) (pss_one (ps_raiseR rfl (takes_of rfl rfl rfl rfl) rfl T c_Refused hr (by decide) rfl (pa_cons (pv 1) pa_nil))) pss_nil)), ?_⟩
  obtain ⟨b, n, rfl, k1, k2⟩ := h
  refine ⟨_, rfl, _, rfl, iteN (fun c => ⟨_, rfl, by simp, fun a ha => ⟨a, n, rfl, upd_same, fun dx h1 h2 => ⟨rfl, dx, _, upd_same, by rw [upd_ne h2]; exact upd_same, ?_, k2 c dx _ (fun b' u hb' => ?_) upd_same⟩⟩⟩) fun c => k1 c⟩
  · rw [upd_ne h2] at h1; exact h1
  · have na : b' ≠ a := fun e => by rw [e, ha] at hb'; cases hb'
    have nd' : b' ≠ dx := fun e => by
      rw [upd_ne h2] at h1
      rw [e, h1] at hb'; cases hb'
    rw [upd_ne nd']
    unfold L2.del
    simp only [if_neg na]
    rw [upd_ne na, upd_ne nd', upd_ne na]
    exact hb'
def sp_want_within (G : Gx) : Sp := fun vs H Q E => ∃ (n lo hi : Int), vs = [.int n, .int lo, .int hi] ∧ (btw lo n hi = true → Q .non H) ∧ (btw lo n hi = false → RefE G H E (-1))
theorem cal_want_within {P : Program} {w : World} {mg : Str → Option Value} {base : Heap} {G : Gx} (T : Txt G mg) (h : Has G mg "want_within" s_want_within) (c_want : CalX P w G.K mg base 3 "want" (sp_want G)) (c_is_from : CalN P w G.K mg base 1 "is_from" (sp_is_from G)) : CalX P w G.K mg base 4 "want_within" (sp_want_within G) := by
  obtain ⟨f, fd, F, hm⟩ := h
  have nd := sc_want_within.nd
  refine ⟨f, fd, ["number", "low", "high"], ?_, hm, F.kp, F.bindsN fun _ _ _ _ _ _ us hl => match us, hl with | [_, _, _], _ => rfl⟩
  refine F.ok sc_want_within (fun vs H Q E h => by obtain ⟨n, lo, hi, rfl, _⟩ := h; rfl) fun cdv A outer s H vs Q E hr h => ?_
  refine ⟨_, (pss_one (ps_expr (pe_cx c_want hr (by decide) rfl (fun σ => passAt (takes_of rfl rfl rfl rfl) σ) (pa_cons (pe_cn c_is_from hr (by decide) rfl (pa_cons (pv 1) (pa_cons (pv 2) (pa_cons (pv 0) pa_nil)))) (pa_cons (pe_gc rfl T.c_OUT_places) pa_nil))))), ?_⟩
  obtain ⟨n, lo, hi, rfl, k1, k2⟩ := h
  exact ⟨_, rfl, _, rfl, _, rfl, lo, hi, n, rfl, _, _, rfl, k1, k2⟩
end Sc
namespace Sc
open PySem PySem.Spec PyProof.Rows L2
open C8 (pe_gc)
open Vbpoag (Fact Scan Body State factsAt isPlace isItem within start setFacts learnAll)
def textOk (t : List Int) : Bool := decide (t.length ≤ 4000) && t.all fun z => within z 0 255
def sp_want_text (G : Gx) : Sp := fun vs H Q E => ∃ (a : Addr) (t : List Int), vs = [.ref a] ∧ SqL G.K H a (t.map V.int) ∧ t.length ≤ 10000 ∧ (textOk t = true → ∀ H', Same H H' → Q .non H') ∧ (textOk t = false → RefE G H E (-2))
theorem cal_want_text {P : Program} {w : World} {mg : Str → Option Value} {base : Heap} {G : Gx} (T : Txt G mg) (h : Has G mg "want_text" s_want_text) (c_want : CalX P w G.K mg base 3 "want" (sp_want G)) (c_is_from : CalN P w G.K mg base 1 "is_from" (sp_is_from G)) : CalX P w G.K mg base 4 "want_text" (sp_want_text G) := by
  obtain ⟨f, fd, F, hm⟩ := h
  have nd := sc_want_text.nd
  refine ⟨f, fd, ["text"], ?_, hm, F.kp, F.bindsN fun _ _ _ _ _ _ us hl => match us, hl with | [_], _ => rfl⟩
  refine F.ok sc_want_text (fun vs H Q E h => by obtain ⟨a, t, rfl, _⟩ := h; rfl) fun cdv A outer s H vs Q E hr h => ?_
  refine ⟨_, (pss_one (ps_expr (pe_cx c_want hr (by decide) rfl (fun σ => passAt (takes_of rfl rfl rfl rfl) σ) (pa_cons (pe_and (pe_cmpR op_le (pe_callB call_len_seq (by rfl) T.b_len PySem.boot_len (pa_cons (pv 0) pa_nil)) (pe_gc rfl T.c_MOST_TEXT) (nomark _)) (pe_one (pe_callB (cr_all rfl) (by rfl) T.b_all (by decide +kernel) (pa_cons (pe_lc (own := [("byte", 1)]) rfl nd (pi_list (pv 0)) (blkOk_by (own := [("byte", 1)]) (N := N_want_text) (sc := defScope s_want_text) (by decide +kernel)) (fun _ _ _ _ _ => (pg_name (i := 1) nd rfl (Or.inl rfl))) (fun _ _ _ _ _ => pts_nil) (fun _ _ _ _ _ => (pe_cn c_is_from hr (by decide) rfl (pa_cons pe_int (pa_cons pe_int (pa_cons (pv 1) pa_nil)))))) pa_nil)))) (pa_cons (pe_gc rfl T.c_NO_TEXT) pa_nil))))), ?_⟩
  obtain ⟨a, t, rfl, hs, hl, k1, k2⟩ := h
  refine ⟨_, rfl, a, _, rfl, .inl hs, _, _, rfl, rfl, _, rfl, iteB (fun c => ?_) fun c => ⟨false, _, rfl, fun q => absurd q Bool.false_ne_true, fun _ => k2 ?_⟩⟩
  · rw [List.length_map] at c
    have c := of_decide_eq_true c
    have c' : t.length ≤ 4000 := by omega
    refine ⟨_, rfl, a, rfl, ⟨_, hs⟩, fun D hD => lc_walk (K := G.K) (walk_list (xs := t.map V.int)) (bs := t) (fun _ => true) (fun z => .bool (within z 0 255)) hD (by simp) (big_lt (by omega)) (fun H' s => s.seq hs) (fun i H x H' _ hy => by rw [hy.1]; exact same_refl _) (fun _ _ _ => rfl) (fun j x z H2 H3 Kf Kt hj s2 hy kf kt => ⟨rfl, ?_⟩) fun H4 ys s4 hD4 hdp => ?_⟩
    · obtain ⟨rfl, hx⟩ := hy
      have ex : x = .int z := by rw [List.getElem?_map, hj] at hx; exact (Option.some.inj hx).symm
      subst ex
      exact iteT (B := Kf H3) ⟨_, rfl, 0, 255, z, rfl, kt _ _ (same_refl _) rfl (.bl _)⟩
    · rw [filter_true'] at hdp
      have e1 : t.map (fun z => PyData.bool (within z 0 255)) = (t.map fun z => within z 0 255).map PyData.bool := by rw [List.map_map]; rfl
      rw [e1] at hdp
      have e2 := dpAll_bls_inv hdp
      subst e2
      have e3 : (t.map fun z => within z 0 255).all id = t.all fun z => within z 0 255 := by rw [List.all_map]; rfl
      refine ⟨D, _, rfl, .inl (.inl hD4), _, _, rfl, fun hb => k1 ?_ _ s4, fun hb => (k2 ?_).same s4⟩
      · unfold textOk
        rw [decide_eq_true c', ← e3, hb]; rfl
      · unfold textOk
        rw [← e3, hb, Bool.and_false]
  · have c := of_decide_eq_false c
    rw [List.length_map] at c
    unfold textOk
    rw [decide_eq_false (show ¬ t.length ≤ 4000 by omega), Bool.false_and]
def sp_listed (G : Gx) : Sp := fun vs H Q _ => ∃ (a : Addr) (xs : List V), vs = [.ref a] ∧ SqL G.K H a xs ∧ xs.length ≤ 2000000 ∧ ∀ b H', Same H H' → H b = none → H' b = some (.lst (.int (xs.length : Int) :: xs)) → Q (.ref b) H'
theorem cal_listed {P : Program} {w : World} {mg : Str → Option Value} {base : Heap} {G : Gx} (T : Txt G mg) (h : Has G mg "listed" s_listed) : CalN P w G.K mg base 1 "listed" (sp_listed G) := by
  obtain ⟨f, fd, F, hm⟩ := h
  have nd := sc_listed.nd
  refine ⟨f, fd, ["row"], ?_, hm, F.kp, F.bindsN fun _ _ _ _ _ _ us hl => match us, hl with | [_], _ => rfl⟩
  refine F.ok sc_listed (fun vs H Q E h => by obtain ⟨a, xs, rfl, _⟩ := h; rfl) fun cdv A outer s H vs Q E hr h => ?_
  refine ⟨_, PSs.nox (pss_one (ps_ret (pe_op op_cat (pe_lst (pa_cons (pe_callB call_len_seq (by rfl) T.b_len PySem.boot_len (pa_cons (pv 0) pa_nil)) pa_nil)) (pe_callTy call_list_of (by rfl) T.b_list (by decide +kernel) (pa_cons (pv 0) pa_nil))))), ?_⟩
  obtain ⟨a, xs, rfl, hs, hl, k⟩ := h
  refine ⟨_, rfl, a, xs, rfl, .inl hs, big_le (by simp), fun q hq => ⟨_, rfl, a, xs, rfl, .inl ((same_new hq).seq hs), fun q2 hq2 => ⟨q, q2, _, _, rfl, rfl, same_new hq2 _ _ upd_same, upd_same, (by rw [sizeLine_eq]; simp; omega), fun p hp => k p _ ((same_new hq).trans ((same_new hq2).trans (same_new hp))) ?_ upd_same⟩⟩⟩
  exact same_none ((same_new hq).trans (same_new hq2)) hp
def sp_flat (G : Gx) : Sp := fun vs H Q _ => ∃ (a : Addr) (L : List (Addr × List Int)), vs = [.ref a] ∧ SqL G.K H a (L.map fun q => V.ref q.1) ∧ (∀ q ∈ L, SqL G.K H q.1 (q.2.map V.int) ∨ SqT G.K H q.1 (q.2.map V.int)) ∧ L.length ≤ 1000 ∧ (∀ q ∈ L, q.2.length ≤ 10) ∧ ∀ b H', Same H H' → H b = none → H' b = some (.lst ((L.map (·.2)).flatten.map V.int)) → Q (.ref b) H'
theorem flat_len (L : List (Addr × List Int)) (h : ∀ q ∈ L, q.2.length ≤ 10) : (L.map (·.2)).flatten.length ≤ L.length * 10 := by
  induction L with
  | nil => simp
  | cons q L ih =>
    rw [List.map_cons, List.flatten_cons, List.length_append, List.length_cons, Nat.succ_mul]
    have := h q (by simp)
    have := ih fun r hr => h r (List.mem_cons_of_mem _ hr)
    omega
theorem cal_flat {P : Program} {w : World} {mg : Str → Option Value} {base : Heap} {G : Gx} (T : Txt G mg) (h : Has G mg "flat" s_flat) : CalN P w G.K mg base 1 "flat" (sp_flat G) := by
  obtain ⟨f, fd, F, hm⟩ := h
  have nd := sc_flat.nd
  refine ⟨f, fd, ["rows"], ?_, hm, F.kp, F.bindsN fun _ _ _ _ _ _ us hl => match us, hl with | [_], _ => rfl⟩
  refine F.ok sc_flat (fun vs H Q E h => by obtain ⟨a, L, rfl, _⟩ := h; rfl) fun cdv A outer s H vs Q E hr h => ?_
  refine ⟨_, PSs.nox (pss_cons (ps_set (i := 1) nd rfl (Or.inl rfl) (pe_lst pa_nil))
      (pss_cons (ps_for PassesOwn.never rfl (pi_list (pv 0)) (pg_name (i := 2) nd rfl (Or.inl rfl))
      (pss_one (ps_expr (pe_bm PySem.F.plainAttrs_list PySem.F.slot_list_extend PySem.F.type_list_extend mt_extend (pv 1) (pa_cons (pe_callTy call_list_of (by rfl) T.b_list (by decide +kernel) (pa_cons (pv 2) pa_nil)) pa_nil)))))
      (pss_one (ps_ret (pv 1))))), ?_⟩
  obtain ⟨a, L, rfl, hs, hr0, hl, hq10, k⟩ := h
  refine ⟨big_le (by simp), fun l hl0 => ?_⟩
  have s0 : Same H (upd H l (.lst [])) := same_new hl0
  refine ⟨_, rfl, a, rfl, ⟨_, s0.seq hs⟩, for_list (xs := L.map fun q => V.ref q.1) (fun j σ H2 => ∃ u, σ = [some (.ref a), some (.ref l), u] ∧ Same H H2 ∧ H2 l = some (.lst ((((L.take j).map (·.2)).flatten).map V.int))) ⟨none, rfl, s0, upd_same⟩ (fun j σ H2 _ h => by obtain ⟨_, _, h1, _⟩ := h; exact h1.seq hs) (fun j x σ H2 hxj h => ?_) fun σ H2 h => ?_⟩
  · obtain ⟨u, rfl, s2, hl2⟩ := h
    have hj : j < L.length := by have := (List.getElem?_eq_some_iff.mp hxj).1; rwa [List.length_map] at this
    have hqj : L[j]? = some L[j] := List.getElem?_eq_getElem hj
    generalize L[j] = q at hqj
    have ex : x = .ref q.1 := by rw [List.getElem?_map, hqj] at hxj; exact (Option.some.inj hxj).symm
    subst ex
    have hm := List.mem_of_getElem? hqj
    have tk := take_next' hqj
    have hfl := flat_len (L.take j) fun r hr => hq10 r (List.mem_of_mem_take hr)
    rw [List.length_take] at hfl
    refine ⟨_, rfl, .inl ⟨rfl, _, .inl (.inl hl2)⟩, _, rfl, q.1, q.2.map V.int, rfl, (hr0 q hm).imp (fun h => s2.seq h) (fun h => sq_same s2 h), fun q2 hq2 => ⟨l, q2, _, _, rfl, rfl, same_new hq2 _ _ hl2, upd_same, ?_, some (.ref q.1), rfl, same_upd (s2.trans (same_new hq2)) hl0, ?_⟩⟩
    · have := hq10 q hm
      refine big_le ?_
      rw [List.length_map, List.length_map]
      omega
    · rw [tk, List.map_append, List.flatten_append, List.map_append]
      have e : (List.map (·.2) [q]).flatten = q.2 := by simp
      rw [e]
      exact upd_same
  · obtain ⟨u, rfl, s2, hl2⟩ := h
    rw [List.length_map, List.take_length] at hl2
    exact ⟨_, rfl, k l H2 s2 hl0 hl2⟩
def sp_Desk_init (G : Gx) : Sp := fun vs H Q _ => ∃ (a dx : Addr), vs = [.ref a] ∧ H a = some (.ins G.CD dx []) ∧ ∀ k A H', SX a H H' → H k = none → DeskAt G H' a dx k A start → Q .non H'
/-- three empty places made -/
theorem desk_made {G : Gx} {H : Hp} {a dx p0 p1 p2 k : Addr} {fs : List (Str × V)} (ha : H a = some (.ins G.CD dx fs)) (h0 : H p0 = none) (h1 : upd H p0 (.lst []) p1 = none) (h2 : upd (upd H p0 (.lst [])) p1 (.lst []) p2 = none) (hk : upd (upd (upd H p0 (.lst [])) p1 (.lst [])) p2 (.lst []) k = none) :
    H k = none ∧ SX a H (upd (upd (upd (upd (upd H p0 (.lst [])) p1 (.lst [])) p2 (.lst [])) k (.lst [.ref p0, .ref p1, .ref p2])) a (.ins G.CD dx [("known", .ref k)])) ∧ DeskAt G (upd (upd (upd (upd (upd H p0 (.lst [])) p1 (.lst [])) p2 (.lst [])) k (.lst [.ref p0, .ref p1, .ref p2])) a (.ins G.CD dx [("known", .ref k)])) a dx k [p0, p1, p2] start := by
  have s0 : Same H (upd H p0 (.lst [])) := same_new h0
  have s1 := s0.trans (same_new (o := .lst []) h1)
  have s2 := s1.trans (same_new (o := .lst []) h2)
  have s3 := s2.trans (same_new (o := .lst [.ref p0, .ref p1, .ref p2]) hk)
  have hk0 := same_none s2 hk
  have e0 : (upd (upd (upd H p0 (.lst [])) p1 (.lst [])) p2 (.lst [])) p0 = some (.lst []) := same_new h2 _ _ (same_new h1 _ _ upd_same)
  have e1 : (upd (upd (upd H p0 (.lst [])) p1 (.lst [])) p2 (.lst [])) p1 = some (.lst []) := same_new h2 _ _ upd_same
  have e2 : (upd (upd (upd H p0 (.lst [])) p1 (.lst [])) p2 (.lst [])) p2 = some (.lst []) := upd_same
  have nk : ∀ p, (upd (upd (upd H p0 (.lst [])) p1 (.lst [])) p2 (.lst [])) p = some (.lst []) → k ≠ p := fun p hp => ne_of_new' hp hk
  have na : ∀ p, H p = none → p ≠ a := fun p hp e => by rw [e, ha] at hp; cases hp
  have h1' := same_none s0 h1
  have h2' := same_none s1 h2
  refine ⟨hk0, (SX.of s3).upd, ⟨upd_same, ?_, rfl, good_start, fun p b l hb hl => ?_, ?_⟩⟩
  · rw [upd_ne (na k hk0)]; exact upd_same
  · have hl' : l = [] := by
      have : l ∈ List.replicate Vbpoag.PLACES ([] : List Fact) := List.mem_of_getElem? hl
      exact (List.mem_replicate.mp this).2
    subst hl'
    refine ⟨[], ?_, .nil⟩
    have hb : b = p0 ∨ b = p1 ∨ b = p2 := by
      have := List.mem_of_getElem? hb
      simpa using this
    rcases hb with e | e | e <;> subst e
    · rw [upd_ne (na _ h0), upd_ne (nk _ e0).symm]; exact e0
    · rw [upd_ne (na _ h1'), upd_ne (nk _ e1).symm]; exact e1
    · rw [upd_ne (na _ h2'), upd_ne (nk _ e2).symm]; exact e2
  · simp only [List.mem_cons, List.not_mem_nil, or_false, not_or]
    exact ⟨nk _ e0, nk _ e1, nk _ e2⟩
theorem cal_Desk_init {P : Program} {w : World} {mg : Str → Option Value} {base : Heap} {G : Gx} (T : Txt G mg) (h : HasI G mg "Desk" G.CD "Desk.__init__" s_Desk_init) : MakN P w G.K mg base 1 "Desk" G.CD (sp_Desk_init G) := by
  obtain ⟨f, fd, F, q1, q2⟩ := h
  have nd := sc_Desk_init.nd
  refine ⟨f, fd, ["self"], q1, ?_, q2, F.bindsN fun _ _ _ _ _ _ us hl => match us, hl with | [_], _ => rfl⟩
  refine F.ok sc_Desk_init (fun vs H Q E h => by obtain ⟨a, dx, rfl, _⟩ := h; rfl) fun cdv A outer s H vs Q E hr h => ?_
  refine ⟨_, PSs.nox (pss_one (ps_fld (pv 0) (pe_lst (pa_cons (pe_lst pa_nil) (pa_cons (pe_lst pa_nil) (pa_cons (pe_lst pa_nil) pa_nil)))) rfl)), ?_⟩
  obtain ⟨a, dx, rfl, ha, k⟩ := h
  refine ⟨big_le (by simp), fun p0 h0 => ⟨big_le (by simp), fun p1 h1 => ⟨big_le (by simp), fun p2 h2 => ⟨big_le (by simp), fun kk hk => ⟨_, rfl, a, _, dx, [], rfl, ?_, T.clD, T.nD_known, by decide, ?_⟩⟩⟩⟩⟩
  · exact same_new hk _ _ (same_new h2 _ _ (same_new h1 _ _ (same_new h0 _ _ ha)))
  · obtain ⟨e1, e2, e3⟩ := desk_made ha h0 h1 h2 hk
    exact k kk _ _ e2 e1 e3
def sp_Desk_clear (G : Gx) : Sp := fun vs H Q _ => ∃ (a dx k : Addr) (A : List Addr) (s : State), vs = [.ref a] ∧ DeskAt G H a dx k A s ∧ DoneA G H a dx k (neut s .clear) Q
theorem cal_Desk_clear {P : Program} {w : World} {mg : Str → Option Value} {base : Heap} {G : Gx} (T : Txt G mg) (h : HasM G G.CD "clear" "Desk.clear" s_Desk_clear) : MetN P w G.K mg base 1 G.CD "clear" (sp_Desk_clear G) := by
  obtain ⟨f, fd, F, q1, q2⟩ := h
  have nd := sc_Desk_clear.nd
  refine ⟨f, fd, ["self"], q1, q2, ?_, F.bindsN fun _ _ _ _ _ _ us hl => match us, hl with | [_], _ => rfl⟩
  refine F.ok sc_Desk_clear (fun vs H Q E h => by obtain ⟨a, dx, k, A, s, rfl, _⟩ := h; rfl) fun cdv A outer s H vs Q E hr h => ?_
  refine ⟨_, PSs.nox (pss_cons (ps_fld (pv 0) (pe_lst (pa_cons (pe_lst pa_nil) (pa_cons (pe_lst pa_nil) (pa_cons (pe_lst pa_nil) pa_nil)))) rfl)
      (pss_one (ps_ret (pe_lst (pa_cons pe_int pa_nil))))), ?_⟩
  obtain ⟨a, dx, kk, A, s, rfl, hd, k⟩ := h
  refine ⟨big_le (by simp), fun p0 h0 => ⟨big_le (by simp), fun p1 h1 => ⟨big_le (by simp), fun p2 h2 => ⟨big_le (by simp), fun k2 hk => ⟨_, rfl, a, _, dx, [("known", .ref kk)], rfl, ?_, T.clD, T.nD_known, by simp, ?_⟩⟩⟩⟩⟩
  · exact same_new hk _ _ (same_new h2 _ _ (same_new h1 _ _ (same_new h0 _ _ hd.o)))
  · obtain ⟨e1, e2, e3⟩ := desk_made hd.o h0 h1 h2 hk
    refine ⟨big_le (by simp), fun q hq => k q k2 [p0, p1, p2] _ (fun b u n m hb => same_new hq _ _ (e2 b u n hb)) (.inr e1) (DeskAt.same (same_new hq) e3) upd_same (sx_none e2 e3.o hq) fun w hw vs _ hn => absurd ?_ hn⟩
    simp only [List.mem_cons, List.not_mem_nil, or_false] at hw
    rcases hw with e | e | e
    · rw [e]; exact h0
    · rw [e]; exact same_none (same_new h0) h1
    · rw [e]; exact same_none ((same_new h0).trans (same_new h1)) h2
def sp_Desk_facts (G : Gx) : Sp := fun vs H Q E => ∃ (a dx k : Addr) (A : List Addr) (s : State) (p : Int), vs = [.ref a, .int p] ∧ DeskAt G H a dx k A s ∧ (∀ (n : Nat) b, p = (n : Int) → n < 3 → A[n]? = some b → isPlace p = true → Q (.ref b) H) ∧ (isPlace p = false → RefE G H E (-1))
theorem cal_Desk_facts {P : Program} {w : World} {mg : Str → Option Value} {base : Heap} {G : Gx} (T : Txt G mg) (h : HasM G G.CD "facts" "Desk.facts" s_Desk_facts) (c_want_within : CalX P w G.K mg base 4 "want_within" (sp_want_within G)) : MetX P w G.K mg base 5 G.CD "facts" (sp_Desk_facts G) := by
  obtain ⟨f, fd, F, q1, q2⟩ := h
  have nd := sc_Desk_facts.nd
  refine ⟨f, fd, ["self", "p"], q1, q2, ?_, F.bindsN fun _ _ _ _ _ _ us hl => match us, hl with | [_, _], _ => rfl⟩
  refine F.ok sc_Desk_facts (fun vs H Q E h => by obtain ⟨a, dx, k, A, s, p, rfl, _⟩ := h; rfl) fun cdv A outer s H vs Q E hr h => ?_
  refine ⟨_, (pss_cons (ps_expr (pe_cx c_want_within hr (by decide) rfl (fun σ => passAt (takes_of rfl rfl rfl rfl) σ) (pa_cons (pv 1) (pa_cons pe_int (pa_cons (pe_op op_sub (pe_gc rfl T.c_PLACES) pe_int) pa_nil)))))
      (pss_one (ps_ret (pe_ix ix_list (pe_fld (pv 0) rfl) (pv 1) (fun _ _ => rfl))))), ?_⟩
  obtain ⟨a, dx, kk, A, s, p, rfl, hd, k1, k2⟩ := h
  refine ⟨_, rfl, _, _, rfl, rfl, p, 0, 2, rfl, fun hb => ?_, fun hb => k2 hb⟩
  obtain ⟨n, rfl, hn, _, _⟩ := place_get hd.good (p := p) hb
  obtain ⟨b, ys, hA, _⟩ := hd.at hn
  exact ⟨_, rfl, a, _, dx, _, _, rfl, hd.o, T.clD, T.nD_known, rfl, _, rfl, _, _, _, _, rfl, rfl, .inl (.inl hd.kn), at_nat (j := n) (by rw [List.getElem?_map, hA]; rfl) rfl, k1 n b rfl hn hA hb⟩
end Sc
namespace Sc
open PySem PySem.Spec PyProof.Rows L2
open C8 (pe_gc)
open Vbpoag (Fact Scan Body State factsAt isPlace isItem within start setFacts learnAll told standing syncsOf rightTime goodSign)
theorem ixN_nat {n j : Nat} (h : j < n) : ixN n (j : Int) = some j := by
  unfold ixN
  rw [if_pos (by omega), if_pos (by omega), Int.toNat_natCast]
def sp_Desk_learn (G : Gx) : Sp := fun vs H Q E => ∃ (a dx k : Addr) (A : List Addr) (s : State) (n : Nat) (v : V) (fs : List Fact), vs = [.ref a, .int n, v] ∧ DeskAt G H a dx k A s ∧ n < 3 ∧ Dp G.K H v (factsD fs) ∧ (∀ f ∈ fs, Vbpoag.inRange f = true) ∧ fs.length ≤ 9001 ∧ DoneA G H a dx k (toldL s n fs) Q ∧ DoneX G H a dx k A s (toldL s n fs) E
theorem cal_Desk_learn {P : Program} {w : World} {mg : Str → Option Value} {base : Heap} {G : Gx} (T : Txt G mg) (h : HasM G G.CD "learn" "Desk.learn" s_Desk_learn) (c_want : CalX P w G.K mg base 3 "want" (sp_want G)) : MetX P w G.K mg base 5 G.CD "learn" (sp_Desk_learn G) := by
  obtain ⟨f, fd, F, q1, q2⟩ := h
  have nd := sc_Desk_learn.nd
  refine ⟨f, fd, ["self", "p", "told"], q1, q2, ?_, F.bindsN fun _ _ _ _ _ _ us hl => match us, hl with | [_, _, _], _ => rfl⟩
  refine F.ok sc_Desk_learn (fun vs H Q E h => by obtain ⟨a, dx, k, A, s, n, v, fs, rfl, _⟩ := h; rfl) fun cdv A outer s H vs Q E hr h => ?_
  refine ⟨_, (pss_cons (ps_set (i := 3) nd rfl (Or.inl rfl) (pe_lst pa_nil))
      (pss_cons (ps_for (passes_of rfl) rfl (pi_list (pv 2)) (pg_name (i := 4) nd rfl (Or.inl rfl))
      (pss_one (ps_if (PW.pt (pw_and (pt_cmpR (op_notInD (hu65 hr)) (pv 4) (pe_ix ix_list (pe_fld (pv 0) rfl) (pv 1) (fun _ _ => rfl)) rfl) (pw_and1 (pt_cmpR (op_notInD (hu65 hr)) (pv 4) (pv 3) rfl)))) (pss_one (ps_expr (pe_bm PySem.F.plainAttrs_list PySem.F.slot_list_append PySem.F.type_list_append mt_append (pv 3) (pa_cons (pv 4) pa_nil)))) pss_nil)))
      (pss_cons (ps_expr (pe_cx c_want hr (by decide) rfl (fun σ => passAt (takes_of rfl rfl rfl rfl) σ) (pa_cons (pe_cmpR op_le (pe_op op_add (pe_callB call_len_seq (by rfl) T.b_len PySem.boot_len (pa_cons (pe_ix ix_list (pe_fld (pv 0) rfl) (pv 1) (fun _ _ => rfl)) pa_nil)) (pe_callB call_len_seq (by rfl) T.b_len PySem.boot_len (pa_cons (pv 3) pa_nil))) (pe_gc rfl T.c_MOST_FACTS) (nomark _)) (pa_cons (pe_gc rfl T.c_FULL) pa_nil))))
      (pss_cons (ps_asg (pe_op op_cat (pe_ix ix_list (pe_fld (pv 0) rfl) (pv 1) (fun _ _ => rfl)) (pv 3)) (pg_sub (pe_fld (pv 0) rfl) (pv 1) set_list))
      (pss_one (ps_ret (pe_lst (pa_cons (pe_callB call_len_seq (by rfl) T.b_len PySem.boot_len (pa_cons (pv 3) pa_nil)) (pa_cons (pe_callB call_len_seq (by rfl) T.b_len PySem.boot_len (pa_cons (pe_ix ix_list (pe_fld (pv 0) rfl) (pv 1) (fun _ _ => rfl)) pa_nil)) pa_nil))))))))), ?_⟩
  obtain ⟨a, dx, kk, A, s, n, v, fs, rfl, hd, hn, hv, hr0, hl, kA, kX⟩ := h
  rw [toldL_eq] at kA kX
  obtain ⟨va, xs, rfl, hvs, hvx⟩ := dp_list_inv hv
  have hlen : xs.length = fs.length := by rw [dpAll_len hvx, List.length_map]
  obtain ⟨b, ys, hA, hb, hdb, hnd, hll, hrg⟩ := hd.at hn
  have hkn : atI (A.map V.ref) (n : Int) = some (.ref b) := at_nat (j := n) (by rw [List.getElem?_map, hA]; rfl) rfl
  generalize hLL : factsAt s n = LL at *
  refine ⟨big_le (by simp), fun l hl0 => ?_⟩
  have s0 : Same H (upd H l (.lst [])) := same_new hl0
  have hlt : (upd H l (.lst [])) l = some (.lst []) := upd_same
  generalize upd H l (.lst []) = H0 at s0 hlt
  refine ⟨_, rfl, va, rfl, ⟨_, s0.seq hvs⟩, for_list (xs := xs) (fun j σ H2 => ∃ u acc, σ = [some (.ref a), some (.int (n : Int)), some (.ref va), some (.ref l), u] ∧ SX l H0 H2 ∧ H2 l = some (.lst acc) ∧ DpAll G.K H2 acc ((newOf LL (fs.take j)).map factD)) ⟨none, [], rfl, SX.of (same_refl _), hlt, .nil⟩ (fun j σ H2 _ h => by obtain ⟨_, _, _, sx, _⟩ := h; exact (sx.same s0 hl0).seq hvs) (fun j x σ H2 hxj h => ?_) fun σ H2 h => ?_⟩
  · obtain ⟨u, acc, rfl, sx, hla, hda⟩ := h
    have s02 := sx.same s0 hl0
    have hd2 := hd.same s02
    have hj : j < fs.length := by rw [← hlen]; exact (List.getElem?_eq_some_iff.mp hxj).1
    have hfj : fs[j]? = some fs[j] := List.getElem?_eq_getElem hj
    generalize fs[j] = f at hfj
    have hf := Same.dp s02 (facts_at hvx hxj hfj)
    have tk := take_next' hfj
    have hnl := newOf_len LL (fs.take j)
    rw [List.length_take] at hnl
    have hal := dpAll_len hda
    rw [List.length_map] at hal
    refine ⟨_, rfl, _, rfl, a, _, dx, _, _, rfl, hd2.o, T.clD, T.nD_known, rfl, _, rfl, _, _, _, _, rfl, rfl, .inl (.inl hd2.kn), hkn, _, _, hf, facts_dp (s02 _ _ hb) (Same.dpAll s02 hdb), sh_fact f, sh_facts _, _, rfl, ?_⟩
    rw [any_facts]
    refine iteN (fun c1 => ⟨_, rfl, _, rfl, _, _, hf, facts_dp hla hda, sh_fact f, sh_facts _, _, rfl, ?_⟩) fun c1 => iteF ⟨_, acc, rfl, sx, hla, ?_⟩
    · rw [any_facts]
      refine iteN (fun c2 => ⟨_, rfl, .inl ⟨rfl, _, .inl (.inl hla)⟩, _, rfl, l, acc, _, rfl, rfl, hla, big_lt (by omega), _, acc ++ [x], rfl, sx.upd, upd_same, ?_⟩) fun c2 => ⟨_, acc, rfl, sx, hla, ?_⟩
      · rw [tk, newOf_snoc, if_pos ⟨c1, c2⟩, List.map_append]
        exact dpAll_app (dpAll_upd hla _ _ (lfree_map lfree_fact _) hda) (.cons (dp_upd hla _ _ (lfree_fact f) hf) .nil)
      · rw [tk, newOf_snoc, if_neg (fun z => by rw [c2] at z; cases z.2)]
        exact hda
    · rw [tk, newOf_snoc, if_neg (fun z => by rw [c1] at z; cases z.1)]
      exact hda
  · obtain ⟨u, acc, rfl, sx, hla, hda⟩ := h
    rw [hlen, List.take_length] at hda
    have s02 := sx.same s0 hl0
    have hd2 := hd.same s02
    have hb2 := s02 _ _ hb
    have hdb2 := Same.dpAll s02 hdb
    have hyl := dpAll_len hdb
    rw [List.length_map] at hyl
    have hal := dpAll_len hda
    rw [List.length_map] at hal
    refine ⟨_, rfl, a, _, dx, _, _, rfl, hd2.o, T.clD, T.nD_known, rfl, _, rfl, _, _, _, _, rfl, rfl, .inl (.inl hd2.kn), hkn, b, ys, rfl, .inl (.inl (.inl hb2)), _, rfl, l, acc, rfl, .inl (.inl (.inl hla)), _, _, rfl, rfl, _, _, rfl, rfl, _, _, rfl, fun hc => ?_, fun hc => ?_⟩
    · have hc := of_decide_eq_true hc
      have hle : LL.length + (newOf LL fs).length ≤ 100 := by omega
      rw [if_neg (by omega)] at kA
      refine ⟨_, rfl, a, _, dx, _, _, rfl, hd2.o, T.clD, T.nD_known, rfl, _, rfl, _, _, _, _, rfl, rfl, .inl (.inl hd2.kn), hkn, _, rfl, b, l, ys, acc, rfl, rfl, hb2, hla, big_le (by omega), fun q hq => ?_⟩
      have hz : DpAll G.K H2 (ys ++ acc) ((learnAll LL fs).map factD) := by
        rw [learnAll_eq, List.map_append]
        exact dpAll_app hdb2 hda
      have hgood : (learnAll LL fs).Nodup ∧ (learnAll LL fs).length ≤ 100 ∧ ∀ f ∈ learnAll LL fs, Vbpoag.inRange f = true := by
        refine ⟨learnAll_nodup hnd fs, by rw [learnAll_eq, List.length_append]; exact hle, fun f hf => ?_⟩
        rw [learnAll_eq] at hf
        rcases List.mem_append.mp hf with h1 | h1
        · exact hrg f h1
        · exact hr0 f (newOf_sub _ _ f h1)
      obtain ⟨s23, hd3⟩ := desk_put (n := n) hd2 hq hz hgood
      have hknq := same_new (o := .lst (ys ++ acc)) hq _ _ hd2.kn
      refine ⟨_, rfl, a, _, dx, _, _, rfl, same_new hq _ _ hd2.o, T.clD, T.nD_known, rfl, _, rfl, kk, _, _, n, rfl, rfl, hknq, ixN_nat (by rw [List.length_map, hd.len]; exact hn), ?_⟩
      have nkl : l ≠ kk := ne_of_new' hd.kn hl0
      have hl3 : upd (upd H2 q (.lst (ys ++ acc))) kk (.lst ((A.map V.ref).set n (.ref q))) l = some (.lst acc) := by rw [upd_ne nkl]; exact same_new hq _ _ hla
      have hnA : n < A.length := by rw [hd.len]; exact hn
      have hkn3 : atI ((A.set n q).map V.ref) (n : Int) = some (.ref q) := at_nat (j := n) (by rw [List.getElem?_map, List.getElem?_set_self hnA]; rfl) rfl
      have nqk : q ≠ kk := ne_of_new' hd2.kn hq
      have hq3 : upd (upd H2 q (.lst (ys ++ acc))) kk (.lst ((A.map V.ref).set n (.ref q))) q = some (.lst (ys ++ acc)) := by rw [upd_ne nqk]; exact upd_same
      refine ⟨_, rfl, l, acc, rfl, .inl (.inl (.inl hl3)), _, rfl, a, _, dx, _, _, rfl, hd3.o, T.clD, T.nD_known, rfl, _, rfl, _, _, _, _, rfl, rfl, .inl (.inl hd3.kn), hkn3, q, _, rfl, .inl (.inl (.inl hq3)), big_le (by simp), fun r hr => ?_⟩
      refine kA r kk (A.set n q) _ ((SX2.of s02).trans (s23.trans (SX2.of (same_new hr)))) (.inl rfl) (hd3.same (same_new hr)) ?_ (same_none s02 (sx2_none s23 hd3.o hd3.kn hr)) fun w hw vs hv hn => ?_
      · rw [upd_same, learnAll_eq, List.length_append, List.length_append, hal, hyl]
        rfl
      · rw [hd.kn] at hv
        cases hv
        rcases List.mem_or_eq_of_mem_set hw with e | e
        · exact List.mem_map.mpr ⟨w, e, rfl⟩
        · rw [e] at hn
          exact absurd (same_none s02 hq) hn
    · have hc := of_decide_eq_false hc
      rw [if_pos (by omega)] at kX
      exact (kX (-3) rfl).same s02
end Sc
namespace Sc
open PySem PySem.Spec PyProof.Rows L2
open C8 (pe_gc)
open Vbpoag (Fact Scan Body State factsAt isPlace isItem within start setFacts learnAll told standing syncsOf rightTime goodSign clashesIn itemsOf)
def sp_Desk_tell (G : Gx) : Sp := fun vs H Q E => ∃ (a dx k : Addr) (A : List Addr) (s : State) (p : Int) (v : V) (r : RF), vs = [.ref a, .int p, v] ∧ DeskAt G H a dx k A s ∧ Dp G.K H v (tupI r.l) ∧ DoneA G H a dx k (if (isPlace p && r.ok) = true then toldL s p.toNat [r.f] else (s, [-1])) Q ∧ DoneX G H a dx k A s (if (isPlace p && r.ok) = true then toldL s p.toNat [r.f] else (s, [-1])) E
theorem cal_Desk_tell {P : Program} {w : World} {mg : Str → Option Value} {base : Heap} {G : Gx} (T : Txt G mg) (h : HasM G G.CD "tell" "Desk.tell" s_Desk_tell) (c_Desk_facts : MetX P w G.K mg base 5 G.CD "facts" (sp_Desk_facts G)) (c_want : CalX P w G.K mg base 3 "want" (sp_want G)) (c_Desk_learn : MetX P w G.K mg base 5 G.CD "learn" (sp_Desk_learn G)) (c_is_right : CalN P w G.K mg base 3 "is_right" (sp_is_right G)) : MetX P w G.K mg base 6 G.CD "tell" (sp_Desk_tell G) := by
  obtain ⟨f, fd, F, q1, q2⟩ := h
  have nd := sc_Desk_tell.nd
  refine ⟨f, fd, ["self", "p", "fact"], q1, q2, ?_, F.bindsN fun _ _ _ _ _ _ us hl => match us, hl with | [_, _, _], _ => rfl⟩
  refine F.ok sc_Desk_tell (fun vs H Q E h => by obtain ⟨a, dx, k, A, s, p, v, r, rfl, _⟩ := h; rfl) fun cdv A outer s H vs Q E hr h => ?_
  refine ⟨_, (pss_cons (ps_expr (pe_mx c_Desk_facts hr (by decide) (fun σ => passAt (takes_of rfl rfl rfl rfl) σ) (pv 0) (pa_cons (pv 1) pa_nil)))
      (pss_cons (ps_expr (pe_cx c_want hr (by decide) rfl (fun σ => passAt (takes_of rfl rfl rfl rfl) σ) (pa_cons (pe_cn c_is_right hr (by decide) rfl (pa_cons (pv 2) pa_nil)) (pa_cons (pe_gc rfl T.c_OUT_places) pa_nil))))
      (pss_one (ps_ret (pe_mx c_Desk_learn hr (by decide) (fun σ => passAt (takes_of rfl rfl rfl rfl) σ) (pv 0) (pa_cons (pv 1) (pa_cons (pe_lst (pa_cons (pv 2) pa_nil)) pa_nil))))))), ?_⟩
  obtain ⟨a, dx, kk, A, s, p, v, r, rfl, hd, hv, kA, kX⟩ := h
  refine ⟨_, rfl, a, dx, _, rfl, hd.o, rfl, _, rfl, a, dx, kk, A, s, p, rfl, hd, fun n b hp hn hA hok => ⟨_, rfl, v, r, rfl, hv, _, _, rfl, fun hb => ?_, fun hb => kX.no (by rw [hb, Bool.and_false])⟩, fun hno => kX.no (by rw [hno, Bool.false_and])⟩
  rw [hok, hb, Bool.true_and, if_pos rfl] at kA kX
  subst hp
  rw [Int.toNat_natCast] at kA kX
  refine ⟨_, rfl, a, dx, _, rfl, hd.o, rfl, _, rfl, _, rfl, big_le (by simp), fun q hq => ⟨a, dx, kk, A, s, n, .ref q, [r.f], rfl, hd.same (same_new hq), hn, ?_, fun f hf => ?_, by simp, kA.mono (same_new hq), kX.mono (same_new hq)⟩⟩
  · refine .lst (.inl (.inl upd_same)) (.cons ?_ .nil)
    unfold factD
    rw [RF.f_l hb]
    exact Same.dp (same_new hq) hv
  · rw [List.mem_singleton.mp hf]
    exact RF.f_range hb
def sp_Desk_send (G : Gx) : Sp := fun vs H Q E => ∃ (a dx k : Addr) (A : List Addr) (s : State) (p1 p2 m : Int), vs = [.ref a, .int p1, .int p2, .int m] ∧ DeskAt G H a dx k A s ∧ DoneA G H a dx k (neut s (.send p1 p2 m)) Q ∧ DoneX G H a dx k A s (neut s (.send p1 p2 m)) E
theorem dpAll_drop {K : PySem.W.Frag} {H : Hp} : ∀ {xs : List V} {ds : List PyData} (n : Nat), DpAll K H xs ds → DpAll K H (xs.drop n) (ds.drop n)
  | _, _, 0, h => h
  | _, _, _ + 1, .nil => .nil
  | _, _, n + 1, .cons _ t => dpAll_drop n t
theorem dpAll_take {K : PySem.W.Frag} {H : Hp} : ∀ {xs : List V} {ds : List PyData} (n : Nat), DpAll K H xs ds → DpAll K H (xs.take n) (ds.take n)
  | _, _, 0, h => .nil
  | _, _, _ + 1, .nil => .nil
  | _, _, n + 1, .cons h t => .cons h (dpAll_take n t)
theorem cal_Desk_send {P : Program} {w : World} {mg : Str → Option Value} {base : Heap} {G : Gx} (T : Txt G mg) (h : HasM G G.CD "send" "Desk.send" s_Desk_send) (c_Desk_facts : MetX P w G.K mg base 5 G.CD "facts" (sp_Desk_facts G)) (c_want : CalX P w G.K mg base 3 "want" (sp_want G)) (c_want_within : CalX P w G.K mg base 4 "want_within" (sp_want_within G)) (c_Desk_learn : MetX P w G.K mg base 5 G.CD "learn" (sp_Desk_learn G)) : MetX P w G.K mg base 6 G.CD "send" (sp_Desk_send G) := by
  obtain ⟨f, fd, F, q1, q2⟩ := h
  have nd := sc_Desk_send.nd
  refine ⟨f, fd, ["self", "a", "b", "k"], q1, q2, ?_, F.bindsN fun _ _ _ _ _ _ us hl => match us, hl with | [_, _, _, _], _ => rfl⟩
  refine F.ok sc_Desk_send (fun vs H Q E h => by obtain ⟨a, dx, k, A, s, p1, p2, m, rfl, _⟩ := h; rfl) fun cdv A outer s H vs Q E hr h => ?_
  refine ⟨_, (pss_cons (ps_set (i := 4) nd rfl (Or.inl rfl) (pe_mx c_Desk_facts hr (by decide) (fun σ => passAt (takes_of rfl rfl rfl rfl) σ) (pv 0) (pa_cons (pv 1) pa_nil)))
      (pss_cons (ps_expr (pe_mx c_Desk_facts hr (by decide) (fun σ => passAt (takes_of rfl rfl rfl rfl) σ) (pv 0) (pa_cons (pv 2) pa_nil)))
      (pss_cons (ps_expr (pe_cx c_want hr (by decide) rfl (fun σ => passAt (takes_of rfl rfl rfl rfl) σ) (pa_cons (pe_cmpR op_ne (pv 1) (pv 2) (nomark _)) (pa_cons (pe_gc rfl T.c_OUT_places) pa_nil))))
      (pss_cons (ps_expr (pe_cx c_want_within hr (by decide) rfl (fun σ => passAt (takes_of rfl rfl rfl rfl) σ) (pa_cons (pv 3) (pa_cons pe_int (pa_cons (pe_gc rfl T.c_MOST_FACTS) pa_nil)))))
      (pss_one (ps_ret (pe_mx c_Desk_learn hr (by decide) (fun σ => passAt (takes_of rfl rfl rfl rfl) σ) (pv 0) (pa_cons (pv 2) (pa_cons (pe_slice sl_list (pv 4) (po_some (pv 3)) po_none) pa_nil))))))))), ?_⟩
  obtain ⟨a, dx, kk, A, s, p1, p2, m, rfl, hd, kA, kX⟩ := h
  rw [neut_send] at kA kX
  refine ⟨_, rfl, a, dx, _, rfl, hd.o, rfl, _, rfl, a, dx, kk, A, s, p1, rfl, hd, fun n1 b1 hp1 hn1 hA1 hok1 => ?_, fun hno => kX.no (by rw [hno, Bool.false_and])⟩
  rw [hok1, Bool.true_and] at kA kX
  refine ⟨_, rfl, a, dx, _, rfl, hd.o, rfl, _, rfl, a, dx, kk, A, s, p2, rfl, hd, fun n2 b2 hp2 hn2 hA2 hok2 => ?_, fun hno => kX.no (by rw [hno, Bool.false_and])⟩
  rw [hok2, Bool.true_and] at kA kX
  have ene : (!decide (V.int p1 = V.int p2)) = (p1 != p2) := by
    rw [decI]
    rfl
  refine ⟨_, rfl, _, rfl, rfl, _, _, rfl, fun hb => ?_, fun hb => kX.no (by rw [← ene, hb, Bool.false_and])⟩
  rw [← ene, hb, Bool.true_and] at kA kX
  refine ⟨_, rfl, m, 0, 100, rfl, fun hw => ?_, fun hw => kX.no hw⟩
  have hw' : within m 0 100 = true := hw
  rw [if_pos hw'] at kA kX
  subst hp1
  subst hp2
  rw [Int.toNat_natCast, Int.toNat_natCast] at kA kX
  obtain ⟨b1', ys, hA1', hb1, hdb, hnd, hll, hrg⟩ := hd.at hn1
  rw [hA1] at hA1'
  cases hA1'
  have hm : m = (m.toNat : Int) := by have := (btw_iff.mp hw).1; omega
  refine ⟨_, rfl, a, dx, _, rfl, hd.o, rfl, _, rfl, _, rfl, _, rfl, _, rfl, b1, ys, rfl, .inl (.inl hb1), fun q hq => ⟨a, dx, kk, A, s, n2, .ref q, (factsAt s n1).drop m.toNat, rfl, hd.same (same_new hq), hn2, ?_, fun f hf => hrg f (List.mem_of_mem_drop hf), by rw [List.length_drop]; omega, kA.mono (same_new hq), kX.mono (same_new hq)⟩⟩
  refine .lst (.inl (.inl (by rw [upd_same, cutV_drop hm]))) ?_
  rw [List.map_drop]
  exact Same.dpAll (same_new hq) (dpAll_drop _ hdb)
def sp_Desk_standing (G : Gx) : Sp := fun vs H Q E => ∃ (a dx k : Addr) (A : List Addr) (s : State) (p i : Int), vs = [.ref a, .int p, .int i] ∧ DeskAt G H a dx k A s ∧ ((isPlace p && isItem i) = true → ∀ (b lo ls d2 : Addr) (H' : Hp), Same H H' → StandAt G H' b lo ls d2 (standing (factsAt s p.toNat) i.toNat) → Q (.ref b) H') ∧ ((isPlace p && isItem i) = false → RefE G H E (-1))
theorem cal_Desk_standing {P : Program} {w : World} {mg : Str → Option Value} {base : Heap} {G : Gx} (T : Txt G mg) (h : HasM G G.CD "standing" "Desk.standing" s_Desk_standing) (c_Desk_facts : MetX P w G.K mg base 5 G.CD "facts" (sp_Desk_facts G)) (c_want_within : CalX P w G.K mg base 4 "want_within" (sp_want_within G)) (c_standing_of : CalN P w G.K mg base 5 "standing_of" (sp_standing_of G)) : MetX P w G.K mg base 6 G.CD "standing" (sp_Desk_standing G) := by
  obtain ⟨f, fd, F, q1, q2⟩ := h
  have nd := sc_Desk_standing.nd
  refine ⟨f, fd, ["self", "p", "i"], q1, q2, ?_, F.bindsN fun _ _ _ _ _ _ us hl => match us, hl with | [_, _, _], _ => rfl⟩
  refine F.ok sc_Desk_standing (fun vs H Q E h => by obtain ⟨a, dx, k, A, s, p, i, rfl, _⟩ := h; rfl) fun cdv A outer s H vs Q E hr h => ?_
  refine ⟨_, (pss_cons (ps_set (i := 3) nd rfl (Or.inl rfl) (pe_mx c_Desk_facts hr (by decide) (fun σ => passAt (takes_of rfl rfl rfl rfl) σ) (pv 0) (pa_cons (pv 1) pa_nil)))
      (pss_cons (ps_expr (pe_cx c_want_within hr (by decide) rfl (fun σ => passAt (takes_of rfl rfl rfl rfl) σ) (pa_cons (pv 2) (pa_cons pe_int (pa_cons (pe_gc rfl T.c_MOST_ITEM) pa_nil)))))
      (pss_one (ps_ret (pe_cn c_standing_of hr (by decide) rfl (pa_cons (pv 3) (pa_cons (pv 2) pa_nil))))))), ?_⟩
  obtain ⟨a, dx, kk, A, s, p, i, rfl, hd, k1, k2⟩ := h
  refine ⟨_, rfl, a, dx, _, rfl, hd.o, rfl, _, rfl, a, dx, kk, A, s, p, rfl, hd, fun n b hp hn hA hok => ?_, fun hno => k2 (by rw [hno, Bool.false_and])⟩
  rw [hok, Bool.true_and] at k1 k2
  refine ⟨_, rfl, i, 1, 99, rfl, fun hw => ?_, fun hw => k2 hw⟩
  have hi : i = (i.toNat : Int) := by have := (btw_iff.mp hw).1; omega
  subst hp
  rw [Int.toNat_natCast] at k1
  obtain ⟨b', ys, hA', hb1, hdb, hnd, hll, hrg⟩ := hd.at hn
  rw [hA] at hA'
  cases hA'
  refine ⟨_, rfl, _, rfl, .ref b, factsAt s n, i.toNat, (by rw [← hi]; rfl), hll, hnd, hrg, facts_dp hb1 hdb, fun b2 lo ls d2 H' s' hs => k1 hw b2 lo ls d2 H' s' hs⟩
def sp_Desk_state_told (G : Gx) : Sp := fun vs H Q E => ∃ (a dx k : Addr) (A : List Addr) (s : State) (p i : Int), vs = [.ref a, .int p, .int i] ∧ DeskAt G H a dx k A s ∧ DoneA G H a dx k (neut s (.state_ p i)) Q ∧ DoneX G H a dx k A s (neut s (.state_ p i)) E
theorem cal_Desk_state_told {P : Program} {w : World} {mg : Str → Option Value} {base : Heap} {G : Gx} (T : Txt G mg) (h : HasM G G.CD "state_told" "Desk.state_told" s_Desk_state_told) (c_Desk_standing : MetX P w G.K mg base 6 G.CD "standing" (sp_Desk_standing G)) : MetX P w G.K mg base 7 G.CD "state_told" (sp_Desk_state_told G) := by
  obtain ⟨f, fd, F, q1, q2⟩ := h
  have nd := sc_Desk_state_told.nd
  refine ⟨f, fd, ["self", "p", "i"], q1, q2, ?_, F.bindsN fun _ _ _ _ _ _ us hl => match us, hl with | [_, _, _], _ => rfl⟩
  refine F.ok sc_Desk_state_told (fun vs H Q E h => by obtain ⟨a, dx, k, A, s, p, i, rfl, _⟩ := h; rfl) fun cdv A outer s H vs Q E hr h => ?_
  refine ⟨_, (pss_cons (ps_set (i := 3) nd rfl (Or.inl rfl) (pe_mx c_Desk_standing hr (by decide) (fun σ => passAt (takes_of rfl rfl rfl rfl) σ) (pv 0) (pa_cons (pv 1) (pa_cons (pv 2) pa_nil))))
      (pss_one (ps_ret (pe_lst (pa_cons (pe_fld (pv 3) rfl) (pa_cons (pe_fld (pv 3) rfl) (pa_cons (pe_fld (pv 3) rfl) (pa_cons (pe_callB call_len_seq (by rfl) T.b_len PySem.boot_len (pa_cons (pe_fld (pv 3) rfl) pa_nil)) pa_nil)))))))), ?_⟩
  obtain ⟨a, dx, kk, A, s, p, i, rfl, hd, kA, kX⟩ := h
  rw [neut_state] at kA kX
  refine ⟨_, rfl, a, dx, _, rfl, hd.o, rfl, _, rfl, _, rfl, a, dx, kk, A, s, p, i, rfl, hd, fun hok b lo ls d2 H' s1 hs => ?_, fun hno => kX.no hno⟩
  rw [if_pos hok] at kA
  refine ⟨_, rfl, b, _, d2, _, _, rfl, hs.o, T.clS, T.nS_state, rfl, _, rfl, b, _, d2, _, _, rfl, hs.o, T.clS, T.nS_office, rfl, _, rfl, b, _, d2, _, _, rfl, hs.o, T.clS, T.nS_attempts, rfl, _, rfl, b, _, d2, _, _, rfl, hs.o, T.clS, T.nS_odd, rfl, lo, _, rfl, .inl (.inl (.inl hs.odd)), big_le (by simp), fun q hq => kA.same hd (same_tr s1 (Fresh.new hq)) ?_⟩
  rw [upd_same, List.length_map]
  rfl
def sp_Desk_time (G : Gx) : Sp := fun vs H Q E => ∃ (a dx k : Addr) (A : List Addr) (s : State) (p d e c : Int), vs = [.ref a, .int p, .int d, .int e, .int c] ∧ DeskAt G H a dx k A s ∧ DoneA G H a dx k (neut s (.time p d e c)) Q ∧ DoneX G H a dx k A s (neut s (.time p d e c)) E
theorem cal_Desk_time {P : Program} {w : World} {mg : Str → Option Value} {base : Heap} {G : Gx} (T : Txt G mg) (h : HasM G G.CD "time" "Desk.time" s_Desk_time) (c_Desk_facts : MetX P w G.K mg base 5 G.CD "facts" (sp_Desk_facts G)) (c_want_within : CalX P w G.K mg base 4 "want_within" (sp_want_within G)) (c_looks_of : CalN P w G.K mg base 1 "looks_of" (sp_looks_of G)) (c_put_right : CalN P w G.K mg base 1 "put_right" (sp_put_right G)) : MetX P w G.K mg base 6 G.CD "time" (sp_Desk_time G) := by
  obtain ⟨f, fd, F, q1, q2⟩ := h
  have nd := sc_Desk_time.nd
  refine ⟨f, fd, ["self", "p", "d", "setting", "clock"], q1, q2, ?_, F.bindsN fun _ _ _ _ _ _ us hl => match us, hl with | [_, _, _, _, _], _ => rfl⟩
  refine F.ok sc_Desk_time (fun vs H Q E h => by obtain ⟨a, dx, k, A, s, p, d, e, c, rfl, _⟩ := h; rfl) fun cdv A outer s H vs Q E hr h => ?_
  refine ⟨_, (pss_cons (ps_set (i := 5) nd rfl (Or.inl rfl) (pe_mx c_Desk_facts hr (by decide) (fun σ => passAt (takes_of rfl rfl rfl rfl) σ) (pv 0) (pa_cons (pv 1) pa_nil)))
      (pss_cons (ps_expr (pe_cx c_want_within hr (by decide) rfl (fun σ => passAt (takes_of rfl rfl rfl rfl) σ) (pa_cons (pv 2) (pa_cons pe_int (pa_cons (pe_gc rfl T.c_MOST_DEVICE) pa_nil)))))
      (pss_cons (ps_expr (pe_cx c_want_within hr (by decide) rfl (fun σ => passAt (takes_of rfl rfl rfl rfl) σ) (pa_cons (pv 3) (pa_cons pe_int (pa_cons (pe_gc rfl T.c_MOST_SETTING) pa_nil)))))
      (pss_cons (ps_expr (pe_cx c_want_within hr (by decide) rfl (fun σ => passAt (takes_of rfl rfl rfl rfl) σ) (pa_cons (pv 4) (pa_cons pe_int (pa_cons (pe_gc rfl T.c_MOST_CLOCK) pa_nil)))))
      (pss_cons (ps_set (i := 6) nd rfl (Or.inl rfl) (pe_cn c_looks_of hr (by decide) rfl (pa_cons (pv 5) (pa_cons (pv 2) (pa_cons (pv 3) pa_nil)))))
      (pss_one (ps_ret (pe_lst (pa_cons pe_int (pa_cons (pe_cn c_put_right hr (by decide) rfl (pa_cons (pv 6) (pa_cons (pv 4) pa_nil))) (pa_cons (pe_callB call_len_seq (by rfl) T.b_len PySem.boot_len (pa_cons (pv 6) pa_nil)) pa_nil))))))))))), ?_⟩
  obtain ⟨a, dx, kk, A, s, p, d, e, c, rfl, hd, kA, kX⟩ := h
  rw [neut_time] at kA kX
  refine ⟨_, rfl, a, dx, _, rfl, hd.o, rfl, _, rfl, a, dx, kk, A, s, p, rfl, hd, fun n b hp hn hA hok => ?_, fun hno => kX.no (by rw [hno, Bool.false_and])⟩
  rw [hok, Bool.true_and] at kA kX
  refine ⟨_, rfl, d, 0, 7, rfl, fun hw1 => ?_, fun hw => kX.no (by rw [show within d 0 7 = false from hw, Bool.false_and])⟩
  rw [show within d 0 7 = true from hw1, Bool.true_and] at kA kX
  refine ⟨_, rfl, e, 0, 9, rfl, fun hw2 => ?_, fun hw => kX.no (by rw [show within e 0 9 = false from hw, Bool.false_and])⟩
  rw [show within e 0 9 = true from hw2, Bool.true_and] at kA kX
  refine ⟨_, rfl, c, 0, 99999, rfl, fun hw3 => ?_, fun hw => kX.no hw⟩
  rw [if_pos (show within c 0 99999 = true from hw3)] at kA
  have h1 := btw_iff.mp hw1
  have h2 := btw_iff.mp hw2
  have h3 := btw_iff.mp hw3
  have ed : d = (d.toNat : Int) := by omega
  have ee : e = (e.toNat : Int) := by omega
  have ec : c = (c.toNat : Int) := by omega
  subst hp
  rw [Int.toNat_natCast] at kA
  obtain ⟨b', ys, hA', hb1, hdb, hnd, hll, hrg⟩ := hd.at hn
  rw [hA] at hA'
  cases hA'
  refine ⟨_, rfl, _, rfl, _, rfl, .ref b, factsAt s n, d.toNat, e.toNat, (by rw [← ed, ← ee]; rfl), hll, facts_dp hb1 hdb, fun u H1 s1 hu => ?_⟩
  have hlen := syncs_len (factsAt s n) d.toNat e.toNat
  obtain ⟨ub, us, rfl, hus, hux⟩ := dp_list_inv hu
  refine ⟨_, rfl, _, rfl, .ref ub, syncsOf (factsAt s n) d.toNat e.toNat, c.toNat, (by rw [← ec]; rfl), hu, syncs_sorted _ _ _, by omega, sync_bounds (B := 99999) (fun f hf => clock_range (hrg f hf)), by omega, fun H2 s2 => ⟨_, rfl, ub, us, rfl, .inl (s2.seq hus), big_le (by simp), fun q hq => kA.same hd (same_tr s1 (same_tr s2 (Fresh.new hq))) ?_⟩⟩
  have := dpAll_len hux
  rw [List.length_map] at this
  rw [upd_same, this]
  rfl
def sp_Desk_clashes (G : Gx) : Sp := fun vs H Q E => ∃ (a dx k : Addr) (A : List Addr) (s : State) (p : Int), vs = [.ref a, .int p] ∧ DeskAt G H a dx k A s ∧ DoneA G H a dx k (neut s (.clashes p)) Q ∧ DoneX G H a dx k A s (neut s (.clashes p)) E
theorem clash_len (fs : List Fact) (nd : fs.Nodup) : (clashesIn fs).length ≤ fs.length := by
  have key : ∀ (l : List Fact) (fs : List Fact) (acc : List (Nat × Nat)), (fs.foldl (fun acc f => if (l.any fun g => g.device == f.device && (g.number == f.number && g != f)) = true ∧ acc.contains (f.device, f.number) = false then Vbpoag.putPair (f.device, f.number) acc else acc) acc).length ≤ acc.length + fs.length := by
    intro l fs
    induction fs with
    | nil => intro acc; simp
    | cons f fs ih =>
      intro acc
      rw [List.foldl_cons]
      refine Nat.le_trans (ih _) ?_
      rw [List.length_cons]
      split
      · have := putPair_len (f.device, f.number) acc
        omega
      · omega
  have := key fs fs []
  rw [List.length_nil, Nat.zero_add] at this
  exact this
theorem cal_Desk_clashes {P : Program} {w : World} {mg : Str → Option Value} {base : Heap} {G : Gx} (T : Txt G mg) (h : HasM G G.CD "clashes" "Desk.clashes" s_Desk_clashes) (c_clashes_of : CalN P w G.K mg base 1 "clashes_of" (sp_clashes_of G)) (c_Desk_facts : MetX P w G.K mg base 5 G.CD "facts" (sp_Desk_facts G)) (c_listed : CalN P w G.K mg base 1 "listed" (sp_listed G)) (c_flat : CalN P w G.K mg base 1 "flat" (sp_flat G)) : MetX P w G.K mg base 6 G.CD "clashes" (sp_Desk_clashes G) := by
  obtain ⟨f, fd, F, q1, q2⟩ := h
  have nd := sc_Desk_clashes.nd
  refine ⟨f, fd, ["self", "p"], q1, q2, ?_, F.bindsN fun _ _ _ _ _ _ us hl => match us, hl with | [_, _], _ => rfl⟩
  refine F.ok sc_Desk_clashes (fun vs H Q E h => by obtain ⟨a, dx, k, A, s, p, rfl, _⟩ := h; rfl) fun cdv A outer s H vs Q E hr h => ?_
  refine ⟨_, (pss_cons (ps_set (i := 2) nd rfl (Or.inl rfl) (pe_cn c_clashes_of hr (by decide) rfl (pa_cons (pe_mx c_Desk_facts hr (by decide) (fun σ => passAt (takes_of rfl rfl rfl rfl) σ) (pv 0) (pa_cons (pv 1) pa_nil)) pa_nil)))
      (pss_one (ps_ret (pe_op op_cat (pe_lst (pa_cons (pe_callB call_len_seq (by rfl) T.b_len PySem.boot_len (pa_cons (pv 2) pa_nil)) pa_nil)) (pe_cn c_listed hr (by decide) rfl (pa_cons (pe_cn c_flat hr (by decide) rfl (pa_cons (pv 2) pa_nil)) pa_nil)))))), ?_⟩
  obtain ⟨a, dx, kk, A, s, p, rfl, hd, kA, kX⟩ := h
  rw [neut_clashes] at kA kX
  refine ⟨_, rfl, a, dx, _, rfl, hd.o, rfl, _, rfl, a, dx, kk, A, s, p, rfl, hd, fun n b hp hn hA hok => ?_, fun hno => kX.no hno⟩
  rw [if_pos hok] at kA
  subst hp
  rw [Int.toNat_natCast] at kA
  obtain ⟨b', ys, hA', hb1, hdb, hnd, hll, hrg⟩ := hd.at hn
  rw [hA] at hA'
  cases hA'
  refine ⟨.ref b, factsAt s n, rfl, by omega, hnd, facts_dp hb1 hdb, fun u H1 s1 hu => ?_⟩
  have hcl := clash_len (factsAt s n) hnd
  obtain ⟨ub, us, rfl, hus, hux⟩ := dp_list_inv hu
  obtain ⟨ks, e1, e2, e3⟩ := tup_addrs (g := pairI) hux
  have hkl : ks.length = (clashesIn (factsAt s n)).length := by
    have := congrArg List.length e2
    rw [List.length_map, List.length_map] at this
    exact this
  have e4 : (ks.map (·.2)).flatten = (clashesIn (factsAt s n)).flatMap fun x => Vbpoag.ints [x.1, x.2] := by
    rw [e2, ← List.flatMap_def]
    rfl
  have hul := dpAll_len hux
  rw [List.length_map] at hul
  have hks : us = ks.map fun q => V.ref q.1 := e1
  have hfl : ((ks.map (·.2)).flatten).length ≤ 1000 := by
    have := flat_len ks fun q hq => by
      have h1 : q.2 ∈ ks.map (·.2) := List.mem_map.mpr ⟨q, hq, rfl⟩
      rw [e2] at h1
      obtain ⟨x, _, hx⟩ := List.mem_map.mp h1
      rw [← hx]
      show 2 ≤ 10
      decide
    omega
  refine ⟨_, rfl, ub, us, rfl, .inl hus, big_le (by simp), fun q hq => ⟨_, rfl, ub, ks, rfl, by rw [← hks]; exact (same_new hq).seq hus, fun r hr => .inr (sq_same (same_new hq) (e3 r hr)), by omega, fun r hr => ?_, fun fb H2 s2 hfb0 hfb => ⟨fb, _, rfl, .inl (.inl hfb), by rw [List.length_map]; omega, fun lb H3 s3 hlb0 hlb => ⟨q, lb, _, _, rfl, rfl, s3 _ _ (s2 _ _ upd_same), hlb, big_le (by simp only [List.length_cons, List.length_nil, List.length_map]; omega), fun z hz => kA.same hd (same_tr s1 (same_tr (same_new hq) (same_tr s2 (same_tr s3 (Fresh.new hz))))) ?_⟩⟩⟩⟩
  · have h1 : r.2 ∈ ks.map (·.2) := List.mem_map.mpr ⟨r, hr, rfl⟩
    rw [e2] at h1
    obtain ⟨x, _, hx⟩ := List.mem_map.mp h1
    rw [← hx]
    show 2 ≤ 10
    decide
  · rw [upd_same, List.length_map, hul, e4]
    unfold rowD
    rfl
end Sc
namespace Sc
open PySem PySem.Spec PyProof.Rows L2
open C8 (pe_gc)
open Vbpoag (Fact Scan Body State factsAt isPlace isItem within start setFacts learnAll told standing syncsOf rightTime goodSign clashesIn itemsOf Standing)
def sp_Desk_differ (G : Gx) : Sp := fun vs H Q E => ∃ (a dx k : Addr) (A : List Addr) (s : State) (p1 p2 : Int), vs = [.ref a, .int p1, .int p2] ∧ DeskAt G H a dx k A s ∧ DoneA G H a dx k (neut s (.differ p1 p2)) Q ∧ DoneX G H a dx k A s (neut s (.differ p1 p2)) E
theorem cal_Desk_differ {P : Program} {w : World} {mg : Str → Option Value} {base : Heap} {G : Gx} (T : Txt G mg) (h : HasM G G.CD "differ" "Desk.differ" s_Desk_differ) (c_Desk_facts : MetX P w G.K mg base 5 G.CD "facts" (sp_Desk_facts G)) : MetX P w G.K mg base 6 G.CD "differ" (sp_Desk_differ G) := by
  obtain ⟨f, fd, F, q1, q2⟩ := h
  have nd := sc_Desk_differ.nd
  refine ⟨f, fd, ["self", "a", "b"], q1, q2, ?_, F.bindsN fun _ _ _ _ _ _ us hl => match us, hl with | [_, _, _], _ => rfl⟩
  refine F.ok sc_Desk_differ (fun vs H Q E h => by obtain ⟨a, dx, k, A, s, p1, p2, rfl, _⟩ := h; rfl) fun cdv A outer s H vs Q E hr h => ?_
  refine ⟨_, (pss_cons (ps_asg (pe_tup (pa_cons (pe_mx c_Desk_facts hr (by decide) (fun σ => passAt (takes_of rfl rfl rfl rfl) σ) (pv 0) (pa_cons (pv 1) pa_nil)) (pa_cons (pe_mx c_Desk_facts hr (by decide) (fun σ => passAt (takes_of rfl rfl rfl rfl) σ) (pv 0) (pa_cons (pv 2) pa_nil)) pa_nil))) (pg_tup rfl (pgs_cons (pg_name (i := 3) nd rfl (Or.inr rfl)) (pgs_cons (pg_name (i := 4) nd rfl (Or.inr rfl)) pgs_nil))))
      (pss_cons (ps_setLc (i := 5) (own := [("fact", 6)]) rfl nd rfl rfl (sw_true rfl rfl rfl (by decide +kernel)) (pi_list (pv 3)) (blkOk_by (own := [("fact", 6)]) (N := N_Desk_differ) (sc := defScope s_Desk_differ) (by decide +kernel)) (fun _ _ _ _ _ => (pg_name (i := 6) nd rfl (Or.inl rfl))) (fun _ _ _ _ _ => pts_one (pt_cmpR (op_notInDK (K := G.K) rfl (hu65 hr)) (pv 6) (pv 4) rfl)) (fun _ _ _ _ _ => (pv 6)))
      (pss_one (ps_ret (pe_lst (pa_cons (pe_callB call_len_seq (by rfl) T.b_len PySem.boot_len (pa_cons (pv 5) pa_nil)) (pa_cons (pe_callB call_len_seq (by rfl) T.b_len PySem.boot_len (pa_cons (pe_lc (own := [("fact", 6)]) rfl nd (pi_list (pv 4)) (blkOk_by (own := [("fact", 6)]) (N := N_Desk_differ) (sc := defScope s_Desk_differ) (by decide +kernel)) (fun _ _ _ _ _ => (pg_name (i := 6) nd rfl (Or.inl rfl))) (fun _ _ _ _ _ => pts_one (pt_cmpR (op_notInDK (K := G.K) rfl (hu65 hr)) (pv 6) (pv 3) rfl)) (fun _ _ _ _ _ => (pv 6))) pa_nil)) pa_nil))))))), ?_⟩
  obtain ⟨a, dx, kk, A, s, p1, p2, rfl, hd, kA, kX⟩ := h
  rw [neut_differ] at kA kX
  refine ⟨_, rfl, a, dx, _, rfl, hd.o, rfl, _, rfl, a, dx, kk, A, s, p1, rfl, hd, fun n1 b1 hp1 hn1 hA1 hok1 => ?_, fun hno => kX.no (by rw [hno, Bool.false_and])⟩
  rw [hok1, Bool.true_and] at kA kX
  refine ⟨_, rfl, a, dx, _, rfl, hd.o, rfl, _, rfl, a, dx, kk, A, s, p2, rfl, hd, fun n2 b2 hp2 hn2 hA2 hok2 => ?_, fun hno => kX.no hno⟩
  rw [if_pos hok2] at kA
  subst hp1
  subst hp2
  rw [Int.toNat_natCast, Int.toNat_natCast] at kA
  obtain ⟨b1', ys1, hA1', hb1, hdb1, hnd1, hll1, hrg1⟩ := hd.at hn1
  rw [hA1] at hA1'
  cases hA1'
  obtain ⟨b2', ys2, hA2', hb2, hdb2, hnd2, hll2, hrg2⟩ := hd.at hn2
  rw [hA2] at hA2'
  cases hA2'
  refine ⟨big_le (by simp), fun q hq => ⟨q, _, rfl, .inl (.inl upd_same), rfl, _, _, rfl, _, _, rfl, rfl, ?_⟩⟩
  have sq := same_new (o := .tup [.ref b1, .ref b2]) hq
  generalize upd H q (.tup [.ref b1, .ref b2]) = H1 at sq
  generalize factsAt s n1 = L1 at *
  generalize factsAt s n2 = L2' at *
  have hl1 : ys1.length = L1.length := by rw [dpAll_len hdb1, List.length_map]
  have hl2 : ys2.length = L2'.length := by rw [dpAll_len hdb2, List.length_map]
  refine ⟨_, rfl, b1, rfl, ⟨_, .inl (.inl (sq _ _ hb1))⟩, fun D hD => lc_data (fun f => !L2'.contains f) factD hD (.inl (.inl (sq _ _ hb1))) hl1 (big_lt (by omega)) (fun f _ _ => lfree_fact f) (fun j x f H' Kf Kt hxj hfj s kf kt => ⟨rfl, ?_⟩) fun H2 zs s2 hD2 hdp2 => ?_⟩
  · have s' := sq.trans s
    have hf := Same.dp s' (facts_at hdb1 hxj hfj)
    refine ⟨_, rfl, _, rfl, _, _, hf, facts_dp (s' _ _ hb2) (Same.dpAll s' hdb2), sh_fact f, sh_facts _, _, rfl, ?_⟩
    rw [any_facts]
    exact iteB (fun c => ⟨_, rfl, kt _ _ (same_refl _) c hf⟩) fun c => kf _ (same_refl _) c
  have hz := dpAll_len hdp2
  rw [List.length_map] at hz
  have s02 := sq.trans s2
  refine ⟨_, rfl, D, zs, rfl, .inl (.inl (.inl hD2)), _, rfl, b2, rfl, ⟨_, .inl (.inl (s02 _ _ hb2))⟩, fun D3 hD3 => lc_data (fun f => !L1.contains f) factD hD3 (.inl (.inl (s02 _ _ hb2))) hl2 (big_lt (by omega)) (fun f _ _ => lfree_fact f) (fun j x f H' Kf Kt hxj hfj s kf kt => ⟨rfl, ?_⟩) fun H3 ws s3 hD3' hdp3 => ?_⟩
  · have s' := s02.trans s
    have hf := Same.dp s' (facts_at hdb2 hxj hfj)
    refine ⟨_, rfl, _, rfl, _, _, hf, facts_dp (s' _ _ hb1) (Same.dpAll s' hdb1), sh_fact f, sh_facts _, _, rfl, ?_⟩
    rw [any_facts]
    exact iteB (fun c => ⟨_, rfl, kt _ _ (same_refl _) c hf⟩) fun c => kf _ (same_refl _) c
  have hw := dpAll_len hdp3
  rw [List.length_map] at hw
  refine ⟨D3, ws, rfl, .inl (.inl (.inl hD3')), big_le (by simp), fun r hr => kA.same hd (same_tr s02 (same_tr s3 (Fresh.new hr))) ?_⟩
  rw [upd_same, hz, hw]
  rfl
def sp_Desk_counts (G : Gx) : Sp := fun vs H Q E => ∃ (a dx k : Addr) (A : List Addr) (s : State) (p : Int), vs = [.ref a, .int p] ∧ DeskAt G H a dx k A s ∧ DoneA G H a dx k (neut s (.counts p)) Q ∧ DoneX G H a dx k A s (neut s (.counts p)) E
theorem cal_Desk_counts {P : Program} {w : World} {mg : Str → Option Value} {base : Heap} {G : Gx} (T : Txt G mg) (h : HasM G G.CD "counts" "Desk.counts" s_Desk_counts) (c_Desk_facts : MetX P w G.K mg base 5 G.CD "facts" (sp_Desk_facts G)) (c_items_of : CalN P w G.K mg base 1 "items_of" (sp_items_of G)) (c_clashes_of : CalN P w G.K mg base 1 "clashes_of" (sp_clashes_of G)) : MetX P w G.K mg base 6 G.CD "counts" (sp_Desk_counts G) := by
  obtain ⟨f, fd, F, q1, q2⟩ := h
  have nd := sc_Desk_counts.nd
  refine ⟨f, fd, ["self", "p"], q1, q2, ?_, F.bindsN fun _ _ _ _ _ _ us hl => match us, hl with | [_, _], _ => rfl⟩
  refine F.ok sc_Desk_counts (fun vs H Q E h => by obtain ⟨a, dx, k, A, s, p, rfl, _⟩ := h; rfl) fun cdv A outer s H vs Q E hr h => ?_
  refine ⟨_, (pss_cons (ps_set (i := 2) nd rfl (Or.inl rfl) (pe_mx c_Desk_facts hr (by decide) (fun σ => passAt (takes_of rfl rfl rfl rfl) σ) (pv 0) (pa_cons (pv 1) pa_nil)))
      (pss_one (ps_ret (pe_lst (pa_cons (pe_callB call_len_seq (by rfl) T.b_len PySem.boot_len (pa_cons (pv 2) pa_nil)) (pa_cons (pe_callB call_len_seq (by rfl) T.b_len PySem.boot_len (pa_cons (pe_cn c_items_of hr (by decide) rfl (pa_cons (pv 2) pa_nil)) pa_nil)) (pa_cons (pe_callB call_len_seq (by rfl) T.b_len PySem.boot_len (pa_cons (pe_cn c_clashes_of hr (by decide) rfl (pa_cons (pv 2) pa_nil)) pa_nil)) pa_nil))))))), ?_⟩
  obtain ⟨a, dx, kk, A, s, p, rfl, hd, kA, kX⟩ := h
  rw [neut_counts] at kA kX
  refine ⟨_, rfl, a, dx, _, rfl, hd.o, rfl, _, rfl, a, dx, kk, A, s, p, rfl, hd, fun n b hp hn hA hok => ?_, fun hno => kX.no hno⟩
  rw [if_pos hok] at kA
  subst hp
  rw [Int.toNat_natCast] at kA
  obtain ⟨b', ys, hA', hb1, hdb, hnd, hll, hrg⟩ := hd.at hn
  rw [hA] at hA'
  cases hA'
  have hyl := dpAll_len hdb
  rw [List.length_map] at hyl
  refine ⟨_, rfl, b, ys, rfl, .inl (.inl (.inl hb1)), _, rfl, .ref b, factsAt s n, rfl, by omega, hrg, facts_dp hb1 hdb, fun l H1 s1 hl1 hl0 => ⟨l, _, rfl, .inl (.inl (.inl hl1)), _, rfl, .ref b, factsAt s n, rfl, by omega, hnd, facts_dp (s1 _ _ hb1) (Same.dpAll s1 hdb), fun u H2 s2 hu => ?_⟩⟩
  obtain ⟨ub, us, rfl, hus, hux⟩ := dp_list_inv hu
  have hul := dpAll_len hux
  rw [List.length_map] at hul
  refine ⟨ub, us, rfl, .inl hus, big_le (by simp), fun r hr => kA.same hd (same_tr s1 (same_tr s2 (Fresh.new hr))) ?_⟩
  rw [upd_same, hyl, hul, List.length_map]
  rfl
def sp_Desk_sign (G : Gx) : Sp := fun vs H Q E => ∃ (a dx k : Addr) (A : List Addr) (s : State) (i d n : Int), vs = [.ref a, .int i, .int d, .int n] ∧ DeskAt G H a dx k A s ∧ DoneA G H a dx k (neut s (.sign i d n)) Q ∧ DoneX G H a dx k A s (neut s (.sign i d n)) E
theorem cal_Desk_sign {P : Program} {w : World} {mg : Str → Option Value} {base : Heap} {G : Gx} (T : Txt G mg) (h : HasM G G.CD "sign" "Desk.sign" s_Desk_sign) (c_want_within : CalX P w G.K mg base 4 "want_within" (sp_want_within G)) (c_wanted : CalN P w G.K mg base 1 "wanted" (sp_wanted G)) : MetX P w G.K mg base 5 G.CD "sign" (sp_Desk_sign G) := by
  obtain ⟨f, fd, F, q1, q2⟩ := h
  have nd := sc_Desk_sign.nd
  refine ⟨f, fd, ["self", "i", "d", "number"], q1, q2, ?_, F.bindsN fun _ _ _ _ _ _ us hl => match us, hl with | [_, _, _, _], _ => rfl⟩
  refine F.ok sc_Desk_sign (fun vs H Q E h => by obtain ⟨a, dx, k, A, s, i, d, n, rfl, _⟩ := h; rfl) fun cdv A outer s H vs Q E hr h => ?_
  refine ⟨_, (pss_cons (ps_expr (pe_cx c_want_within hr (by decide) rfl (fun σ => passAt (takes_of rfl rfl rfl rfl) σ) (pa_cons (pv 1) (pa_cons pe_int (pa_cons (pe_gc rfl T.c_MOST_ITEM) pa_nil)))))
      (pss_cons (ps_expr (pe_cx c_want_within hr (by decide) rfl (fun σ => passAt (takes_of rfl rfl rfl rfl) σ) (pa_cons (pv 2) (pa_cons pe_int (pa_cons (pe_gc rfl T.c_MOST_DEVICE) pa_nil)))))
      (pss_cons (ps_expr (pe_cx c_want_within hr (by decide) rfl (fun σ => passAt (takes_of rfl rfl rfl rfl) σ) (pa_cons (pv 3) (pa_cons pe_int (pa_cons (pe_gc rfl T.c_MOST_NUMBER) pa_nil)))))
      (pss_one (ps_ret (pe_lst (pa_cons (pe_orT (pe_cn c_wanted hr (by decide) rfl (pa_cons (pv 1) (pa_cons (pv 2) (pa_cons (pv 3) pa_nil)))) (pe_one (pe_gc rfl T.c_ROUND))) pa_nil))))))), ?_⟩
  obtain ⟨a, dx, kk, A, s, i, d, n, rfl, hd, kA, kX⟩ := h
  rw [neut_sign] at kA kX
  refine ⟨_, rfl, i, 1, 99, rfl, fun hw1 => ?_, fun hw => kX.no (by rw [show isItem i = false from hw, Bool.false_and])⟩
  rw [show isItem i = true from hw1, Bool.true_and] at kA kX
  refine ⟨_, rfl, d, 0, 7, rfl, fun hw2 => ?_, fun hw => kX.no (by rw [show within d 0 7 = false from hw, Bool.false_and])⟩
  rw [show within d 0 7 = true from hw2, Bool.true_and] at kA kX
  refine ⟨_, rfl, n, 1, 9999, rfl, fun hw3 => ?_, fun hw => kX.no hw⟩
  rw [if_pos (show within n 1 9999 = true from hw3)] at kA
  have h1 := btw_iff.mp hw1
  have h2 := btw_iff.mp hw2
  have h3 := btw_iff.mp hw3
  refine ⟨_, rfl, _, rfl, _, rfl, i, d, n, rfl, ?_⟩
  have em : (i + 3 * d + 5 * n) % 97 = (((i.toNat + 3 * d.toNat + 5 * n.toNat) % 97 : Nat) : Int) := by omega
  rw [em]
  by_cases c : (i.toNat + 3 * d.toNat + 5 * n.toNat) % 97 = 0
  · rw [if_pos c] at kA
    rw [c]
    exact ⟨false, rfl, iteF ⟨big_le (by simp), fun q hq => kA.same hd (Fresh.new hq) upd_same⟩⟩
  · rw [if_neg c] at kA
    exact ⟨true, (bne_iff_ne.mpr (by omega)).symm, iteT ⟨big_le (by simp), fun q hq => kA.same hd (Fresh.new hq) upd_same⟩⟩
end Sc
namespace Sc
open PySem PySem.Spec PyProof.Rows L2
open C8 (pe_gc)
open Vbpoag (Fact Scan Body State factsAt isPlace isItem within start setFacts learnAll told standing syncsOf rightTime goodSign clashesIn itemsOf Standing changedSince)
theorem stD_eq (x : Standing) : stD x = stD' x := by
  unfold stD stD'
  cases x.signed <;> rfl
theorem line_len {form : Nat} {f : Fact} (h : Vbpoag.inRange f = true) : (Vbpoag.lineOf form f).length ≤ 100 := by
  unfold Vbpoag.lineOf
  split
  · exact first_len h
  · exact other_len h
def sp_Desk_since (G : Gx) : Sp := fun vs H Q E => ∃ (a dx k : Addr) (A : List Addr) (s : State) (p m : Int), vs = [.ref a, .int p, .int m] ∧ DeskAt G H a dx k A s ∧ DoneA G H a dx k (neut s (.since p m)) Q ∧ DoneX G H a dx k A s (neut s (.since p m)) E
theorem cal_Desk_since {P : Program} {w : World} {mg : Str → Option Value} {base : Heap} {G : Gx} (T : Txt G mg) (h : HasM G G.CD "since" "Desk.since" s_Desk_since) (c_Desk_facts : MetX P w G.K mg base 5 G.CD "facts" (sp_Desk_facts G)) (c_want_within : CalX P w G.K mg base 4 "want_within" (sp_want_within G)) (c_listed : CalN P w G.K mg base 1 "listed" (sp_listed G)) (c_items_of : CalN P w G.K mg base 1 "items_of" (sp_items_of G)) (c_Standing_told : MetN P w G.K mg base 1 G.CS "told" (sp_Standing_told G)) (c_standing_of : CalN P w G.K mg base 5 "standing_of" (sp_standing_of G)) : MetX P w G.K mg base 6 G.CD "since" (sp_Desk_since G) := by
  obtain ⟨f, fd, F, q1, q2⟩ := h
  have nd := sc_Desk_since.nd
  refine ⟨f, fd, ["self", "p", "k"], q1, q2, ?_, F.bindsN fun _ _ _ _ _ _ us hl => match us, hl with | [_, _, _], _ => rfl⟩
  refine F.ok sc_Desk_since (fun vs H Q E h => by obtain ⟨a, dx, k, A, s, p, m, rfl, _⟩ := h; rfl) fun cdv A outer s H vs Q E hr h => ?_
  refine ⟨_, (pss_cons (ps_set (i := 3) nd rfl (Or.inr rfl) (pe_mx c_Desk_facts hr (by decide) (fun σ => passAt (takes_of rfl rfl rfl rfl) σ) (pv 0) (pa_cons (pv 1) pa_nil)))
      (pss_cons (ps_expr (pe_cx c_want_within hr (by decide) rfl (fun σ => passAt (takes_of rfl rfl rfl rfl) σ) (pa_cons (pv 2) (pa_cons pe_int (pa_cons (pe_gc rfl T.c_MOST_FACTS) pa_nil)))))
      (pss_cons (ps_setLc (i := 4) (own := [("i", 5)]) rfl nd rfl rfl (sw_true rfl rfl rfl (by decide +kernel)) (pi_list (pe_cn c_items_of hr (by decide) rfl (pa_cons (pv 3) pa_nil))) (blkOk_by (own := [("i", 5)]) (N := N_Desk_since) (sc := defScope s_Desk_since) (by decide +kernel)) (fun _ _ _ _ _ => (pg_name (i := 5) nd rfl (Or.inl rfl))) (fun _ _ _ _ _ => pts_one (pt_cmpR (op_neDK (K := G.K) rfl hr.units) (pe_mn0 c_Standing_told hr (by decide) (pe_cn c_standing_of hr (by decide) rfl (pa_cons (pv 3) (pa_cons (pv 5) pa_nil)))) (pe_mn0 c_Standing_told hr (by decide) (pe_cn c_standing_of hr (by decide) rfl (pa_cons (pe_slice (sl_listK (K := G.K) rfl) (pv 3) po_none (po_some (pv 2))) (pa_cons (pv 5) pa_nil)))) (nomark _))) (fun _ _ _ _ _ => (pv 5)))
      (pss_one (ps_ret (pe_op op_cat (pe_lst (pa_cons (pe_callB call_len_seq (by rfl) T.b_len PySem.boot_len (pa_cons (pv 4) pa_nil)) pa_nil)) (pe_cn c_listed hr (by decide) rfl (pa_cons (pv 4) pa_nil)))))))), ?_⟩
  obtain ⟨a, dx, kk, A, s, p, m, rfl, hd, kA, kX⟩ := h
  rw [neut_since] at kA kX
  refine ⟨_, rfl, a, dx, _, rfl, hd.o, rfl, _, rfl, a, dx, kk, A, s, p, rfl, hd, fun n b hp hn hA hok => ?_, fun hno => kX.no (by rw [hno, Bool.false_and])⟩
  rw [hok, Bool.true_and] at kA kX
  refine ⟨_, rfl, m, 0, 100, rfl, fun hw => ?_, fun hw => kX.no hw⟩
  rw [if_pos (show within m 0 100 = true from hw)] at kA
  have hm : m = (m.toNat : Int) := by have := (btw_iff.mp hw).1; omega
  subst hp
  rw [Int.toNat_natCast] at kA
  obtain ⟨b', ys, hA', hb1, hdb, hnd, hll, hrg⟩ := hd.at hn
  rw [hA] at hA'
  cases hA'
  generalize factsAt s n = L at *
  have hil := items_len hrg
  refine ⟨_, rfl, .ref b, L, rfl, by omega, hrg, facts_dp hb1 hdb, fun l H1 s1 hl1 hl0 => ⟨l, rfl, ⟨_, .inl (.inl hl1)⟩, fun D hD => lc_walk (K := G.K) (walk_list (xs := (itemsOf L).map fun (n : Nat) => V.int (n : Int))) (bs := itemsOf L) (fun i => decide (standing (L.take m.toNat) i ≠ standing L i)) (fun (i : Nat) => .int (i : Int)) hD (by simp) (big_lt (by omega)) (fun H' s => .inl (.inl (s _ _ hl1))) (fun i H x H' _ hy => by rw [hy.1]; exact same_refl _) (fun _ _ _ => rfl) (fun j x i H2 H3 Kf Kt hj s2 hy kf kt => ⟨rfl, ?_⟩) fun H4 ws s4 hD4 hdp => ?_⟩⟩
  · obtain ⟨rfl, hx⟩ := hy
    have ex : x = .int (i : Int) := by rw [List.getElem?_map, hj] at hx; exact (Option.some.inj hx).symm
    subst ex
    have s12 := s1.trans s2
    refine ⟨_, rfl, _, rfl, .ref b, L, i, rfl, hll, hnd, hrg, facts_dp (s12 _ _ hb1) (Same.dpAll s12 hdb), fun c1 lo1 ls1 d1 H5 s5 hst1 => ⟨c1, d1, _, rfl, hst1.o, rfl, c1, lo1, ls1, d1, _, rfl, hst1, fun u1 H6 s6 hu1 => ?_⟩⟩
    have s16 := s12.trans (s5.trans s6)
    refine ⟨_, rfl, _, rfl, _, rfl, b, ys, rfl, .inl (.inl (s16 _ _ hb1)), fun q hq => ?_⟩
    have s17 := s16.trans (same_new (o := .lst (cutV ys none (some m))) hq)
    have hcut : cutV ys none (some m) = ys.take m.toNat := cutV_take hm
    have hdt : Dp G.K (upd H6 q (.lst (cutV ys none (some m)))) (.ref q) (factsD (L.take m.toNat)) := by
      have hz := dpAll_take m.toNat (Same.dpAll s17 hdb)
      rw [← List.map_take] at hz
      exact facts_dp (ys := ys.take m.toNat) (by rw [upd_same, hcut]) hz
    refine ⟨_, rfl, .ref q, L.take m.toNat, i, rfl, by rw [List.length_take]; omega, hnd.sublist (List.take_sublist _ _), fun f hf => hrg f (List.mem_of_mem_take hf), hdt, fun c2 lo2 ls2 d2 H8 s8 hst2 => ⟨c2, d2, _, rfl, hst2.o, rfl, c2, lo2, ls2, d2, _, rfl, hst2, fun u2 H9 s9 hu2 => ⟨_, _, Same.dp ((same_new hq).trans (s8.trans s9)) hu1, hu2, by rw [stD_eq]; exact sh_stD _, by rw [stD_eq]; exact sh_stD _, _, rfl, ?_⟩⟩⟩
    rw [stD_eq, stD_eq, eqv_stD]
    have sf : Same H3 H9 := s5.trans (s6.trans ((same_new hq).trans (s8.trans s9)))
    have eb : (!decide (standing L i = standing (L.take m.toNat) i)) = decide (standing (L.take m.toNat) i ≠ standing L i) := by
      refine bool_eq_of_iff ?_
      simp only [Bool.not_eq_true', decide_eq_false_iff_not, decide_eq_true_eq, ne_eq]
      exact ⟨fun h e => h e.symm, fun h e => h e.symm⟩
    rw [eb]
    exact iteB (fun c => ⟨_, rfl, kt _ _ sf c (.int _)⟩) fun c => kf _ sf c
  · have e := nats_of (l := (itemsOf L).filter fun i => decide (standing (L.take m.toNat) i ≠ standing L i)) hdp
    subst e
    have hcl : (changedSince L m.toNat).length ≤ 100 := Nat.le_trans (List.length_filter_le ..) hil
    have ecs : (itemsOf L).filter (fun i => decide (standing (L.take m.toNat) i ≠ standing L i)) = changedSince L m.toNat := rfl
    rw [ecs] at hD4
    refine ⟨_, rfl, D, _, rfl, .inl (.inl (.inl hD4)), big_le (by simp), fun q hq => ⟨_, rfl, D, _, rfl, .inl (.inl (same_new hq _ _ hD4)), by rw [List.length_map]; omega, fun lb H5 s5 hlb0 hlb => ⟨q, lb, _, _, rfl, rfl, s5 _ _ upd_same, hlb, big_le (by simp only [List.length_cons, List.length_nil, List.length_map]; omega), fun z hz => kA.same hd (same_tr s1 (same_tr s4 (same_tr (same_new hq) (same_tr s5 (Fresh.new hz))))) ?_⟩⟩⟩
    rw [upd_same, List.length_map]
    unfold rowD
    rw [List.map_cons, List.map_cons, ints_V]
    unfold Vbpoag.ints
    rw [List.length_map]
    rfl
def sp_Desk_export (G : Gx) : Sp := fun vs H Q E => ∃ (a dx k : Addr) (A : List Addr) (s : State) (p i form : Int), vs = [.ref a, .int p, .int i, .int form] ∧ DeskAt G H a dx k A s ∧ DoneA G H a dx k (neut s (.export_ p i form)) Q ∧ DoneX G H a dx k A s (neut s (.export_ p i form)) E
theorem cal_Desk_export {P : Program} {w : World} {mg : Str → Option Value} {base : Heap} {G : Gx} (T : Txt G mg) (h : HasM G G.CD "export" "Desk.export" s_Desk_export) (c_Desk_facts : MetX P w G.K mg base 5 G.CD "facts" (sp_Desk_facts G)) (c_want_within : CalX P w G.K mg base 4 "want_within" (sp_want_within G)) (c_listed : CalN P w G.K mg base 1 "listed" (sp_listed G)) (c_written : CalN P w G.K mg base 3 "written" (sp_written G)) : MetX P w G.K mg base 6 G.CD "export" (sp_Desk_export G) := by
  obtain ⟨f, fd, F, q1, q2⟩ := h
  have nd := sc_Desk_export.nd
  refine ⟨f, fd, ["self", "p", "i", "form"], q1, q2, ?_, F.bindsN fun _ _ _ _ _ _ us hl => match us, hl with | [_, _, _, _], _ => rfl⟩
  refine F.ok sc_Desk_export (fun vs H Q E h => by obtain ⟨a, dx, k, A, s, p, i, form, rfl, _⟩ := h; rfl) fun cdv A outer s H vs Q E hr h => ?_
  refine ⟨_, (pss_cons (ps_set (i := 4) nd rfl (Or.inl rfl) (pe_mx c_Desk_facts hr (by decide) (fun σ => passAt (takes_of rfl rfl rfl rfl) σ) (pv 0) (pa_cons (pv 1) pa_nil)))
      (pss_cons (ps_expr (pe_cx c_want_within hr (by decide) rfl (fun σ => passAt (takes_of rfl rfl rfl rfl) σ) (pa_cons (pv 2) (pa_cons pe_int (pa_cons (pe_gc rfl T.c_MOST_ITEM) pa_nil)))))
      (pss_cons (ps_expr (pe_cx c_want_within hr (by decide) rfl (fun σ => passAt (takes_of rfl rfl rfl rfl) σ) (pa_cons (pv 3) (pa_cons pe_int (pa_cons pe_int pa_nil)))))
      (pss_cons (ps_setLc (i := 5) (own := [("fact", 6)]) rfl nd rfl rfl (sw_true rfl rfl rfl (by decide +kernel)) (pi_list (pv 4)) (blkOk_by (own := [("fact", 6)]) (N := N_Desk_export) (sc := defScope s_Desk_export) (by decide +kernel)) (fun _ _ _ _ _ => (pg_name (i := 6) nd rfl (Or.inl rfl))) (fun _ _ _ _ _ => pts_one (PW.pt (pw_or (pt_cmpR op_eq (pv 2) pe_int (nomark _)) (pw_or (pt_cmpR op_eq (pe_ix (ix_tupK (K := G.K) rfl) (pv 6) pe_int (fun _ _ => rfl)) (pe_gc rfl T.c_LOOK) (nomark _)) (pw_or1 (pt_cmpR op_eq (pe_ix (ix_tupK (K := G.K) rfl) (pv 6) (pe_gc rfl T.c_ITEM) (fun _ _ => rfl)) (pv 2) (nomark _))))))) (fun _ _ _ _ _ => (pv 6)))
      (pss_one (ps_ret (pe_op op_cat (pe_lst (pa_cons (pe_callB call_len_seq (by rfl) T.b_len PySem.boot_len (pa_cons (pv 5) pa_nil)) pa_nil)) (pe_cn c_listed hr (by decide) rfl (pa_cons (pe_cn c_written hr (by decide) rfl (pa_cons (pv 5) (pa_cons (pv 3) pa_nil))) pa_nil))))))))), ?_⟩
  obtain ⟨a, dx, kk, A, s, p, i, form, rfl, hd, kA, kX⟩ := h
  rw [neut_export] at kA kX
  refine ⟨_, rfl, a, dx, _, rfl, hd.o, rfl, _, rfl, a, dx, kk, A, s, p, rfl, hd, fun n b hp hn hA hok => ?_, fun hno => kX.no (by rw [hno, Bool.false_and])⟩
  rw [hok, Bool.true_and] at kA kX
  refine ⟨_, rfl, i, 0, 99, rfl, fun hw1 => ?_, fun hw => kX.no (by rw [show within i 0 99 = false from hw, Bool.false_and])⟩
  rw [show within i 0 99 = true from hw1, Bool.true_and] at kA kX
  refine ⟨_, rfl, form, 0, 1, rfl, fun hw2 => ?_, fun hw => kX.no hw⟩
  rw [if_pos (show within form 0 1 = true from hw2)] at kA
  have hf' : form = (form.toNat : Int) := by have := (btw_iff.mp hw2).1; omega
  subst hp
  rw [Int.toNat_natCast] at kA
  obtain ⟨b', ys, hA', hb1, hdb, hnd, hll, hrg⟩ := hd.at hn
  rw [hA] at hA'
  cases hA'
  generalize factsAt s n = L at *
  have hl1 : ys.length = L.length := by rw [dpAll_len hdb, List.length_map]
  refine ⟨_, rfl, b, rfl, ⟨_, .inl (.inl hb1)⟩, fun D hD => lc_data (expB i) factD hD (.inl (.inl hb1)) hl1 (big_lt (by omega)) (fun f _ _ => lfree_fact f) (fun j x f H' Kf Kt hxj hfj s' kf kt => ⟨rfl, ?_⟩) fun H1 zs s1 hD1 hdp1 => ?_⟩
  · have hf := Same.dp s' (facts_at hdb hxj hfj)
    obtain ⟨fa, rfl, hS⟩ := dp_tupI hf
    have e0 : decide (V.int i = V.int 0) = (i == 0) := decI
    refine (⟨_, rfl, rfl, _, rfl, ?_⟩)
    rw [e0]
    refine iteB (fun c => iteT ⟨_, rfl, kt _ _ (same_refl _) (by unfold expB; rw [c]; rfl) hf⟩) fun c => ?_
    cases hb : f.body with
    | scan z =>
      have ee : expB i f = ((z.item : Int) == i) := by unfold expB; rw [c, hb]; rfl
      rw [factI_scan hb] at hS
      refine ⟨_, rfl, _, _, _, _, rfl, rfl, hS, rfl, rfl, _, rfl, iteF ⟨_, rfl, _, _, _, _, rfl, rfl, hS, rfl, _, rfl, rfl, _, rfl, ?_⟩⟩
      have ed : decide (V.int (z.item : Int) = V.int i) = ((z.item : Int) == i) := decI
      rw [ed]
      exact iteB (fun c2 => ⟨_, rfl, kt _ _ (same_refl _) (ee.trans c2) hf⟩) fun c2 => kf _ (same_refl _) (ee.trans c2)
    | sync t =>
      have ee : expB i f = true := by unfold expB; rw [c, hb]; rfl
      rw [factI_sync hb] at hS
      exact ⟨_, rfl, _, _, _, _, rfl, rfl, hS, rfl, rfl, _, rfl, iteT (iteT ⟨_, rfl, kt _ _ (same_refl _) ee hf⟩)⟩
  · have hz := dpAll_len hdp1
    rw [List.length_map] at hz
    have hfl : (L.filter (expB i)).length ≤ L.length := List.length_filter_le ..
    have hrf : ∀ f ∈ L.filter (expB i), Vbpoag.inRange f = true := fun f hf => hrg f (List.mem_filter.mp hf).1
    refine ⟨_, rfl, D, zs, rfl, .inl (.inl (.inl hD1)), big_le (by simp), fun q hq => ⟨_, rfl, _, rfl, .ref D, L.filter (expB i), form.toNat, (by rw [← hf']; rfl), facts_dp (same_new hq _ _ hD1) (Same.dpAll (same_new hq) hdp1), by omega, hrf, fun wb H2 s2 hwb0 hwb => ?_⟩⟩
    have hwl := written_len (form := form.toNat) fun f hf => line_len (hrf f hf)
    refine ⟨wb, _, rfl, .inl (.inl hwb), by rw [List.length_map]; omega, fun lb H5 s5 hlb0 hlb => ⟨q, lb, _, _, rfl, rfl, s5 _ _ (s2 _ _ upd_same), hlb, (by rw [sizeLine_eq]; simp only [List.length_cons, List.length_nil, List.length_map]; omega), fun z hz' => kA.same hd (same_tr s1 (same_tr (same_new hq) (same_tr s2 (same_tr s5 (Fresh.new hz'))))) ?_⟩⟩
    rw [upd_same, List.length_map, hz]
    unfold rowD
    rw [List.map_cons, List.map_cons, ints_V]
    unfold Vbpoag.ints
    rw [List.length_map]
    rfl
end Sc
namespace Sc
open PySem PySem.Spec PyProof.Rows L2
open C8 (pe_gc)
open Vbpoag (Fact Scan Body State factsAt isPlace isItem within start setFacts learnAll told standing syncsOf rightTime goodSign clashesIn itemsOf Standing changedSince cut readText readFrom readLine bytesOf)
theorem rdL_eq (form : Nat) (w : List Nat) : rdL form w = readLine form w := by
  unfold rdL readLine
  rw [pyNamed_eq]
theorem pyFrom_eq (form : Nat) : ∀ (ls : List (List Nat)) (n : Nat), pyFrom form n ls = readFrom form n ls
  | [], n => by rw [pyFrom, readFrom]
  | l :: r, n => by
    rw [pyFrom, readFrom, rdL_eq, pyFrom_eq form r (n + 1)]
    by_cases h : l.isEmpty = true
    · rw [if_pos h, if_pos h]
    · rw [if_neg h, if_neg h]
      cases readLine form l with
      | none => rfl
      | some f => cases readFrom form (n + 1) r <;> rfl
theorem bytes_text (t : List Int) : bytesOf t = if textOk t = true then some (t.map Int.toNat) else none := rfl
theorem text_nats {t : List Int} (h : textOk t = true) : t.map V.int = (t.map Int.toNat).map natV ∧ t.length ≤ 4000 := by
  unfold textOk at h
  rw [Bool.and_eq_true, decide_eq_true_eq, List.all_eq_true] at h
  refine ⟨?_, h.1⟩
  rw [List.map_map]
  refine List.map_congr_left fun z hz => ?_
  have := h.2 z hz
  unfold within at this
  simp only [Bool.and_eq_true, decide_eq_true_eq] at this
  show V.int z = V.int ((z.toNat : Nat) : Int)
  congr 1
  omega
def sp_Desk_import_text (G : Gx) : Sp := fun vs H Q E => ∃ (a dx k : Addr) (A : List Addr) (s : State) (p form : Int) (ta : Addr) (t : List Int), vs = [.ref a, .int p, .int form, .ref ta] ∧ DeskAt G H a dx k A s ∧ SqL G.K H ta (t.map V.int) ∧ t.length ≤ 10000 ∧ DoneA G H a dx k (neut s (.import_ p form t)) Q ∧ DoneX G H a dx k A s (neut s (.import_ p form t)) E
theorem cal_Desk_import_text {P : Program} {w : World} {mg : Str → Option Value} {base : Heap} {G : Gx} (T : Txt G mg) (h : HasM G G.CD "import_text" "Desk.import_text" s_Desk_import_text) (c_Desk_facts : MetX P w G.K mg base 5 G.CD "facts" (sp_Desk_facts G)) (c_want_within : CalX P w G.K mg base 4 "want_within" (sp_want_within G)) (c_want_text : CalX P w G.K mg base 4 "want_text" (sp_want_text G)) (c_read_facts : CalN P w G.K mg base 7 "read_facts" (sp_read_facts G)) (c_Desk_learn : MetX P w G.K mg base 5 G.CD "learn" (sp_Desk_learn G)) : MetX P w G.K mg base 8 G.CD "import_text" (sp_Desk_import_text G) := by
  obtain ⟨f, fd, F, q1, q2⟩ := h
  have nd := sc_Desk_import_text.nd
  refine ⟨f, fd, ["self", "p", "form", "text"], q1, q2, ?_, F.bindsN fun _ _ _ _ _ _ us hl => match us, hl with | [_, _, _, _], _ => rfl⟩
  refine F.ok sc_Desk_import_text (fun vs H Q E h => by obtain ⟨a, dx, k, A, s, p, form, ta, t, rfl, _⟩ := h; rfl) fun cdv A outer s H vs Q E hr h => ?_
  refine ⟨_, (pss_cons (ps_expr (pe_mx c_Desk_facts hr (by decide) (fun σ => passAt (takes_of rfl rfl rfl rfl) σ) (pv 0) (pa_cons (pv 1) pa_nil)))
      (pss_cons (ps_expr (pe_cx c_want_within hr (by decide) rfl (fun σ => passAt (takes_of rfl rfl rfl rfl) σ) (pa_cons (pv 2) (pa_cons pe_int (pa_cons pe_int pa_nil)))))
      (pss_cons (ps_expr (pe_cx c_want_text hr (by decide) rfl (fun σ => passAt (takes_of rfl rfl rfl rfl) σ) (pa_cons (pv 3) pa_nil)))
      (pss_cons (ps_asg (pe_cn c_read_facts hr (by decide) rfl (pa_cons (pv 3) (pa_cons (pv 2) pa_nil))) (pg_tup rfl (pgs_cons (pg_name (i := 4) nd rfl (Or.inl rfl)) (pgs_cons (pg_name (i := 5) nd rfl (Or.inl rfl)) pgs_nil))))
      (pss_cons (ps_if (pt_cmpR op_gt (pv 5) pe_int (nomark _)) (pss_one (ps_ret (pe_lst (pa_cons pe_int (pa_cons (pe_un un_neg pe_int) (pa_cons (pv 5) pa_nil)))))) pss_nil)
      (pss_one (ps_ret (pe_mx c_Desk_learn hr (by decide) (fun σ => passAt (takes_of rfl rfl rfl rfl) σ) (pv 0) (pa_cons (pv 1) (pa_cons (pv 4) pa_nil)))))))))), ?_⟩
  obtain ⟨a, dx, kk, A, s, p, form, ta, t, rfl, hd, hta, htl, kA, kX⟩ := h
  rw [neut_import] at kA kX
  refine ⟨_, rfl, a, dx, _, rfl, hd.o, rfl, _, rfl, a, dx, kk, A, s, p, rfl, hd, fun n b hp hn hA hok => ?_, fun hno => kX.no (by rw [hno, Bool.false_and])⟩
  rw [hok, Bool.true_and] at kA kX
  refine ⟨_, rfl, form, 0, 1, rfl, fun hw2 => ?_, fun hw => kX.no hw⟩
  rw [if_pos (show within form 0 1 = true from hw2), bytes_text] at kA kX
  have hf' : form = (form.toNat : Int) := by have := (btw_iff.mp hw2).1; omega
  subst hp
  rw [Int.toNat_natCast] at kA kX
  refine ⟨_, rfl, ta, t, rfl, hta, htl, fun hto H1 s1 => ?_, fun hto => ?_⟩
  · rw [if_pos hto] at kA kX
    obtain ⟨e1, hl4⟩ := text_nats hto
    refine ⟨_, rfl, _, rfl, ta, t.map Int.toNat, form.toNat, (by rw [← hf']; rfl), by rw [← e1]; exact s1.seq hta, by rw [List.length_map]; omega, fun u l fs ys m H2 s2 hu hl hdp hfl hr => ?_⟩
    have s12 := s1.trans s2
    refine ⟨u, _, rfl, hu, rfl, _, _, rfl, _, _, rfl, rfl, _, rfl, _, _, rfl, rfl, _, rfl, ?_⟩
    rw [pyFrom_eq] at hr
    have er : readText form.toNat (t.map Int.toNat) = readFrom form.toNat 1 (cut 10 (t.map Int.toNat)) := rfl
    rcases hr with ⟨h1, h2⟩ | ⟨h1, h2⟩
    · subst h2
      dsimp only at kA kX
      rw [er, h1] at kA kX
      dsimp only at kA kX
      refine iteF ⟨_, rfl, a, dx, _, rfl, s12 _ _ hd.o, rfl, _, rfl, _, rfl, a, dx, kk, A, s, n, .ref l, fs, rfl, hd.same s12, hn, facts_dp hl hdp, from_in _ _ _ _ h1, hfl, kA.mono s12, kX.mono s12⟩
    · dsimp only at kA kX
      rw [er, h1] at kA kX
      dsimp only at kA kX
      rw [decide_eq_true (show (0 : Int) < (m : Int) by omega)]
      exact iteT ⟨_, rfl, _, rfl, big_le (by simp), fun q hq => kA.same hd (same_tr s12 (Fresh.new hq)) upd_same⟩
  · rw [if_neg (by rw [hto]; exact Bool.false_ne_true)] at kX
    exact kX (-2) rfl
def sp_Desk_convert (G : Gx) : Sp := fun vs H Q E => ∃ (a dx k : Addr) (A : List Addr) (s : State) (form : Int) (ta : Addr) (t : List Int), vs = [.ref a, .int form, .ref ta] ∧ DeskAt G H a dx k A s ∧ SqL G.K H ta (t.map V.int) ∧ t.length ≤ 10000 ∧ DoneA G H a dx k (neut s (.convert form t)) Q ∧ DoneX G H a dx k A s (neut s (.convert form t)) E
theorem cal_Desk_convert {P : Program} {w : World} {mg : Str → Option Value} {base : Heap} {G : Gx} (T : Txt G mg) (h : HasM G G.CD "convert" "Desk.convert" s_Desk_convert) (c_want_within : CalX P w G.K mg base 4 "want_within" (sp_want_within G)) (c_want_text : CalX P w G.K mg base 4 "want_text" (sp_want_text G)) (c_read_facts : CalN P w G.K mg base 7 "read_facts" (sp_read_facts G)) (c_listed : CalN P w G.K mg base 1 "listed" (sp_listed G)) (c_written : CalN P w G.K mg base 3 "written" (sp_written G)) : MetX P w G.K mg base 8 G.CD "convert" (sp_Desk_convert G) := by
  obtain ⟨f, fd, F, q1, q2⟩ := h
  have nd := sc_Desk_convert.nd
  refine ⟨f, fd, ["self", "form", "text"], q1, q2, ?_, F.bindsN fun _ _ _ _ _ _ us hl => match us, hl with | [_, _, _], _ => rfl⟩
  refine F.ok sc_Desk_convert (fun vs H Q E h => by obtain ⟨a, dx, k, A, s, form, ta, t, rfl, _⟩ := h; rfl) fun cdv A outer s H vs Q E hr h => ?_
  refine ⟨_, (pss_cons (ps_expr (pe_cx c_want_within hr (by decide) rfl (fun σ => passAt (takes_of rfl rfl rfl rfl) σ) (pa_cons (pv 1) (pa_cons pe_int (pa_cons pe_int pa_nil)))))
      (pss_cons (ps_expr (pe_cx c_want_text hr (by decide) rfl (fun σ => passAt (takes_of rfl rfl rfl rfl) σ) (pa_cons (pv 2) pa_nil)))
      (pss_cons (ps_asg (pe_cn c_read_facts hr (by decide) rfl (pa_cons (pv 2) (pa_cons (pv 1) pa_nil))) (pg_tup rfl (pgs_cons (pg_name (i := 3) nd rfl (Or.inl rfl)) (pgs_cons (pg_name (i := 4) nd rfl (Or.inl rfl)) pgs_nil))))
      (pss_cons (ps_if (pt_cmpR op_gt (pv 4) pe_int (nomark _)) (pss_one (ps_ret (pe_lst (pa_cons pe_int (pa_cons (pe_un un_neg pe_int) (pa_cons (pv 4) pa_nil)))))) pss_nil)
      (pss_one (ps_ret (pe_op op_cat (pe_lst (pa_cons (pe_callB call_len_seq (by rfl) T.b_len PySem.boot_len (pa_cons (pv 3) pa_nil)) pa_nil)) (pe_cn c_listed hr (by decide) rfl (pa_cons (pe_cn c_written hr (by decide) rfl (pa_cons (pv 3) (pa_cons (pe_op op_sub pe_int (pv 1)) pa_nil))) pa_nil))))))))), ?_⟩
  obtain ⟨a, dx, kk, A, s, form, ta, t, rfl, hd, hta, htl, kA, kX⟩ := h
  rw [neut_convert] at kA kX
  refine ⟨_, rfl, form, 0, 1, rfl, fun hw2 => ?_, fun hw => kX.no hw⟩
  rw [if_pos (show within form 0 1 = true from hw2), bytes_text] at kA kX
  have hf0 := btw_iff.mp hw2
  have hf' : form = (form.toNat : Int) := by omega
  have e1m : (1 : Int) - form = ((1 - form.toNat : Nat) : Int) := by omega
  refine ⟨_, rfl, ta, t, rfl, hta, htl, fun hto H1 s1 => ?_, fun hto => ?_⟩
  · rw [if_pos hto] at kA kX
    obtain ⟨e1, hl4⟩ := text_nats hto
    refine ⟨_, rfl, _, rfl, ta, t.map Int.toNat, form.toNat, (by rw [← hf']; rfl), by rw [← e1]; exact s1.seq hta, by rw [List.length_map]; omega, fun u l fs ys m H2 s2 hu hl hdp hfl hr => ?_⟩
    have s12 := s1.trans s2
    refine ⟨u, _, rfl, hu, rfl, _, _, rfl, _, _, rfl, rfl, _, rfl, _, _, rfl, rfl, _, rfl, ?_⟩
    rw [pyFrom_eq] at hr
    have er : readText form.toNat (t.map Int.toNat) = readFrom form.toNat 1 (cut 10 (t.map Int.toNat)) := rfl
    rcases hr with ⟨h1, h2⟩ | ⟨h1, h2⟩
    · subst h2
      dsimp only at kA kX
      rw [er, h1] at kA kX
      dsimp only at kA kX
      have hrf := from_in _ _ _ _ h1
      have hyl := dpAll_len hdp
      rw [List.length_map] at hyl
      refine iteF ⟨_, rfl, l, ys, rfl, .inl (.inl (.inl hl)), big_le (by simp), fun q hq => ⟨_, rfl, _, rfl, _, _, rfl, rfl, .ref l, fs, 1 - form.toNat, (by rw [← e1m]; rfl), facts_dp (same_new hq _ _ hl) (Same.dpAll (same_new hq) hdp), hfl, hrf, fun wb H3 s3 hwb0 hwb => ?_⟩⟩
      have hwl := written_len (form := 1 - form.toNat) fun f hf => line_len (hrf f hf)
      refine ⟨wb, _, rfl, .inl (.inl hwb), by rw [List.length_map]; omega, fun lb H5 s5 hlb0 hlb => ⟨q, lb, _, _, rfl, rfl, s5 _ _ (s3 _ _ upd_same), hlb, (by rw [sizeLine_eq]; simp only [List.length_cons, List.length_nil, List.length_map]; omega), fun z hz' => kA.same hd (same_tr s12 (same_tr (same_new hq) (same_tr s3 (same_tr s5 (Fresh.new hz'))))) ?_⟩⟩
      rw [upd_same, List.length_map, hyl]
      unfold rowD
      rw [List.map_cons, List.map_cons, ints_V]
      unfold Vbpoag.ints
      rw [List.length_map]
      rfl
    · dsimp only at kA kX
      rw [er, h1] at kA kX
      dsimp only at kA kX
      rw [decide_eq_true (show (0 : Int) < (m : Int) by omega)]
      exact iteT ⟨_, rfl, _, rfl, big_le (by simp), fun q hq => kA.same hd (same_tr s12 (Fresh.new hq)) upd_same⟩
  · rw [if_neg (by rw [hto]; exact Bool.false_ne_true)] at kX
    exact kX (-2) rfl
end Sc
namespace Sc
open PySem PySem.Spec PyProof.Rows L2
open C8 (pe_gc)
open Vbpoag (Fact Scan Body State factsAt isPlace isItem within start setFacts learnAll told standing syncsOf rightTime goodSign clashesIn itemsOf Standing eventsOf missingOf sameSet Event)
theorem sgV_eq (x : Option (Nat × Nat × Nat)) : sgV x = (sgL x).map natV := by cases x <;> rfl
def sp_Desk_signed (G : Gx) : Sp := fun vs H Q E => ∃ (a dx k : Addr) (A : List Addr) (s : State) (p i : Int), vs = [.ref a, .int p, .int i] ∧ DeskAt G H a dx k A s ∧ DoneA G H a dx k (neut s (.signed p i)) Q ∧ DoneX G H a dx k A s (neut s (.signed p i)) E
theorem cal_Desk_signed {P : Program} {w : World} {mg : Str → Option Value} {base : Heap} {G : Gx} (T : Txt G mg) (h : HasM G G.CD "signed" "Desk.signed" s_Desk_signed) (c_Desk_standing : MetX P w G.K mg base 6 G.CD "standing" (sp_Desk_standing G)) : MetX P w G.K mg base 7 G.CD "signed" (sp_Desk_signed G) := by
  obtain ⟨f, fd, F, q1, q2⟩ := h
  have nd := sc_Desk_signed.nd
  refine ⟨f, fd, ["self", "p", "i"], q1, q2, ?_, F.bindsN fun _ _ _ _ _ _ us hl => match us, hl with | [_, _, _], _ => rfl⟩
  refine F.ok sc_Desk_signed (fun vs H Q E h => by obtain ⟨a, dx, k, A, s, p, i, rfl, _⟩ := h; rfl) fun cdv A outer s H vs Q E hr h => ?_
  refine ⟨_, (pss_cons (ps_set (i := 3) nd rfl (Or.inl rfl) (pe_fld (pe_mx c_Desk_standing hr (by decide) (fun σ => passAt (takes_of rfl rfl rfl rfl) σ) (pv 0) (pa_cons (pv 1) (pa_cons (pv 2) pa_nil))) rfl))
      (pss_cons (ps_if (pt_cmpR (op_eqD hr.units) (pv 3) (pe_lst pa_nil) (nomark _)) (pss_one (ps_ret (pe_lst (pa_cons pe_int pa_nil)))) pss_nil)
      (pss_one (ps_ret (pe_op op_cat (pe_lst (pa_cons pe_int pa_nil)) (pv 3)))))), ?_⟩
  obtain ⟨a, dx, kk, A, s, p, i, rfl, hd, kA, kX⟩ := h
  rw [neut_signed] at kA kX
  refine ⟨_, rfl, a, dx, _, rfl, hd.o, rfl, _, rfl, _, rfl, a, dx, kk, A, s, p, i, rfl, hd, fun hok b lo ls d2 H1 s1 hs => ?_, fun hno => kX.no hno⟩
  rw [if_pos hok] at kA
  generalize standing (factsAt s p.toNat) i.toNat = x at *
  have hsg := hs.sg
  rw [sgV_eq] at hsg
  refine ⟨b, _, d2, _, _, rfl, hs.o, T.clS, T.nS_signer, rfl, _, rfl, big_le (by simp), fun q hq => ⟨_, _, bs_dp (.inl (.inl (same_new hq _ _ hsg))), .lst (.inl (.inl upd_same)) .nil, sh_nats _, sh_nil, _, rfl, ?_⟩⟩
  rw [eqv_nats_nil]
  cases hx : x.signed with
  | none =>
    rw [hx] at kA
    exact iteT ⟨big_le (by simp), fun r hr => kA.same hd (same_tr s1 (same_tr (same_new hq) (Fresh.new hr))) upd_same⟩
  | some z =>
    rw [hx] at kA hsg
    refine iteF ⟨big_le (by simp), fun r hr => ⟨_, rfl, r, ls, _, _, rfl, rfl, upd_same, same_new hr _ _ (same_new hq _ _ hsg), big_le (by simp [sgL]), fun r2 hr2 => kA.same hd (same_tr s1 (same_tr (same_new hq) (same_tr (same_new hr) (Fresh.new hr2)))) upd_same⟩⟩
def sp_Desk_at (G : Gx) : Sp := fun vs H Q E => ∃ (a dx k : Addr) (A : List Addr) (s : State) (p o : Int), vs = [.ref a, .int p, .int o] ∧ DeskAt G H a dx k A s ∧ DoneA G H a dx k (neut s (.at_ p o)) Q ∧ DoneX G H a dx k A s (neut s (.at_ p o)) E
theorem cal_Desk_at {P : Program} {w : World} {mg : Str → Option Value} {base : Heap} {G : Gx} (T : Txt G mg) (h : HasM G G.CD "at" "Desk.at" s_Desk_at) (c_Desk_facts : MetX P w G.K mg base 5 G.CD "facts" (sp_Desk_facts G)) (c_want_within : CalX P w G.K mg base 4 "want_within" (sp_want_within G)) (c_items_of : CalN P w G.K mg base 1 "items_of" (sp_items_of G)) (c_standing_of : CalN P w G.K mg base 5 "standing_of" (sp_standing_of G)) (c_listed : CalN P w G.K mg base 1 "listed" (sp_listed G)) : MetX P w G.K mg base 6 G.CD "at" (sp_Desk_at G) := by
  obtain ⟨f, fd, F, q1, q2⟩ := h
  have nd := sc_Desk_at.nd
  refine ⟨f, fd, ["self", "p", "office"], q1, q2, ?_, F.bindsN fun _ _ _ _ _ _ us hl => match us, hl with | [_, _, _], _ => rfl⟩
  refine F.ok sc_Desk_at (fun vs H Q E h => by obtain ⟨a, dx, k, A, s, p, o, rfl, _⟩ := h; rfl) fun cdv A outer s H vs Q E hr h => ?_
  refine ⟨_, (pss_cons (ps_set (i := 3) nd rfl (Or.inl rfl) (pe_mx c_Desk_facts hr (by decide) (fun σ => passAt (takes_of rfl rfl rfl rfl) σ) (pv 0) (pa_cons (pv 1) pa_nil)))
      (pss_cons (ps_expr (pe_cx c_want_within hr (by decide) rfl (fun σ => passAt (takes_of rfl rfl rfl rfl) σ) (pa_cons (pv 2) (pa_cons pe_int (pa_cons (pe_gc rfl T.c_MOST_OFFICE) pa_nil)))))
      (pss_cons (ps_set (i := 4) nd rfl (Or.inl rfl) (pe_lst pa_nil))
      (pss_cons (ps_for (passes_of rfl) rfl (pi_list (pe_cn c_items_of hr (by decide) rfl (pa_cons (pv 3) pa_nil))) (pg_name (i := 5) nd rfl (Or.inl rfl))
      (pss_cons (ps_set (i := 6) nd rfl (Or.inl rfl) (pe_cn c_standing_of hr (by decide) rfl (pa_cons (pv 3) (pa_cons (pv 5) pa_nil))))
      (pss_one (ps_if (PW.pt (pw_and (pt_cmpR op_eq (pe_fld (pv 6) rfl) (pv 2) (nomark _)) (pw_and1 (pt_cmpR op_in_seq (pe_fld (pv 6) rfl) (pe_tup (pa_cons (pe_gc rfl T.c_AT_OFFICE) (pa_cons (pe_gc rfl T.c_HELD) (pa_cons (pe_gc rfl T.c_CUSTOMS) pa_nil)))) rfl)))) (pss_one (ps_expr (pe_bm PySem.F.plainAttrs_list PySem.F.slot_list_append PySem.F.type_list_append mt_append (pv 4) (pa_cons (pv 5) pa_nil)))) pss_nil))))
      (pss_one (ps_ret (pe_op op_cat (pe_lst (pa_cons (pe_callB call_len_seq (by rfl) T.b_len PySem.boot_len (pa_cons (pv 4) pa_nil)) pa_nil)) (pe_cn c_listed hr (by decide) rfl (pa_cons (pv 4) pa_nil))))))))), ?_⟩
  obtain ⟨a, dx, kk, A, s, p, o, rfl, hd, kA, kX⟩ := h
  rw [neut_at] at kA kX
  refine ⟨_, rfl, a, dx, _, rfl, hd.o, rfl, _, rfl, a, dx, kk, A, s, p, rfl, hd, fun n b hp hn hA hok => ?_, fun hno => kX.no (by rw [hno, Bool.false_and])⟩
  rw [hok, Bool.true_and] at kA kX
  refine ⟨_, rfl, o, 0, 5, rfl, fun hw => ?_, fun hw => kX.no hw⟩
  rw [if_pos (show within o 0 5 = true from hw)] at kA
  subst hp
  rw [Int.toNat_natCast] at kA
  obtain ⟨b', ys, hA', hb1, hdb, hnd, hll, hrg⟩ := hd.at hn
  rw [hA] at hA'
  cases hA'
  generalize factsAt s n = L at *
  have hil := items_len hrg
  refine ⟨big_le (by simp), fun l hl0 => ?_⟩
  have s0 : Same H (upd H l (.lst [])) := same_new hl0
  have hlt : (upd H l (.lst [])) l = some (.lst []) := upd_same
  generalize upd H l (.lst []) = H0 at s0 hlt
  refine ⟨_, rfl, .ref b, L, rfl, by omega, hrg, facts_dp (s0 _ _ hb1) (Same.dpAll s0 hdb), fun il H1 s1 hil1 hil0 => ⟨il, rfl, ⟨_, .inl (.inl hil1)⟩, for_list (xs := (itemsOf L).map fun (n : Nat) => V.int (n : Int)) (fun j σ H2 => ∃ u5 u6, σ = [some (.ref a), some (.int (n : Int)), some (.int o), some (.ref b), some (.ref l), u5, u6] ∧ SX l H1 H2 ∧ H2 l = some (.lst ((((itemsOf L).take j).filter (atB L o)).map natV))) ⟨none, none, rfl, SX.of (same_refl _), s1 _ _ hlt⟩ (fun j σ H2 _ h => ?_) (fun j x σ H2 hxj h => ?_) fun σ H2 h => ?_⟩⟩
  all_goals have nil' : il ≠ l := ne_of_new' hlt hil0
  · obtain ⟨_, _, _, sx, _⟩ := h
    exact sx.sqL nil' (.inl (.inl hil1))
  · obtain ⟨u5, u6, rfl, sx, hl2⟩ := h
    have hj : j < (itemsOf L).length := by have := (List.getElem?_eq_some_iff.mp hxj).1; rwa [List.length_map] at this
    have hij : (itemsOf L)[j]? = some (itemsOf L)[j] := List.getElem?_eq_getElem hj
    generalize (itemsOf L)[j] = i at hij
    have ex : x = .int (i : Int) := by rw [List.getElem?_map, hij] at hxj; exact (Option.some.inj hxj).symm
    subst ex
    have tk := take_next' hij
    have s02 : Same H H2 := sx.same (s0.trans s1) hl0
    have hfl : (((itemsOf L).take j).filter (atB L o)).length ≤ 100 := Nat.le_trans (List.length_filter_le ..) (by rw [List.length_take]; omega)
    refine ⟨_, rfl, _, rfl, .ref b, L, i, rfl, hll, hnd, hrg, facts_dp (s02 _ _ hb1) (Same.dpAll s02 hdb), fun c lo ls d2 H3 s3 hst => ⟨_, rfl, c, _, d2, _, _, rfl, hst.o, T.clS, T.nS_office, rfl, _, rfl, rfl, _, rfl, ?_⟩⟩
    have e1 : decide (natV (standing L i).office = V.int o) = (((standing L i).office : Int) == o) := decI
    rw [e1]
    have hl3 := s3 _ _ hl2
    have skip : ∀ H4, Same H3 H4 → atB L o i = false → SX l H1 H4 ∧ H4 l = some (.lst ((((itemsOf L).take (j + 1)).filter (atB L o)).map natV)) := fun H4 s4 hf => by
      refine ⟨sx.trans (SX.of (s3.trans s4)), ?_⟩
      rw [tk, List.filter_append, List.filter_cons, if_neg (by rw [hf]; exact Bool.false_ne_true), List.filter_nil, List.append_nil]
      exact s4 _ _ hl3
    refine iteB (fun c1 => ⟨_, rfl, c, _, d2, _, _, rfl, hst.o, T.clS, T.nS_state, rfl, big_le (by simp), fun q hq => ⟨q, _, rfl, .inr (.inl (.inl upd_same)), rfl, rfl, _, rfl, ?_⟩⟩) fun c1 => iteF ?_
    · have e2 : (if false = true then !inV (natV (standing L i).state) [.int 1, .int 4, .int 7] else inV (natV (standing L i).state) [.int 1, .int 4, .int 7]) = [1, 4, 7].contains (standing L i).state := by
        rw [if_neg (Bool.false_ne_true)]
        exact in_nats (standing L i).state [1, 4, 7]
      have sq := same_new (o := .tup [.int 1, .int 4, .int 7]) hq
      refine iteB (fun c2 => ?_) fun c2 => ?_
      · have c2 := e2.symm.trans c2
        have hyes : atB L o i = true := by unfold atB; rw [c1, c2]; rfl
        have hl4 := sq _ _ hl3
        refine ⟨_, rfl, .inl ⟨rfl, _, .inl (.inl hl4)⟩, _, rfl, l, _, _, rfl, rfl, hl4, big_lt (by rw [List.length_map]; omega), _, _, rfl, ((sx.trans (SX.of s3)).trans (SX.of sq)).upd, ?_⟩
        rw [tk, List.filter_append, List.filter_cons, if_pos hyes, List.filter_nil, List.map_append]
        exact upd_same
      · have c2 := e2.symm.trans c2
        have hno : atB L o i = false := by unfold atB; rw [c2]; rfl
        obtain ⟨g1, g2⟩ := skip _ sq hno
        exact ⟨_, _, rfl, g1, g2⟩
    · have hno : atB L o i = false := by unfold atB; rw [c1, Bool.and_false]
      obtain ⟨g1, g2⟩ := skip _ (same_refl _) hno
      exact ⟨_, _, rfl, g1, g2⟩
  · obtain ⟨u5, u6, rfl, sx, hl2⟩ := h
    rw [List.length_map, List.take_length] at hl2
    have s02 : Same H H2 := sx.same (s0.trans s1) hl0
    have hfl : ((itemsOf L).filter (atB L o)).length ≤ 100 := Nat.le_trans (List.length_filter_le ..) hil
    refine ⟨_, rfl, l, _, rfl, .inl (.inl (.inl hl2)), big_le (by simp), fun q hq => ⟨_, rfl, l, _, rfl, .inl (.inl (same_new hq _ _ hl2)), by rw [List.length_map]; omega, fun lb H5 s5 hlb0 hlb => ⟨q, lb, _, _, rfl, rfl, s5 _ _ upd_same, hlb, big_le (by simp only [List.length_cons, List.length_nil, List.length_map]; omega), fun z hz => kA.same hd (same_tr s02 (same_tr (same_new hq) (same_tr s5 (Fresh.new hz)))) ?_⟩⟩⟩
    rw [upd_same, List.length_map]
    unfold rowD
    rw [List.map_cons, List.map_cons, ints_V]
    unfold Vbpoag.ints
    rw [List.length_map]
    rfl
def sp_Desk_missing (G : Gx) : Sp := fun vs H Q E => ∃ (a dx k : Addr) (A : List Addr) (s : State) (p d : Int), vs = [.ref a, .int p, .int d] ∧ DeskAt G H a dx k A s ∧ DoneA G H a dx k (neut s (.missing p d)) Q ∧ DoneX G H a dx k A s (neut s (.missing p d)) E
theorem cal_Desk_missing {P : Program} {w : World} {mg : Str → Option Value} {base : Heap} {G : Gx} (T : Txt G mg) (h : HasM G G.CD "missing" "Desk.missing" s_Desk_missing) (c_Desk_facts : MetX P w G.K mg base 5 G.CD "facts" (sp_Desk_facts G)) (c_want_within : CalX P w G.K mg base 4 "want_within" (sp_want_within G)) (c_listed : CalN P w G.K mg base 1 "listed" (sp_listed G)) : MetX P w G.K mg base 6 G.CD "missing" (sp_Desk_missing G) := by
  obtain ⟨f, fd, F, q1, q2⟩ := h
  have nd := sc_Desk_missing.nd
  refine ⟨f, fd, ["self", "p", "d"], q1, q2, ?_, F.bindsN fun _ _ _ _ _ _ us hl => match us, hl with | [_, _, _], _ => rfl⟩
  refine F.ok sc_Desk_missing (fun vs H Q E h => by obtain ⟨a, dx, k, A, s, p, d, rfl, _⟩ := h; rfl) fun cdv A outer s H vs Q E hr h => ?_
  refine ⟨_, (pss_cons (ps_set (i := 3) nd rfl (Or.inl rfl) (pe_mx c_Desk_facts hr (by decide) (fun σ => passAt (takes_of rfl rfl rfl rfl) σ) (pv 0) (pa_cons (pv 1) pa_nil)))
      (pss_cons (ps_expr (pe_cx c_want_within hr (by decide) rfl (fun σ => passAt (takes_of rfl rfl rfl rfl) σ) (pa_cons (pv 2) (pa_cons pe_int (pa_cons (pe_gc rfl T.c_MOST_DEVICE) pa_nil)))))
      (pss_cons (ps_set (i := 4) nd rfl (Or.inr rfl) (pe_lc (own := [("fact", 6)]) rfl nd (pi_list (pv 3)) (blkOk_by (own := [("fact", 6)]) (N := N_Desk_missing) (sc := defScope s_Desk_missing) (by decide +kernel)) (fun _ _ _ _ _ => (pg_name (i := 6) nd rfl (Or.inl rfl))) (fun _ _ _ _ _ => pts_one (pt_cmpR op_eq (pe_ix (ix_tupK (K := G.K) rfl) (pv 6) (pe_gc rfl T.c_DEVICE) (fun _ _ => rfl)) (pv 2) (nomark _))) (fun _ _ _ _ _ => (pe_ix (ix_tupK (K := G.K) rfl) (pv 6) (pe_gc rfl T.c_NUMBER) (fun _ _ => rfl)))))
      (pss_cons (ps_setLc (i := 5) (own := [("number", 7)]) rfl nd rfl rfl (sw_true rfl rfl rfl (by decide +kernel)) (pi_range2 rfl T.b_range (pa_cons pe_int (pa_cons (pe_callB (cr_max rfl) (by rfl) T.b_max (by decide +kernel) (pa_cons (pe_op op_cat (pe_lst (pa_cons pe_int pa_nil)) (pv 4)) pa_nil)) pa_nil))) (blkOk_by (own := [("number", 7)]) (N := N_Desk_missing) (sc := defScope s_Desk_missing) (by decide +kernel)) (fun _ _ _ _ _ => (pg_name (i := 7) nd rfl (Or.inl rfl))) (fun _ _ _ _ _ => pts_one (pt_cmpR (op_notIn_seqK (K := G.K) rfl) (pv 7) (pv 4) rfl)) (fun _ _ _ _ _ => (pv 7)))
      (pss_one (ps_ret (pe_op op_cat (pe_lst (pa_cons (pe_callB call_len_seq (by rfl) T.b_len PySem.boot_len (pa_cons (pv 5) pa_nil)) pa_nil)) (pe_cn c_listed hr (by decide) rfl (pa_cons (pe_slice sl_list (pv 5) po_none (po_some (pe_gc rfl T.c_FIRST_MISSING))) pa_nil))))))))), ?_⟩
  obtain ⟨a, dx, kk, A, s, p, d, rfl, hd, kA, kX⟩ := h
  rw [neut_missing] at kA kX
  refine ⟨_, rfl, a, dx, _, rfl, hd.o, rfl, _, rfl, a, dx, kk, A, s, p, rfl, hd, fun n b hp hn hA hok => ?_, fun hno => kX.no (by rw [hno, Bool.false_and])⟩
  rw [hok, Bool.true_and] at kA kX
  refine ⟨_, rfl, d, 0, 7, rfl, fun hw => ?_, fun hw => kX.no hw⟩
  rw [if_pos (show within d 0 7 = true from hw)] at kA
  have hd' : d = (d.toNat : Int) := by have := (btw_iff.mp hw).1; omega
  subst hp
  rw [Int.toNat_natCast] at kA
  obtain ⟨b', ys, hA', hb1, hdb, hnd, hll, hrg⟩ := hd.at hn
  rw [hA] at hA'
  cases hA'
  generalize factsAt s n = L at *
  have hyl : ys.length = L.length := by rw [dpAll_len hdb, List.length_map]
  refine ⟨_, rfl, b, rfl, ⟨_, .inl (.inl hb1)⟩, fun D hD => lc_data (fun f => f.device == d.toNat) (fun f => .int (f.number : Int)) hD (.inl (.inl hb1)) hyl (big_lt (by omega)) (fun f _ _ => rfl) (fun j x f H' Kf Kt hxj hfj s' kf kt => ⟨rfl, ?_⟩) fun H1 zs s1 hD1 hdp1 => ?_⟩
  · obtain ⟨fa, fx, rfl, hS⟩ := fact_hd (Same.dp s' (facts_at hdb hxj hfj))
    have e0 : decide (V.int (f.device : Int) = V.int d) = (f.device == d.toNat) := by
      refine bool_eq_of_iff ?_
      simp only [decide_eq_true_eq, V.int.injEq, beq_iff_eq]
      omega
    refine ⟨_, rfl, _, _, _, _, rfl, rfl, hS, at_nat (j := 1) rfl rfl, _, rfl, rfl, _, rfl, ?_⟩
    rw [e0]
    exact iteB (fun c => ⟨_, rfl, _, _, _, _, rfl, rfl, hS, at_nat (j := 2) rfl rfl, kt _ _ (same_refl _) c (.int _)⟩) fun c => kf _ (same_refl _) c
  have ez : zs = (knownOf L d.toNat).map natV := by
    refine nats_of (K := G.K) (H := H1) ?_
    unfold knownOf
    rw [List.map_map]
    exact hdp1
  subst ez
  have hkl : (knownOf L d.toNat).length ≤ 100 := by
    unfold knownOf
    rw [List.length_map]
    exact Nat.le_trans (List.length_filter_le ..) hll
  have hkr : ∀ x ∈ knownOf L d.toNat, x ≤ 9999 := fun x hx => by
    obtain ⟨f, hf, rfl⟩ := List.mem_map.mp hx
    exact (head_range (hrg f (List.mem_filter.mp hf).1)).2.2.1
  have hM : (knownOf L d.toNat).foldl max 0 ≤ 9999 := by
    rcases max_mem (knownOf L d.toNat) 0 with e | e
    · rw [e]; omega
    · exact hkr _ e
  refine ⟨big_le (by simp), fun q hq => ⟨_, rfl, q, D, _, _, rfl, rfl, upd_same, same_new hq _ _ hD1, big_le (by simp; omega), fun q2 hq2 => ?_⟩⟩
  have s12 := s1.trans ((same_new (o := .lst [.int 0]) hq).trans (same_new (o := .lst ([.int 0] ++ (knownOf L d.toNat).map natV)) hq2))
  have hD2 := same_new (o := .lst ([.int 0] ++ (knownOf L d.toNat).map natV)) hq2 _ _ (same_new (o := .lst [.int 0]) hq _ _ hD1)
  have hq2v := upd_same (H := upd H1 q (.lst [.int 0])) (a := q2) (o := .lst ([.int 0] ++ (knownOf L d.toNat).map natV))
  generalize upd (upd H1 q (.lst [.int 0])) q2 (.lst ([.int 0] ++ (knownOf L d.toNat).map natV)) = H2 at s12 hD2 hq2v
  refine ⟨q2, (0 : Int) :: (knownOf L d.toNat).map fun (n : Nat) => (n : Int), rfl, sqL_eq hq2v (by rw [List.map_cons, List.map_map]; rfl), by simp, fun m hm1 hm2 => ?_⟩
  have em := max_is hm1 hm2
  subst em
  have hRl : (missingOf L d.toNat).length ≤ 9999 := by
    rw [missing_eq]
    exact Nat.le_trans (List.length_filter_le ..) (by rw [List.length_range']; omega)
  refine ⟨1, _, rfl, ⟨by decide, by decide, by omega, by omega⟩, fun D3 hD3 => lc_walk (K := G.K) walk_range (bs := List.range' 1 ((knownOf L d.toNat).foldl max 0 - 1)) (fun x => !(knownOf L d.toNat).contains x) (fun (x : Nat) => .int (x : Int)) hD3 (by rw [List.length_range']; omega) (big_lt (by rw [List.length_range']; omega)) (fun _ _ => True.intro) (fun i H x H' _ hy => by rw [hy.1]; exact same_refl _) (fun _ _ _ => rfl) (fun j x y H4 H5 Kf Kt hj s4 hy kf kt => ⟨rfl, ?_⟩) fun H4 ws s4 hD4 hdp => ?_⟩
  · obtain ⟨rfl, hx⟩ := hy
    have ey : y = 1 + j := by
      have hlt := (List.getElem?_eq_some_iff.mp hj).1
      rw [List.length_range'] at hlt
      have := hj
      rw [List.getElem?_range' hlt] at this
      have := Option.some.inj this
      omega
    subst ey
    have ei : x = V.int ((1 + j : Nat) : Int) := hx.trans (by show V.int ((1 : Int) + (j : Int)) = _; congr 1)
    subst ei
    refine ⟨_, rfl, _, rfl, D, _, rfl, .inl (.inl (.inl (s4 _ _ hD2))), rfl, flat_nats _, _, rfl, ?_⟩
    rw [if_pos rfl]
    have e3 : inV (V.int ((1 + j : Nat) : Int)) ((knownOf L d.toNat).map natV) = (knownOf L d.toNat).contains (1 + j) := in_nats (1 + j) _
    rw [e3]
    exact iteB (fun c => ⟨_, rfl, kt _ _ (same_refl _) c (.int _)⟩) fun c => kf _ (same_refl _) c
  · rw [← missing_eq] at hdp
    have ews := nats_of hdp
    subst ews
    have s14 := s12.trans s4
    refine ⟨_, rfl, D3, _, rfl, .inl (.inl (.inl hD4)), big_le (by simp), fun r hr => ⟨_, rfl, _, rfl, D3, _, rfl, .inl (.inl (same_new hr _ _ hD4)), fun r2 hr2 => ?_⟩⟩
    have hr2v := upd_same (H := upd H4 r (.lst [V.int (((missingOf L d.toNat).map natV).length : Int)])) (a := r2) (o := .lst (cutV ((missingOf L d.toNat).map natV) none (some 50)))
    have s15 := s14.trans ((same_new (o := .lst [V.int (((missingOf L d.toNat).map natV).length : Int)]) hr).trans (same_new (o := .lst (cutV ((missingOf L d.toNat).map natV) none (some 50))) hr2))
    have hrv := same_new (o := .lst (cutV ((missingOf L d.toNat).map natV) none (some 50))) hr2 _ _ (upd_same (H := H4) (a := r) (o := .lst [V.int (((missingOf L d.toNat).map natV).length : Int)]))
    generalize upd (upd H4 r (.lst [V.int (((missingOf L d.toNat).map natV).length : Int)])) r2 (.lst (cutV ((missingOf L d.toNat).map natV) none (some 50))) = H6 at hr2v s15 hrv
    have htl : ((missingOf L d.toNat).take 50).length ≤ 9999 := by rw [List.length_take]; omega
    refine ⟨r2, ((missingOf L d.toNat).take 50).map natV, rfl, sqL_eq hr2v (cut_to _ (n := 50) rfl), by rw [List.length_map]; omega, fun lb H7 s7 hlb0 hlb => ⟨r, lb, _, _, rfl, rfl, s7 _ _ hrv, hlb, big_le (by simp only [List.length_cons, List.length_nil, List.length_map]; omega), fun z hz => kA.same hd (same_tr s15 (same_tr s7 (Fresh.new hz))) ?_⟩⟩
    rw [upd_same, List.length_map, List.length_map]
    unfold rowD
    rw [List.map_cons, List.map_cons, ints_V]
    unfold Vbpoag.ints
    rw [List.length_map]
    rfl
end Sc
namespace Sc
open PySem PySem.Spec PyProof.Rows L2
open C8 (pe_gc)
open Vbpoag (Fact Scan Body State factsAt isPlace isItem within start setFacts learnAll told standing syncsOf rightTime goodSign clashesIn itemsOf Standing eventsOf missingOf sameSet Event key)
theorem facts_sorted {R S : List Fact} (hr : R.Pairwise fun y z => ¬ factI z < factI y) (hs : S.Pairwise fun y z => ¬ factI z < factI y) (hp : R.Perm S) : R = S := by
  refine List.Perm.eq_of_pairwise (le := fun y z => ¬ factI z < factI y) (fun a b _ _ h1 h2 => ?_) hr hs hp
  rcases lt_tri (factI a) (factI b) with q | q | q
  · exact absurd q h2
  · exact factI_inj q
  · exact absurd q h1
theorem eqv_facts (L M : List Fact) : PyData.eqv (factsD L) (factsD M) = decide (L = M) := by
  unfold factsD
  simp only [PyData.eqv]
  induction L generalizing M with
  | nil => cases M <;> simp [PyData.eqvAll]
  | cons f L ih =>
    cases M with
    | nil => simp [PyData.eqvAll]
    | cons g M =>
      simp only [List.map_cons, PyData.eqvAll, eqv_fact, ih]
      refine bool_eq_of_iff ?_
      simp
theorem factI_ne (f : Fact) : factI f ≠ [] := by
  unfold factI
  split <;> simp
def sp_Desk_same (G : Gx) : Sp := fun vs H Q E => ∃ (a dx k : Addr) (A : List Addr) (s : State) (p1 p2 : Int), vs = [.ref a, .int p1, .int p2] ∧ DeskAt G H a dx k A s ∧ DoneA G H a dx k (neut s (.same p1 p2)) Q ∧ DoneX G H a dx k A s (neut s (.same p1 p2)) E
theorem cal_Desk_same {P : Program} {w : World} {mg : Str → Option Value} {base : Heap} {G : Gx} (T : Txt G mg) (h : HasM G G.CD "same" "Desk.same" s_Desk_same) (c_items_of : CalN P w G.K mg base 1 "items_of" (sp_items_of G)) (c_Desk_facts : MetX P w G.K mg base 5 G.CD "facts" (sp_Desk_facts G)) (c_Standing_told : MetN P w G.K mg base 1 G.CS "told" (sp_Standing_told G)) (c_standing_of : CalN P w G.K mg base 5 "standing_of" (sp_standing_of G)) : MetX P w G.K mg base 6 G.CD "same" (sp_Desk_same G) := by
  obtain ⟨f, fd, F, q1, q2⟩ := h
  have nd := sc_Desk_same.nd
  refine ⟨f, fd, ["self", "a", "b"], q1, q2, ?_, F.bindsN fun _ _ _ _ _ _ us hl => match us, hl with | [_, _, _], _ => rfl⟩
  refine F.ok sc_Desk_same (fun vs H Q E h => by obtain ⟨a, dx, k, A, s, p1, p2, rfl, _⟩ := h; rfl) fun cdv A outer s H vs Q E hr h => ?_
  refine ⟨_, (pss_cons (ps_asg (pe_tup (pa_cons (pe_mx c_Desk_facts hr (by decide) (fun σ => passAt (takes_of rfl rfl rfl rfl) σ) (pv 0) (pa_cons (pv 1) pa_nil)) (pa_cons (pe_mx c_Desk_facts hr (by decide) (fun σ => passAt (takes_of rfl rfl rfl rfl) σ) (pv 0) (pa_cons (pv 2) pa_nil)) pa_nil))) (pg_tup rfl (pgs_cons (pg_name (i := 3) nd rfl (Or.inr rfl)) (pgs_cons (pg_name (i := 4) nd rfl (Or.inr rfl)) pgs_nil))))
      (pss_cons (ps_set (i := 5) nd rfl (Or.inl rfl) (pe_cn c_items_of hr (by decide) rfl (pa_cons (pe_op op_cat (pv 3) (pv 4)) pa_nil)))
      (pss_cons (ps_set (i := 6) nd rfl (Or.inl rfl) (pe_callB (cr_all rfl) (by rfl) T.b_all (by decide +kernel) (pa_cons (pe_lc (own := [("i", 7)]) rfl nd (pi_list (pv 5)) (blkOk_by (own := [("i", 7)]) (N := N_Desk_same) (sc := defScope s_Desk_same) (by decide +kernel)) (fun _ _ _ _ _ => (pg_name (i := 7) nd rfl (Or.inl rfl))) (fun _ _ _ _ _ => pts_nil) (fun _ _ _ _ _ => (pe_cmpR (op_eqDK (K := G.K) rfl hr.units) (pe_mn0 c_Standing_told hr (by decide) (pe_cn c_standing_of hr (by decide) rfl (pa_cons (pv 3) (pa_cons (pv 7) pa_nil)))) (pe_mn0 c_Standing_told hr (by decide) (pe_cn c_standing_of hr (by decide) rfl (pa_cons (pv 4) (pa_cons (pv 7) pa_nil)))) (nomark _)))) pa_nil)))
      (pss_one (ps_ret (pe_lst (pa_cons (pe_callTy call_int1 (by rfl) T.b_int (by decide +kernel) (pa_cons (pe_cmpR (op_eqD hr.units) (pe_callB (cr_srt hr) (by rfl) T.b_sorted (by decide +kernel) (pa_cons (pv 3) pa_nil)) (pe_callB (cr_srt hr) (by rfl) T.b_sorted (by decide +kernel) (pa_cons (pv 4) pa_nil)) (nomark _)) pa_nil)) (pa_cons (pe_callTy call_int1 (by rfl) T.b_int (by decide +kernel) (pa_cons (pv 6) pa_nil)) pa_nil)))))))), ?_⟩
  obtain ⟨a, dx, kk, A, s, p1, p2, rfl, hd, kA, kX⟩ := h
  rw [neut_same] at kA kX
  refine ⟨_, rfl, a, dx, _, rfl, hd.o, rfl, _, rfl, a, dx, kk, A, s, p1, rfl, hd, fun n1 b1 hp1 hn1 hA1 hok1 => ?_, fun hno => kX.no (by rw [hno, Bool.false_and])⟩
  rw [hok1, Bool.true_and] at kA kX
  refine ⟨_, rfl, a, dx, _, rfl, hd.o, rfl, _, rfl, a, dx, kk, A, s, p2, rfl, hd, fun n2 b2 hp2 hn2 hA2 hok2 => ?_, fun hno => kX.no hno⟩
  rw [if_pos hok2] at kA
  subst hp1
  subst hp2
  rw [Int.toNat_natCast, Int.toNat_natCast] at kA
  obtain ⟨b1', ys1, hA1', hb1, hdb1, hnd1, hll1, hrg1⟩ := hd.at hn1
  rw [hA1] at hA1'
  cases hA1'
  obtain ⟨b2', ys2, hA2', hb2, hdb2, hnd2, hll2, hrg2⟩ := hd.at hn2
  rw [hA2] at hA2'
  cases hA2'
  refine ⟨big_le (by simp), fun q hq => ⟨q, _, rfl, .inl (.inl upd_same), rfl, _, _, rfl, _, _, rfl, rfl, ?_⟩⟩
  have sq := same_new (o := .tup [.ref b1, .ref b2]) hq
  generalize upd H q (.tup [.ref b1, .ref b2]) = H1 at sq
  generalize factsAt s n1 = L at *
  generalize factsAt s n2 = M at *
  have hl1 : ys1.length = L.length := by rw [dpAll_len hdb1, List.length_map]
  have hl2 : ys2.length = M.length := by rw [dpAll_len hdb2, List.length_map]
  have hrLM : ∀ f ∈ L ++ M, Vbpoag.inRange f = true := fun f hf => (List.mem_append.mp hf).elim (hrg1 f) (hrg2 f)
  refine ⟨_, rfl, _, rfl, b1, b2, ys1, ys2, rfl, rfl, sq _ _ hb1, sq _ _ hb2, big_le (by omega), fun q1 hq1 => ?_⟩
  have s2 := sq.trans (same_new (o := .lst (ys1 ++ ys2)) hq1)
  have hdLM : Dp G.K (upd H1 q1 (.lst (ys1 ++ ys2))) (.ref q1) (factsD (L ++ M)) := by
    refine facts_dp upd_same ?_
    rw [List.map_append]
    exact dpAll_app (Same.dpAll s2 hdb1) (Same.dpAll s2 hdb2)
  have hil := items_len hrLM
  refine ⟨.ref q1, L ++ M, rfl, by rw [List.length_append]; omega, hrLM, hdLM, fun il H2 s23 hil1 hil0 => ?_⟩
  have s3 := s2.trans s23
  refine ⟨_, rfl, il, rfl, ⟨_, .inl (.inl hil1)⟩, fun D hD => lc_walk (K := G.K) (walk_list (xs := (itemsOf (L ++ M)).map fun (n : Nat) => V.int (n : Int))) (bs := itemsOf (L ++ M)) (fun _ => true) (fun i => .bool (decide (standing L i = standing M i))) hD (by simp) (big_lt (by omega)) (fun H' s => .inl (.inl (s _ _ hil1))) (fun i H x H' _ hy => by rw [hy.1]; exact same_refl _) (fun _ _ _ => rfl) (fun j x i H4 H5 Kf Kt hj s4 hy kf kt => ⟨rfl, ?_⟩) fun H4 ws s4 hD4 hdp => ?_⟩
  · obtain ⟨rfl, hx⟩ := hy
    have ex : x = .int (i : Int) := by rw [List.getElem?_map, hj] at hx; exact (Option.some.inj hx).symm
    subst ex
    have s5 := s3.trans s4
    refine iteT (B := Kf H5) ⟨_, rfl, _, rfl, .ref b1, L, i, rfl, hll1, hnd1, hrg1, facts_dp (s5 _ _ hb1) (Same.dpAll s5 hdb1), fun c1 lo1 ls1 d1 H6 s6 hst1 => ⟨c1, d1, _, rfl, hst1.o, rfl, c1, lo1, ls1, d1, _, rfl, hst1, fun u1 H7 s7 hu1 => ?_⟩⟩
    have s57 := s5.trans (s6.trans s7)
    refine ⟨_, rfl, _, rfl, .ref b2, M, i, rfl, hll2, hnd2, hrg2, facts_dp (s57 _ _ hb2) (Same.dpAll s57 hdb2), fun c2 lo2 ls2 d2 H8 s8 hst2 => ⟨c2, d2, _, rfl, hst2.o, rfl, c2, lo2, ls2, d2, _, rfl, hst2, fun u2 H9 s9 hu2 => ⟨_, _, Same.dp (s8.trans s9) hu1, hu2, by rw [stD_eq]; exact sh_stD _, by rw [stD_eq]; exact sh_stD _, kt _ _ (s6.trans (s7.trans (s8.trans s9))) rfl ?_⟩⟩⟩
    rw [stD_eq, stD_eq, eqv_stD]
    exact .bl _
  · rw [filter_true'] at hdp
    have e1 : (itemsOf (L ++ M)).map (fun i => PyData.bool (decide (standing L i = standing M i))) = ((itemsOf (L ++ M)).map fun i => decide (standing L i = standing M i)).map PyData.bool := by rw [List.map_map]; rfl
    rw [e1] at hdp
    have e2 := dpAll_bls_inv hdp
    subst e2
    have e3 : ((itemsOf (L ++ M)).map fun i => decide (standing L i = standing M i)).all id = ((List.range (Vbpoag.ITEMS + 1)).all fun i => decide (standing L i = standing M i)) := by
      rw [List.all_map, ← alike_all fun f hf => item_range (hrLM f hf)]
      rfl
    refine ⟨D, _, rfl, .inl (.inl hD4), ?_⟩
    rw [e3]
    have s6 := s3.trans s4
    refine ⟨_, rfl, nil_t (srt_tups (g := factI) (.inl (.inl (s6 _ _ hb1))) (Same.dpAll s6 hdb1) factI_ne fun R1 r1 zs1 hR1 pw1 hr1 hz1 => ?_)⟩
    refine ⟨_, rfl, nil_t (srt_tups (g := factI) (.inl (.inl (same_new hr1 _ _ (s6 _ _ hb2)))) (Same.dpAll (s6.trans (same_new hr1)) hdb2) factI_ne fun R2 r2 zs2 hR2 pw2 hr2 hz2 => ?_)⟩
    have s8 := s6.trans ((same_new (o := .lst zs1) hr1).trans (same_new (o := .lst zs2) hr2))
    have hd1 : Dp G.K (upd (upd H4 r1 (.lst zs1)) r2 (.lst zs2)) (.ref r1) (factsD R1) := facts_dp (same_new hr2 _ _ upd_same) (Same.dpAll ((same_new hr1).trans (same_new hr2)) hz1)
    have hd2 : Dp G.K (upd (upd H4 r1 (.lst zs1)) r2 (.lst zs2)) (.ref r2) (factsD R2) := facts_dp upd_same (Same.dpAll (same_new hr2) hz2)
    refine ⟨_, _, hd1, hd2, sh_facts _, sh_facts _, .inr ⟨_, rfl, _, rfl, .inr ⟨_, rfl, big_le (by simp), fun z hz => kA.same hd (same_tr s8 (Fresh.new hz)) ?_⟩⟩⟩
    have e4 : PyData.eqv (factsD R1) (factsD R2) = sameSet L M := by
      rw [eqv_facts]
      refine bool_eq_of_iff ?_
      rw [decide_eq_true_iff, same_perm hnd1 hnd2]
      exact ⟨fun e => hR1.symm.trans (e ▸ hR2), fun h => facts_sorted pw1 pw2 (hR1.trans (h.trans hR2.symm))⟩
    rw [upd_same, e4]
    rfl
end Sc
namespace Sc
open PySem PySem.Spec PyProof.Rows L2
open C8 (pe_gc)
open Vbpoag (Fact Scan Body State factsAt isPlace isItem within start setFacts learnAll told standing syncsOf rightTime goodSign clashesIn itemsOf Standing eventsOf missingOf sameSet Event key)
theorem hist_row (fs : List Fact) (i : Nat) : histRow fs i = ((eventsOf fs i).zipIdx.map (rowE (standing fs i).odd)).flatten := by
  unfold histRow
  rw [List.flatMap_def]
  rfl
def sp_Desk_history (G : Gx) : Sp := fun vs H Q E => ∃ (a dx k : Addr) (A : List Addr) (s : State) (p i : Int), vs = [.ref a, .int p, .int i] ∧ DeskAt G H a dx k A s ∧ DoneA G H a dx k (neut s (.history p i)) Q ∧ DoneX G H a dx k A s (neut s (.history p i)) E
theorem cal_Desk_history {P : Program} {w : World} {mg : Str → Option Value} {base : Heap} {G : Gx} (T : Txt G mg) (h : HasM G G.CD "history" "Desk.history" s_Desk_history) (c_Desk_standing : MetX P w G.K mg base 6 G.CD "standing" (sp_Desk_standing G)) (c_history_of : CalN P w G.K mg base 3 "history_of" (sp_history_of G)) (c_listed : CalN P w G.K mg base 1 "listed" (sp_listed G)) (c_Desk_facts : MetX P w G.K mg base 5 G.CD "facts" (sp_Desk_facts G)) (c_flat : CalN P w G.K mg base 1 "flat" (sp_flat G)) : MetX P w G.K mg base 7 G.CD "history" (sp_Desk_history G) := by
  obtain ⟨f, fd, F, q1, q2⟩ := h
  have nd := sc_Desk_history.nd
  refine ⟨f, fd, ["self", "p", "i"], q1, q2, ?_, F.bindsN fun _ _ _ _ _ _ us hl => match us, hl with | [_, _, _], _ => rfl⟩
  refine F.ok sc_Desk_history (fun vs H Q E h => by obtain ⟨a, dx, k, A, s, p, i, rfl, _⟩ := h; rfl) fun cdv A outer s H vs Q E hr h => ?_
  refine ⟨_, (pss_cons (ps_set (i := 3) nd rfl (Or.inl rfl) (pe_fld (pe_mx c_Desk_standing hr (by decide) (fun σ => passAt (takes_of rfl rfl rfl rfl) σ) (pv 0) (pa_cons (pv 1) (pa_cons (pv 2) pa_nil))) rfl))
      (pss_cons (ps_set (i := 4) nd rfl (Or.inl rfl) (pe_lst pa_nil))
      (pss_cons (ps_for (passes_of rfl) rfl (pi_enum (by rfl) T.b_enumerate (pa_cons (pe_cn c_history_of hr (by decide) rfl (pa_cons (pe_mx c_Desk_facts hr (by decide) (fun σ => passAt (takes_of rfl rfl rfl rfl) σ) (pv 0) (pa_cons (pv 1) pa_nil)) (pa_cons (pv 2) pa_nil))) pa_nil)) (pg_tup rfl (pgs_cons (pg_name (i := 5) nd rfl (Or.inl rfl)) (pgs_cons (pg_tup rfl (pgs_cons (pg_name (i := 6) nd rfl (Or.inl rfl)) (pgs_cons (pg_name (i := 7) nd rfl (Or.inl rfl)) pgs_nil))) pgs_nil)))
      (pss_cons (ps_set (i := 8) nd rfl (Or.inl rfl) (pe_lst (pa_cons (pv 6) (pa_cons (pe_ix ix_tup (pv 7) (pe_gc rfl T.c_KIND) (fun _ _ => rfl)) (pa_cons (pe_ix ix_tup (pv 7) (pe_gc rfl T.c_OFFICE) (fun _ _ => rfl)) (pa_cons (pe_ix ix_tup (pv 7) (pe_gc rfl T.c_DEVICE) (fun _ _ => rfl)) (pa_cons (pe_ix ix_tup (pv 7) (pe_gc rfl T.c_NUMBER) (fun _ _ => rfl)) (pa_cons (pe_ix ix_tup (pv 7) (pe_gc rfl T.c_SIGNATURE) (fun _ _ => rfl)) pa_nil))))))))
      (pss_one (ps_expr (pe_bm PySem.F.plainAttrs_list PySem.F.slot_list_append PySem.F.type_list_append mt_append (pv 4) (pa_cons (pe_op op_cat (pv 8) (pe_lst (pa_cons (pe_callTy call_int1 (by rfl) T.b_int (by decide +kernel) (pa_cons (pe_cmpR op_in_seq (pv 5) (pv 3) rfl) pa_nil)) pa_nil))) pa_nil))))))
      (pss_one (ps_ret (pe_op op_cat (pe_lst (pa_cons (pe_callB call_len_seq (by rfl) T.b_len PySem.boot_len (pa_cons (pv 4) pa_nil)) pa_nil)) (pe_cn c_listed hr (by decide) rfl (pa_cons (pe_cn c_flat hr (by decide) rfl (pa_cons (pv 4) pa_nil)) pa_nil)))))))), ?_⟩
  obtain ⟨a, dx, kk, A, s, p, i, rfl, hd, kA, kX⟩ := h
  rw [neut_history] at kA kX
  refine ⟨_, rfl, a, dx, _, rfl, hd.o, rfl, _, rfl, _, rfl, a, dx, kk, A, s, p, i, rfl, hd, fun hok b lo ls d2 H1 s1 hs => ?_, fun hno => kX.no hno⟩
  rw [if_pos hok, hist_row] at kA
  have hok2 := hok
  rw [Bool.and_eq_true] at hok2
  have hi : i = (i.toNat : Int) := by have := (btw_iff.mp (show btw 1 i 99 = true from hok2.2)).1; omega
  refine ⟨b, _, d2, _, _, rfl, hs.o, T.clS, T.nS_odd, rfl, big_le (by simp), fun r hr0 => ?_⟩
  have s12 : Same H1 (upd H1 r (.lst [])) := same_new hr0
  have hrt : (upd H1 r (.lst [])) r = some (.lst []) := upd_same
  have nlo : lo ≠ r := ne_of_new hs.odd hr0
  generalize upd H1 r (.lst []) = H2 at s12 hrt
  have s02 := s1.trans s12
  have hd2 := hd.same s02
  refine ⟨_, rfl, a, dx, _, rfl, hd2.o, rfl, _, rfl, a, dx, kk, A, s, p, rfl, hd2, fun n b' hp hn hA hok' => ?_, fun hno => by rw [hno] at hok2; cases hok2.1⟩
  subst hp
  rw [Int.toNat_natCast] at kA hs
  obtain ⟨b'', ys, hA', hb1, hdb, hnd, hll, hrg⟩ := hd2.at hn
  rw [hA] at hA'
  cases hA'
  generalize factsAt s n = L at *
  refine ⟨_, rfl, .ref b', L, i.toNat, (by rw [← hi]; rfl), hll, hrg, facts_dp hb1 hdb, fun ms hb zs H3 hp pw s3 hh hh0 hdp => ⟨hb, zs, rfl, .inl (.inl hh), for_it (walk_enumP (xs := zs)) (fun j σ H4 => ∃ u5 u6 u7 u8 Lq, σ = [some (.ref a), some (.int (n : Int)), some (.int i), some (.ref lo), some (.ref r), u5, u6, u7, u8] ∧ SX r H3 H4 ∧ H4 r = some (.lst (Lq.map fun q : Addr × List Int => V.ref q.1)) ∧ Lq.map (·.2) = ((eventsOf L i.toNat).zipIdx.take j).map (rowE (standing L i.toNat).odd) ∧ Lq.length ≤ j ∧ ∀ q ∈ Lq, H4 q.1 = some (.lst (q.2.map V.int)) ∧ q.1 ≠ r) ⟨none, none, none, none, [], rfl, SX.of (same_refl _), s3 _ _ hrt, rfl, Nat.le_refl _, fun q hq => by cases hq⟩ (fun j σ H4 _ h => ?_) (fun j x σ H4 H5 hj h hy => ?_) fun σ H4 h => ?_⟩⟩
  all_goals have hev := events_eq hnd hp pw
  all_goals have nhb : hb ≠ r := ne_of_new' hrt hh0
  all_goals have hlen : zs.length = ms.length := by rw [dpAll_len hdp, List.length_map]
  all_goals have hml : ms.length ≤ 100 := by have := hp.length_eq; have := List.length_filter_le (isScanOf i.toNat) L; omega
  all_goals have hol : H3 lo = some (.lst ((standing L i.toNat).odd.map natV)) := s3 _ _ (s12 _ _ hs.odd)
  · obtain ⟨_, _, _, _, _, _, sx, _⟩ := h
    exact sx.sqL nhb (.inl (.inl hh))
  · obtain ⟨u5, u6, u7, u8, Lq, rfl, sx, hr4, hLq, hLl, hrow⟩ := h
    obtain ⟨t, iv, pv, rfl, ht, rfl, e1, e2⟩ := hy
    cases e1
    have e2 : zs[j]? = some pv := e2
    have hjm : j < ms.length := by omega
    have hfj : ms[j]? = some ms[j] := List.getElem?_eq_getElem hjm
    generalize ms[j] = f at hfj
    have hf := facts_at hdp e2 hfj
    obtain ⟨c, us, rfl, hc, hus⟩ := dp_tup_inv hf
    obtain ⟨t1, r1, rfl, h1, h2⟩ : ∃ t1 r1, us = [t1, r1] ∧ Dp G.K H3 t1 (.int (rightTime L f.device f.epoch f.clock)) ∧ Dp G.K H3 r1 (factD f) := by
      cases hus with | cons h1 h2 => cases h2 with | cons h2 h3 => cases h3; exact ⟨_, _, rfl, h1, h2⟩
    cases h1
    have hmem := List.mem_filter.mp (hp.mem_iff.mp (List.mem_of_getElem? hfj))
    obtain ⟨z, hbz⟩ := scan_of hmem.2
    have hr3 : H3 r = some (.lst []) := s3 _ _ hrt
    have st := same_new (o := .tup [V.int ((j : Nat) : Int), .ref c]) ht
    have sx5 := sx.trans (SX.of st)
    have hc5 := sx5.sqT hr3 (noT_lst _) hc
    have hf5 := SX.dp sx5 hr3 (noT_lst _) _ _ (lfree_fact f) h2
    obtain ⟨fa, rfl, hS⟩ := fact_sq hf5 hbz
    refine ⟨t, _, rfl, .inl (.inl upd_same), rfl, _, _, rfl, _, _, rfl, ⟨c, _, rfl, hc5, rfl, _, _, rfl, _, _, rfl, rfl, rfl, ?_⟩⟩
    refine ⟨_, rfl, _, rfl, _, _, _, _, rfl, rfl, hS, rfl, _, rfl, _, _, _, _, rfl, rfl, hS, rfl, _, rfl, _, _, _, _, rfl, rfl, hS, rfl, _, rfl, _, _, _, _, rfl, rfl, hS, rfl, _, rfl, _, _, _, _, rfl, rfl, hS, rfl, big_le (by simp), fun q hq => ?_⟩
    have s6 := st.trans (same_new (o := .lst [.int (rightTime L f.device f.epoch f.clock), .int (z.kind : Int), .int (z.office : Int), .int (f.device : Int), .int (f.number : Int), .int (z.sign : Int)]) hq)
    have hqv := upd_same (H := upd H4 t (.tup [V.int ((j : Nat) : Int), .ref c])) (a := q) (o := .lst [.int (rightTime L f.device f.epoch f.clock), .int (z.kind : Int), .int (z.office : Int), .int (f.device : Int), .int (f.number : Int), .int (z.sign : Int)])
    have hqr : q ≠ r := ne_of_new' (st _ _ hr4) hq
    generalize upd (upd H4 t (.tup [V.int ((j : Nat) : Int), .ref c])) q (.lst [.int (rightTime L f.device f.epoch f.clock), .int (z.kind : Int), .int (z.office : Int), .int (f.device : Int), .int (f.number : Int), .int (z.sign : Int)]) = H6 at s6 hqv
    have sx6 := sx.trans (SX.of s6)
    have hol6 := sx6.lst nlo hol
    have hr6 := s6 _ _ hr4
    refine ⟨_, rfl, .inl ⟨rfl, _, .inl (.inl hr6)⟩, _, rfl, _, rfl, _, rfl, lo, _, rfl, .inl (.inl (.inl hol6)), rfl, flat_nats _, .inr ⟨_, rfl, big_le (by simp), fun q1 hq1 => ⟨q, q1, _, _, rfl, rfl, same_new hq1 _ _ hqv, upd_same, big_le (by simp), fun q2 hq2 => ⟨r, _, _, rfl, rfl, same_new hq2 _ _ (same_new hq1 _ _ hr6), big_lt (by rw [List.length_map]; omega), ?_⟩⟩⟩⟩
    have eflag : (if false = true then !inV (V.int (j : Int)) ((standing L i.toNat).odd.map natV) else inV (V.int (j : Int)) ((standing L i.toNat).odd.map natV)) = (standing L i.toNat).odd.contains j := by
      rw [if_neg (Bool.false_ne_true)]
      exact in_nats j _
    have nq2 : q2 ≠ r := ne_of_new' (same_new hq1 _ _ hr6) hq2
    refine ⟨_, _, _, _, Lq ++ [(q2, rowE (standing L i.toNat).odd (evOf L f, j))], rfl, ((sx6.trans (SX.of (same_new hq1))).trans (SX.of (same_new hq2))).upd, ?_, ?_, by rw [List.length_append]; simp; omega, fun w hw => ?_⟩
    · rw [List.map_append]; exact upd_same
    · have hzi : (eventsOf L i.toNat).zipIdx[j]? = some (evOf L f, j) := by
        rw [List.getElem?_zipIdx, ← hev, List.getElem?_map, hfj]
        simp
      rw [take_next' hzi, List.map_append, List.map_append, hLq]
      rfl
    · rcases List.mem_append.mp hw with hw | hw
      · obtain ⟨g1, g2⟩ := hrow w hw
        exact ⟨by rw [upd_ne g2]; exact same_new hq2 _ _ (same_new hq1 _ _ (s6 _ _ g1)), g2⟩
      · have e := List.mem_singleton.mp hw
        subst e
        refine ⟨?_, nq2⟩
        rw [upd_ne nq2, upd_same, eflag]
        unfold rowE
        rw [evOf_scan hbz]
        rfl
  · obtain ⟨u5, u6, u7, u8, Lq, rfl, sx, hr4, hLq, hLl, hrow⟩ := h
    have hel : (eventsOf L i.toNat).length = ms.length := by rw [← hev, List.length_map]
    have htk : (eventsOf L i.toNat).zipIdx.take zs.length = (eventsOf L i.toNat).zipIdx := by
      apply List.take_of_length_le
      rw [List.length_zipIdx]
      omega
    rw [htk] at hLq
    have hLl' : Lq.length = (eventsOf L i.toNat).length := by
      have := congrArg List.length hLq
      rw [List.length_map, List.length_map, List.length_zipIdx] at this
      exact this
    have s04 : Same H H4 := sx.same (s02.trans s3) (same_none s1 hr0)
    have h10 : ∀ q ∈ Lq, q.2.length ≤ 10 := fun q hq => by
      have h1 : q.2 ∈ Lq.map (·.2) := List.mem_map.mpr ⟨q, hq, rfl⟩
      rw [hLq] at h1
      obtain ⟨y, _, e⟩ := List.mem_map.mp h1
      rw [← e]
      unfold rowE
      simp
    have hfl := flat_len Lq h10
    refine ⟨_, rfl, r, _, rfl, .inl (.inl (.inl hr4)), big_le (by simp), fun q hq => ⟨_, rfl, r, Lq, rfl, .inl (.inl (same_new hq _ _ hr4)), fun w hw => .inl (.inl (.inl (same_new hq _ _ (hrow w hw).1))), by omega, h10, fun fb H5 s5 hfb0 hfb => ⟨fb, _, rfl, .inl (.inl hfb), by rw [List.length_map]; omega, fun lb H6 s6 hlb0 hlb => ⟨q, lb, _, _, rfl, rfl, s6 _ _ (s5 _ _ upd_same), hlb, big_le (by simp only [List.length_cons, List.length_nil, List.length_map]; omega), fun z hz => kA.same hd (same_tr s04 (same_tr (same_new hq) (same_tr s5 (same_tr s6 (Fresh.new hz))))) ?_⟩⟩⟩⟩
    rw [upd_same, List.length_map, List.length_map, hLl', hLq]
    unfold rowD
    rfl
end Sc
namespace Sc
open PySem PySem.Spec PyProof.Rows L2
open C8 (pe_gc)
open Vbpoag (State)
def sp_Desk_of_facts (G : Gx) : Sp := fun vs H Q E => ∃ (a dx k : Addr) (A : List Addr) (s : State) (c : Int) (na ra : Addr) (ns : List Int) (L : List (Addr × List Int)), vs = [.ref a, .int c, .ref na, .ref ra] ∧ DeskAt G H a dx k A s ∧ SqL G.K H na (ns.map V.int) ∧ SqL G.K H ra (L.map fun q => V.ref q.1) ∧ (∀ q ∈ L, SqL G.K H q.1 (q.2.map V.int)) ∧ (∀ q ∈ L, q.2.length ≤ 10000) ∧ c < 10 ∧ PyVbpoag.shape c = some (ns.length, L.length) ∧ DoneA G H a dx k (VbpoagNeutral.step s ((c :: ns) :: L.map (·.2))) Q ∧ DoneX G H a dx k A s (VbpoagNeutral.step s ((c :: ns) :: L.map (·.2))) E
theorem cal_Desk_of_facts {P : Program} {w : World} {mg : Str → Option Value} {base : Heap} {G : Gx} (T : Txt G mg) (h : HasM G G.CD "of_facts" "Desk.of_facts" s_Desk_of_facts) (c_Desk_export : MetX P w G.K mg base 6 G.CD "export" (sp_Desk_export G)) (c_Desk_clear : MetN P w G.K mg base 1 G.CD "clear" (sp_Desk_clear G)) (c_Desk_tell : MetX P w G.K mg base 6 G.CD "tell" (sp_Desk_tell G)) (c_Desk_send : MetX P w G.K mg base 6 G.CD "send" (sp_Desk_send G)) (c_Desk_state_told : MetX P w G.K mg base 7 G.CD "state_told" (sp_Desk_state_told G)) (c_Desk_history : MetX P w G.K mg base 7 G.CD "history" (sp_Desk_history G)) (c_Desk_time : MetX P w G.K mg base 6 G.CD "time" (sp_Desk_time G)) (c_Desk_clashes : MetX P w G.K mg base 6 G.CD "clashes" (sp_Desk_clashes G)) (c_Desk_since : MetX P w G.K mg base 6 G.CD "since" (sp_Desk_since G)) : MetX P w G.K mg base 8 G.CD "of_facts" (sp_Desk_of_facts G) := by
  obtain ⟨f, fd, F, q1, q2⟩ := h
  have nd := sc_Desk_of_facts.nd
  refine ⟨f, fd, ["self", "call", "n", "rows"], q1, q2, ?_, F.bindsN fun _ _ _ _ _ _ us hl => match us, hl with | [_, _, _, _], _ => rfl⟩
  refine F.ok sc_Desk_of_facts (fun vs H Q E h => by obtain ⟨a, dx, k, A, s, c, na, ra, ns, L, rfl, _⟩ := h; rfl) fun cdv A outer s H vs Q E hr h => ?_
  refine ⟨_, (pss_cons (ps_if (pt_cmpR op_eq (pv 1) pe_int (nomark _)) (pss_one (ps_ret (pe_mn0 c_Desk_clear hr (by decide) (pv 0)))) pss_nil)
      (pss_cons (ps_if (pt_cmpR op_eq (pv 1) pe_int (nomark _)) (pss_one (ps_ret (pe_mx c_Desk_tell hr (by decide) (fun σ => passAt (takes_of rfl rfl rfl rfl) σ) (pv 0) (pa_cons (pe_ix ix_list (pv 2) pe_int (fun _ _ => rfl)) (pa_cons (pe_op op_catT (pe_tup (pa_cons (pe_gc rfl T.c_SCAN) pa_nil)) (pe_callTy call_tuple_of (by rfl) T.b_tuple (by decide +kernel) (pa_cons (pe_slice sl_list (pv 2) (po_some pe_int) po_none) pa_nil))) pa_nil))))) pss_nil)
      (pss_cons (ps_if (pt_cmpR op_eq (pv 1) pe_int (nomark _)) (pss_one (ps_ret (pe_mx c_Desk_tell hr (by decide) (fun σ => passAt (takes_of rfl rfl rfl rfl) σ) (pv 0) (pa_cons (pe_ix ix_list (pv 2) pe_int (fun _ _ => rfl)) (pa_cons (pe_op op_catT (pe_tup (pa_cons (pe_gc rfl T.c_LOOK) pa_nil)) (pe_callTy call_tuple_of (by rfl) T.b_tuple (by decide +kernel) (pa_cons (pe_slice sl_list (pv 2) (po_some pe_int) po_none) pa_nil))) pa_nil))))) pss_nil)
      (pss_cons (ps_if (pt_cmpR op_eq (pv 1) pe_int (nomark _)) (pss_one (ps_ret (pe_mx c_Desk_send hr (by decide) (fun σ => passAt (takes_of rfl rfl rfl rfl) σ) (pv 0) (pa_cons (pe_ix ix_list (pv 2) pe_int (fun _ _ => rfl)) (pa_cons (pe_ix ix_list (pv 2) pe_int (fun _ _ => rfl)) (pa_cons (pe_ix ix_list (pv 2) pe_int (fun _ _ => rfl)) pa_nil)))))) pss_nil)
      (pss_cons (ps_if (pt_cmpR op_eq (pv 1) pe_int (nomark _)) (pss_one (ps_ret (pe_mx c_Desk_state_told hr (by decide) (fun σ => passAt (takes_of rfl rfl rfl rfl) σ) (pv 0) (pa_cons (pe_ix ix_list (pv 2) pe_int (fun _ _ => rfl)) (pa_cons (pe_ix ix_list (pv 2) pe_int (fun _ _ => rfl)) pa_nil))))) pss_nil)
      (pss_cons (ps_if (pt_cmpR op_eq (pv 1) pe_int (nomark _)) (pss_one (ps_ret (pe_mx c_Desk_history hr (by decide) (fun σ => passAt (takes_of rfl rfl rfl rfl) σ) (pv 0) (pa_cons (pe_ix ix_list (pv 2) pe_int (fun _ _ => rfl)) (pa_cons (pe_ix ix_list (pv 2) pe_int (fun _ _ => rfl)) pa_nil))))) pss_nil)
      (pss_cons (ps_if (pt_cmpR op_eq (pv 1) pe_int (nomark _)) (pss_one (ps_ret (pe_mx c_Desk_time hr (by decide) (fun σ => passAt (takes_of rfl rfl rfl rfl) σ) (pv 0) (pa_cons (pe_ix ix_list (pv 2) pe_int (fun _ _ => rfl)) (pa_cons (pe_ix ix_list (pv 2) pe_int (fun _ _ => rfl)) (pa_cons (pe_ix ix_list (pv 2) pe_int (fun _ _ => rfl)) (pa_cons (pe_ix ix_list (pv 2) pe_int (fun _ _ => rfl)) pa_nil))))))) pss_nil)
      (pss_cons (ps_if (pt_cmpR op_eq (pv 1) pe_int (nomark _)) (pss_one (ps_ret (pe_mx c_Desk_clashes hr (by decide) (fun σ => passAt (takes_of rfl rfl rfl rfl) σ) (pv 0) (pa_cons (pe_ix ix_list (pv 2) pe_int (fun _ _ => rfl)) pa_nil)))) pss_nil)
      (pss_cons (ps_if (pt_cmpR op_eq (pv 1) pe_int (nomark _)) (pss_one (ps_ret (pe_mx c_Desk_since hr (by decide) (fun σ => passAt (takes_of rfl rfl rfl rfl) σ) (pv 0) (pa_cons (pe_ix ix_list (pv 2) pe_int (fun _ _ => rfl)) (pa_cons (pe_ix ix_list (pv 2) pe_int (fun _ _ => rfl)) pa_nil))))) pss_nil)
      (pss_one (ps_ret (pe_mx c_Desk_export hr (by decide) (fun σ => passAt (takes_of rfl rfl rfl rfl) σ) (pv 0) (pa_cons (pe_ix ix_list (pv 2) pe_int (fun _ _ => rfl)) (pa_cons (pe_ix ix_list (pv 2) pe_int (fun _ _ => rfl)) (pa_cons (pe_ix ix_list (pv 2) pe_int (fun _ _ => rfl)) pa_nil))))))))))))))), ?_⟩
  obtain ⟨a, dx, kk, A, s, c, na, ra, ns, L, rfl, hd, hns, hL, hrow, hlen, hcl, hsh, kA, kX⟩ := h
  rcases shape_cases hsh with ⟨hc, hm, hr⟩ | ⟨hc, hm, hr⟩ | ⟨hc, hm, hr⟩ | ⟨hc, hm, hr⟩ | ⟨hc, hm, hr⟩ | ⟨hc, hm, hr⟩ | ⟨hc, hm, hr⟩ | ⟨hc, hm, hr⟩ | ⟨hc, hm, hr⟩ | ⟨hc, hm, hr⟩ | ⟨hc, hm, hr⟩ | ⟨hc, hm, hr⟩ | ⟨hc, hm, hr⟩ | ⟨hc, hm, hr⟩ | ⟨hc, hm, hr⟩ | ⟨hc, hm, hr⟩ | ⟨hc, hm, hr⟩ | ⟨hc, hm, hr⟩ | ⟨hc, hm, hr⟩
  · subst hc
    have hn0 := List.eq_nil_of_length_eq_zero hm
    subst hn0
    have hL0 := List.eq_nil_of_length_eq_zero hr
    subst hL0
    have kA : DoneA G H a dx kk (neut s (.clear)) Q := kA
    have kX : DoneX G H a dx kk A s (neut s (.clear)) _ := kX
    refine ⟨_, rfl, rfl, _, rfl, iteT ⟨_, rfl, a, dx, _, rfl, hd.o, rfl, a, dx, kk, A, s, rfl, hd, kA⟩⟩
  · subst hc
    obtain ⟨x0, x1, x2, x3, x4, x5, x6, x7, x8, rfl⟩ := len9 hm
    have hL0 := List.eq_nil_of_length_eq_zero hr
    subst hL0
    have kA : DoneA G H a dx kk (neut s (.scan x0 x1 x2 x3 x4 x5 x6 x7 x8)) Q := kA
    have kX : DoneX G H a dx kk A s (neut s (.scan x0 x1 x2 x3 x4 x5 x6 x7 x8)) _ := kX
    rw [neut_scan] at kA kX
    refine ⟨_, rfl, rfl, _, rfl, iteF ⟨_, rfl, rfl, _, rfl, iteT ⟨_, rfl, a, dx, _, rfl, hd.o, rfl, _, rfl, _, _, _, _, rfl, rfl, hns, rfl, big_le (by simp), fun q hq => ?_⟩⟩⟩
    have s1 := same_new (o := .tup [V.int 0]) hq
    have hqv := upd_same (H := H) (a := q) (o := .tup [V.int 0])
    generalize upd H q (.tup [V.int 0]) = H1 at s1 hqv
    refine ⟨_, rfl, _, rfl, na, _, rfl, s1.seq hns, fun q1 hq1 => ⟨q1, _, rfl, .inl ⟨.inl (.inl upd_same), fun q2 hq2 => ⟨q, q2, _, [V.int x1, V.int x2, V.int x3, V.int x4, V.int x5, V.int x6, V.int x7, V.int x8], rfl, rfl, .inl (.inl (same_new hq2 _ _ (same_new hq1 _ _ hqv))), .inl (.inl upd_same), by simp, big_le (by simp), fun h => (by cases h), fun _ q3 hq3 => ?_⟩⟩⟩⟩
    have s2 := s1.trans ((same_new hq1).trans ((same_new hq2).trans (same_new (o := .tup ([V.int 0] ++ [V.int x1, V.int x2, V.int x3, V.int x4, V.int x5, V.int x6, V.int x7, V.int x8])) hq3)))
    exact ⟨a, dx, kk, A, s, x0, .ref q3, RF.scan x1 x2 x3 x4 x5 x6 x7 x8, rfl, hd.same s2, tupI_dp (.inl (.inl upd_same)), kA.mono s2, kX.mono s2⟩
  · subst hc
    obtain ⟨x0, x1, x2, x3, x4, x5, rfl⟩ := len6 hm
    have hL0 := List.eq_nil_of_length_eq_zero hr
    subst hL0
    have kA : DoneA G H a dx kk (neut s (.sync x0 x1 x2 x3 x4 x5)) Q := kA
    have kX : DoneX G H a dx kk A s (neut s (.sync x0 x1 x2 x3 x4 x5)) _ := kX
    rw [neut_sync] at kA kX
    refine ⟨_, rfl, rfl, _, rfl, iteF ⟨_, rfl, rfl, _, rfl, iteF ⟨_, rfl, rfl, _, rfl, iteT ⟨_, rfl, a, dx, _, rfl, hd.o, rfl, _, rfl, _, _, _, _, rfl, rfl, hns, rfl, big_le (by simp), fun q hq => ?_⟩⟩⟩⟩
    have s1 := same_new (o := .tup [V.int 1]) hq
    have hqv := upd_same (H := H) (a := q) (o := .tup [V.int 1])
    generalize upd H q (.tup [V.int 1]) = H1 at s1 hqv
    refine ⟨_, rfl, _, rfl, na, _, rfl, s1.seq hns, fun q1 hq1 => ⟨q1, _, rfl, .inl ⟨.inl (.inl upd_same), fun q2 hq2 => ⟨q, q2, _, [V.int x1, V.int x2, V.int x3, V.int x4, V.int x5], rfl, rfl, .inl (.inl (same_new hq2 _ _ (same_new hq1 _ _ hqv))), .inl (.inl upd_same), by simp, big_le (by simp), fun h => (by cases h), fun _ q3 hq3 => ?_⟩⟩⟩⟩
    have s2 := s1.trans ((same_new hq1).trans ((same_new hq2).trans (same_new (o := .tup ([V.int 1] ++ [V.int x1, V.int x2, V.int x3, V.int x4, V.int x5])) hq3)))
    exact ⟨a, dx, kk, A, s, x0, .ref q3, RF.look x1 x2 x3 x4 x5, rfl, hd.same s2, tupI_dp (.inl (.inl upd_same)), kA.mono s2, kX.mono s2⟩
  · subst hc
    obtain ⟨x0, x1, x2, rfl⟩ := len3 hm
    have hL0 := List.eq_nil_of_length_eq_zero hr
    subst hL0
    have kA : DoneA G H a dx kk (neut s (.send x0 x1 x2)) Q := kA
    have kX : DoneX G H a dx kk A s (neut s (.send x0 x1 x2)) _ := kX
    refine ⟨_, rfl, rfl, _, rfl, iteF ⟨_, rfl, rfl, _, rfl, iteF ⟨_, rfl, rfl, _, rfl, iteF ⟨_, rfl, rfl, _, rfl, iteT ⟨_, rfl, a, dx, _, rfl, hd.o, rfl, _, rfl, _, _, _, _, rfl, rfl, hns, rfl, _, rfl, _, _, _, _, rfl, rfl, hns, rfl, _, rfl, _, _, _, _, rfl, rfl, hns, rfl, a, dx, kk, A, s, x0, x1, x2, rfl, hd, kA, kX⟩⟩⟩⟩⟩
  · subst hc
    obtain ⟨x0, x1, rfl⟩ := len2 hm
    have hL0 := List.eq_nil_of_length_eq_zero hr
    subst hL0
    have kA : DoneA G H a dx kk (neut s (.state_ x0 x1)) Q := kA
    have kX : DoneX G H a dx kk A s (neut s (.state_ x0 x1)) _ := kX
    refine ⟨_, rfl, rfl, _, rfl, iteF ⟨_, rfl, rfl, _, rfl, iteF ⟨_, rfl, rfl, _, rfl, iteF ⟨_, rfl, rfl, _, rfl, iteF ⟨_, rfl, rfl, _, rfl, iteT ⟨_, rfl, a, dx, _, rfl, hd.o, rfl, _, rfl, _, _, _, _, rfl, rfl, hns, rfl, _, rfl, _, _, _, _, rfl, rfl, hns, rfl, a, dx, kk, A, s, x0, x1, rfl, hd, kA, kX⟩⟩⟩⟩⟩⟩
  · subst hc
    obtain ⟨x0, x1, rfl⟩ := len2 hm
    have hL0 := List.eq_nil_of_length_eq_zero hr
    subst hL0
    have kA : DoneA G H a dx kk (neut s (.history x0 x1)) Q := kA
    have kX : DoneX G H a dx kk A s (neut s (.history x0 x1)) _ := kX
    refine ⟨_, rfl, rfl, _, rfl, iteF ⟨_, rfl, rfl, _, rfl, iteF ⟨_, rfl, rfl, _, rfl, iteF ⟨_, rfl, rfl, _, rfl, iteF ⟨_, rfl, rfl, _, rfl, iteF ⟨_, rfl, rfl, _, rfl, iteT ⟨_, rfl, a, dx, _, rfl, hd.o, rfl, _, rfl, _, _, _, _, rfl, rfl, hns, rfl, _, rfl, _, _, _, _, rfl, rfl, hns, rfl, a, dx, kk, A, s, x0, x1, rfl, hd, kA, kX⟩⟩⟩⟩⟩⟩⟩
  · subst hc
    obtain ⟨x0, x1, x2, x3, rfl⟩ := len4 hm
    have hL0 := List.eq_nil_of_length_eq_zero hr
    subst hL0
    have kA : DoneA G H a dx kk (neut s (.time x0 x1 x2 x3)) Q := kA
    have kX : DoneX G H a dx kk A s (neut s (.time x0 x1 x2 x3)) _ := kX
    refine ⟨_, rfl, rfl, _, rfl, iteF ⟨_, rfl, rfl, _, rfl, iteF ⟨_, rfl, rfl, _, rfl, iteF ⟨_, rfl, rfl, _, rfl, iteF ⟨_, rfl, rfl, _, rfl, iteF ⟨_, rfl, rfl, _, rfl, iteF ⟨_, rfl, rfl, _, rfl, iteT ⟨_, rfl, a, dx, _, rfl, hd.o, rfl, _, rfl, _, _, _, _, rfl, rfl, hns, rfl, _, rfl, _, _, _, _, rfl, rfl, hns, rfl, _, rfl, _, _, _, _, rfl, rfl, hns, rfl, _, rfl, _, _, _, _, rfl, rfl, hns, rfl, a, dx, kk, A, s, x0, x1, x2, x3, rfl, hd, kA, kX⟩⟩⟩⟩⟩⟩⟩⟩
  · subst hc
    obtain ⟨x0, rfl⟩ := len1 hm
    have hL0 := List.eq_nil_of_length_eq_zero hr
    subst hL0
    have kA : DoneA G H a dx kk (neut s (.clashes x0)) Q := kA
    have kX : DoneX G H a dx kk A s (neut s (.clashes x0)) _ := kX
    refine ⟨_, rfl, rfl, _, rfl, iteF ⟨_, rfl, rfl, _, rfl, iteF ⟨_, rfl, rfl, _, rfl, iteF ⟨_, rfl, rfl, _, rfl, iteF ⟨_, rfl, rfl, _, rfl, iteF ⟨_, rfl, rfl, _, rfl, iteF ⟨_, rfl, rfl, _, rfl, iteF ⟨_, rfl, rfl, _, rfl, iteT ⟨_, rfl, a, dx, _, rfl, hd.o, rfl, _, rfl, _, _, _, _, rfl, rfl, hns, rfl, a, dx, kk, A, s, x0, rfl, hd, kA, kX⟩⟩⟩⟩⟩⟩⟩⟩⟩
  · subst hc
    obtain ⟨x0, x1, rfl⟩ := len2 hm
    have hL0 := List.eq_nil_of_length_eq_zero hr
    subst hL0
    have kA : DoneA G H a dx kk (neut s (.since x0 x1)) Q := kA
    have kX : DoneX G H a dx kk A s (neut s (.since x0 x1)) _ := kX
    refine ⟨_, rfl, rfl, _, rfl, iteF ⟨_, rfl, rfl, _, rfl, iteF ⟨_, rfl, rfl, _, rfl, iteF ⟨_, rfl, rfl, _, rfl, iteF ⟨_, rfl, rfl, _, rfl, iteF ⟨_, rfl, rfl, _, rfl, iteF ⟨_, rfl, rfl, _, rfl, iteF ⟨_, rfl, rfl, _, rfl, iteF ⟨_, rfl, rfl, _, rfl, iteT ⟨_, rfl, a, dx, _, rfl, hd.o, rfl, _, rfl, _, _, _, _, rfl, rfl, hns, rfl, _, rfl, _, _, _, _, rfl, rfl, hns, rfl, a, dx, kk, A, s, x0, x1, rfl, hd, kA, kX⟩⟩⟩⟩⟩⟩⟩⟩⟩⟩
  · subst hc
    obtain ⟨x0, x1, x2, rfl⟩ := len3 hm
    have hL0 := List.eq_nil_of_length_eq_zero hr
    subst hL0
    have kA : DoneA G H a dx kk (neut s (.export_ x0 x1 x2)) Q := kA
    have kX : DoneX G H a dx kk A s (neut s (.export_ x0 x1 x2)) _ := kX
    refine ⟨_, rfl, rfl, _, rfl, iteF ⟨_, rfl, rfl, _, rfl, iteF ⟨_, rfl, rfl, _, rfl, iteF ⟨_, rfl, rfl, _, rfl, iteF ⟨_, rfl, rfl, _, rfl, iteF ⟨_, rfl, rfl, _, rfl, iteF ⟨_, rfl, rfl, _, rfl, iteF ⟨_, rfl, rfl, _, rfl, iteF ⟨_, rfl, rfl, _, rfl, iteF ⟨_, rfl, a, dx, _, rfl, hd.o, rfl, _, rfl, _, _, _, _, rfl, rfl, hns, rfl, _, rfl, _, _, _, _, rfl, rfl, hns, rfl, _, rfl, _, _, _, _, rfl, rfl, hns, rfl, a, dx, kk, A, s, x0, x1, x2, rfl, hd, kA, kX⟩⟩⟩⟩⟩⟩⟩⟩⟩⟩
  · omega
  · omega
  · omega
  · omega
  · omega
  · omega
  · omega
  · omega
  · omega
def sp_Desk_of_places (G : Gx) : Sp := fun vs H Q E => ∃ (a dx k : Addr) (A : List Addr) (s : State) (c : Int) (na ra : Addr) (ns : List Int) (L : List (Addr × List Int)), vs = [.ref a, .int c, .ref na, .ref ra] ∧ DeskAt G H a dx k A s ∧ SqL G.K H na (ns.map V.int) ∧ SqL G.K H ra (L.map fun q => V.ref q.1) ∧ (∀ q ∈ L, SqL G.K H q.1 (q.2.map V.int)) ∧ (∀ q ∈ L, q.2.length ≤ 10000) ∧ 10 ≤ c ∧ PyVbpoag.shape c = some (ns.length, L.length) ∧ DoneA G H a dx k (VbpoagNeutral.step s ((c :: ns) :: L.map (·.2))) Q ∧ DoneX G H a dx k A s (VbpoagNeutral.step s ((c :: ns) :: L.map (·.2))) E
theorem cal_Desk_of_places {P : Program} {w : World} {mg : Str → Option Value} {base : Heap} {G : Gx} (T : Txt G mg) (h : HasM G G.CD "of_places" "Desk.of_places" s_Desk_of_places) (c_Desk_counts : MetX P w G.K mg base 6 G.CD "counts" (sp_Desk_counts G)) (c_Desk_import_text : MetX P w G.K mg base 8 G.CD "import_text" (sp_Desk_import_text G)) (c_Desk_convert : MetX P w G.K mg base 8 G.CD "convert" (sp_Desk_convert G)) (c_Desk_same : MetX P w G.K mg base 6 G.CD "same" (sp_Desk_same G)) (c_Desk_signed : MetX P w G.K mg base 7 G.CD "signed" (sp_Desk_signed G)) (c_Desk_missing : MetX P w G.K mg base 6 G.CD "missing" (sp_Desk_missing G)) (c_Desk_at : MetX P w G.K mg base 6 G.CD "at" (sp_Desk_at G)) (c_Desk_sign : MetX P w G.K mg base 5 G.CD "sign" (sp_Desk_sign G)) (c_Desk_differ : MetX P w G.K mg base 6 G.CD "differ" (sp_Desk_differ G)) : MetX P w G.K mg base 9 G.CD "of_places" (sp_Desk_of_places G) := by
  obtain ⟨f, fd, F, q1, q2⟩ := h
  have nd := sc_Desk_of_places.nd
  refine ⟨f, fd, ["self", "call", "n", "rows"], q1, q2, ?_, F.bindsN fun _ _ _ _ _ _ us hl => match us, hl with | [_, _, _, _], _ => rfl⟩
  refine F.ok sc_Desk_of_places (fun vs H Q E h => by obtain ⟨a, dx, k, A, s, c, na, ra, ns, L, rfl, _⟩ := h; rfl) fun cdv A outer s H vs Q E hr h => ?_
  refine ⟨_, (pss_cons (ps_if (pt_cmpR op_eq (pv 1) pe_int (nomark _)) (pss_one (ps_ret (pe_mx c_Desk_import_text hr (by decide) (fun σ => passAt (takes_of rfl rfl rfl rfl) σ) (pv 0) (pa_cons (pe_ix ix_list (pv 2) pe_int (fun _ _ => rfl)) (pa_cons (pe_ix ix_list (pv 2) pe_int (fun _ _ => rfl)) (pa_cons (pe_ix ix_list (pv 3) pe_int (fun _ _ => rfl)) pa_nil)))))) pss_nil)
      (pss_cons (ps_if (pt_cmpR op_eq (pv 1) pe_int (nomark _)) (pss_one (ps_ret (pe_mx c_Desk_convert hr (by decide) (fun σ => passAt (takes_of rfl rfl rfl rfl) σ) (pv 0) (pa_cons (pe_ix ix_list (pv 2) pe_int (fun _ _ => rfl)) (pa_cons (pe_ix ix_list (pv 3) pe_int (fun _ _ => rfl)) pa_nil))))) pss_nil)
      (pss_cons (ps_if (pt_cmpR op_eq (pv 1) pe_int (nomark _)) (pss_one (ps_ret (pe_mx c_Desk_same hr (by decide) (fun σ => passAt (takes_of rfl rfl rfl rfl) σ) (pv 0) (pa_cons (pe_ix ix_list (pv 2) pe_int (fun _ _ => rfl)) (pa_cons (pe_ix ix_list (pv 2) pe_int (fun _ _ => rfl)) pa_nil))))) pss_nil)
      (pss_cons (ps_if (pt_cmpR op_eq (pv 1) pe_int (nomark _)) (pss_one (ps_ret (pe_mx c_Desk_signed hr (by decide) (fun σ => passAt (takes_of rfl rfl rfl rfl) σ) (pv 0) (pa_cons (pe_ix ix_list (pv 2) pe_int (fun _ _ => rfl)) (pa_cons (pe_ix ix_list (pv 2) pe_int (fun _ _ => rfl)) pa_nil))))) pss_nil)
      (pss_cons (ps_if (pt_cmpR op_eq (pv 1) pe_int (nomark _)) (pss_one (ps_ret (pe_mx c_Desk_missing hr (by decide) (fun σ => passAt (takes_of rfl rfl rfl rfl) σ) (pv 0) (pa_cons (pe_ix ix_list (pv 2) pe_int (fun _ _ => rfl)) (pa_cons (pe_ix ix_list (pv 2) pe_int (fun _ _ => rfl)) pa_nil))))) pss_nil)
      (pss_cons (ps_if (pt_cmpR op_eq (pv 1) pe_int (nomark _)) (pss_one (ps_ret (pe_mx c_Desk_at hr (by decide) (fun σ => passAt (takes_of rfl rfl rfl rfl) σ) (pv 0) (pa_cons (pe_ix ix_list (pv 2) pe_int (fun _ _ => rfl)) (pa_cons (pe_ix ix_list (pv 2) pe_int (fun _ _ => rfl)) pa_nil))))) pss_nil)
      (pss_cons (ps_if (pt_cmpR op_eq (pv 1) pe_int (nomark _)) (pss_one (ps_ret (pe_mx c_Desk_sign hr (by decide) (fun σ => passAt (takes_of rfl rfl rfl rfl) σ) (pv 0) (pa_cons (pe_ix ix_list (pv 2) pe_int (fun _ _ => rfl)) (pa_cons (pe_ix ix_list (pv 2) pe_int (fun _ _ => rfl)) (pa_cons (pe_ix ix_list (pv 2) pe_int (fun _ _ => rfl)) pa_nil)))))) pss_nil)
      (pss_cons (ps_if (pt_cmpR op_eq (pv 1) pe_int (nomark _)) (pss_one (ps_ret (pe_mx c_Desk_differ hr (by decide) (fun σ => passAt (takes_of rfl rfl rfl rfl) σ) (pv 0) (pa_cons (pe_ix ix_list (pv 2) pe_int (fun _ _ => rfl)) (pa_cons (pe_ix ix_list (pv 2) pe_int (fun _ _ => rfl)) pa_nil))))) pss_nil)
      (pss_one (ps_ret (pe_mx c_Desk_counts hr (by decide) (fun σ => passAt (takes_of rfl rfl rfl rfl) σ) (pv 0) (pa_cons (pe_ix ix_list (pv 2) pe_int (fun _ _ => rfl)) pa_nil)))))))))))), ?_⟩
  obtain ⟨a, dx, kk, A, s, c, na, ra, ns, L, rfl, hd, hns, hL, hrow, hlen, hcl, hsh, kA, kX⟩ := h
  rcases shape_cases hsh with ⟨hc, hm, hr⟩ | ⟨hc, hm, hr⟩ | ⟨hc, hm, hr⟩ | ⟨hc, hm, hr⟩ | ⟨hc, hm, hr⟩ | ⟨hc, hm, hr⟩ | ⟨hc, hm, hr⟩ | ⟨hc, hm, hr⟩ | ⟨hc, hm, hr⟩ | ⟨hc, hm, hr⟩ | ⟨hc, hm, hr⟩ | ⟨hc, hm, hr⟩ | ⟨hc, hm, hr⟩ | ⟨hc, hm, hr⟩ | ⟨hc, hm, hr⟩ | ⟨hc, hm, hr⟩ | ⟨hc, hm, hr⟩ | ⟨hc, hm, hr⟩ | ⟨hc, hm, hr⟩
  · omega
  · omega
  · omega
  · omega
  · omega
  · omega
  · omega
  · omega
  · omega
  · omega
  · subst hc
    obtain ⟨x0, x1, rfl⟩ := len2 hm
    obtain ⟨⟨ta, tl⟩, rfl⟩ := len1 hr
    have hrow0 := hrow (ta, tl) (by simp)
    have hlen0 := hlen (ta, tl) (by simp)
    have kA : DoneA G H a dx kk (neut s (.import_ x0 x1 tl)) Q := kA
    have kX : DoneX G H a dx kk A s (neut s (.import_ x0 x1 tl)) _ := kX
    refine ⟨_, rfl, rfl, _, rfl, iteT ⟨_, rfl, a, dx, _, rfl, hd.o, rfl, _, rfl, _, _, _, _, rfl, rfl, hns, rfl, _, rfl, _, _, _, _, rfl, rfl, hns, rfl, _, rfl, _, _, _, _, rfl, rfl, hL, rfl, a, dx, kk, A, s, x0, x1, ta, tl, rfl, hd, hrow0, hlen0, kA, kX⟩⟩
  · subst hc
    obtain ⟨x0, rfl⟩ := len1 hm
    obtain ⟨⟨ta, tl⟩, rfl⟩ := len1 hr
    have hrow0 := hrow (ta, tl) (by simp)
    have hlen0 := hlen (ta, tl) (by simp)
    have kA : DoneA G H a dx kk (neut s (.convert x0 tl)) Q := kA
    have kX : DoneX G H a dx kk A s (neut s (.convert x0 tl)) _ := kX
    refine ⟨_, rfl, rfl, _, rfl, iteF ⟨_, rfl, rfl, _, rfl, iteT ⟨_, rfl, a, dx, _, rfl, hd.o, rfl, _, rfl, _, _, _, _, rfl, rfl, hns, rfl, _, rfl, _, _, _, _, rfl, rfl, hL, rfl, a, dx, kk, A, s, x0, ta, tl, rfl, hd, hrow0, hlen0, kA, kX⟩⟩⟩
  · subst hc
    obtain ⟨x0, x1, rfl⟩ := len2 hm
    have hL0 := List.eq_nil_of_length_eq_zero hr
    subst hL0
    have kA : DoneA G H a dx kk (neut s (.same x0 x1)) Q := kA
    have kX : DoneX G H a dx kk A s (neut s (.same x0 x1)) _ := kX
    refine ⟨_, rfl, rfl, _, rfl, iteF ⟨_, rfl, rfl, _, rfl, iteF ⟨_, rfl, rfl, _, rfl, iteT ⟨_, rfl, a, dx, _, rfl, hd.o, rfl, _, rfl, _, _, _, _, rfl, rfl, hns, rfl, _, rfl, _, _, _, _, rfl, rfl, hns, rfl, a, dx, kk, A, s, x0, x1, rfl, hd, kA, kX⟩⟩⟩⟩
  · subst hc
    obtain ⟨x0, x1, rfl⟩ := len2 hm
    have hL0 := List.eq_nil_of_length_eq_zero hr
    subst hL0
    have kA : DoneA G H a dx kk (neut s (.signed x0 x1)) Q := kA
    have kX : DoneX G H a dx kk A s (neut s (.signed x0 x1)) _ := kX
    refine ⟨_, rfl, rfl, _, rfl, iteF ⟨_, rfl, rfl, _, rfl, iteF ⟨_, rfl, rfl, _, rfl, iteF ⟨_, rfl, rfl, _, rfl, iteT ⟨_, rfl, a, dx, _, rfl, hd.o, rfl, _, rfl, _, _, _, _, rfl, rfl, hns, rfl, _, rfl, _, _, _, _, rfl, rfl, hns, rfl, a, dx, kk, A, s, x0, x1, rfl, hd, kA, kX⟩⟩⟩⟩⟩
  · subst hc
    obtain ⟨x0, x1, rfl⟩ := len2 hm
    have hL0 := List.eq_nil_of_length_eq_zero hr
    subst hL0
    have kA : DoneA G H a dx kk (neut s (.missing x0 x1)) Q := kA
    have kX : DoneX G H a dx kk A s (neut s (.missing x0 x1)) _ := kX
    refine ⟨_, rfl, rfl, _, rfl, iteF ⟨_, rfl, rfl, _, rfl, iteF ⟨_, rfl, rfl, _, rfl, iteF ⟨_, rfl, rfl, _, rfl, iteF ⟨_, rfl, rfl, _, rfl, iteT ⟨_, rfl, a, dx, _, rfl, hd.o, rfl, _, rfl, _, _, _, _, rfl, rfl, hns, rfl, _, rfl, _, _, _, _, rfl, rfl, hns, rfl, a, dx, kk, A, s, x0, x1, rfl, hd, kA, kX⟩⟩⟩⟩⟩⟩
  · subst hc
    obtain ⟨x0, x1, rfl⟩ := len2 hm
    have hL0 := List.eq_nil_of_length_eq_zero hr
    subst hL0
    have kA : DoneA G H a dx kk (neut s (.at_ x0 x1)) Q := kA
    have kX : DoneX G H a dx kk A s (neut s (.at_ x0 x1)) _ := kX
    refine ⟨_, rfl, rfl, _, rfl, iteF ⟨_, rfl, rfl, _, rfl, iteF ⟨_, rfl, rfl, _, rfl, iteF ⟨_, rfl, rfl, _, rfl, iteF ⟨_, rfl, rfl, _, rfl, iteF ⟨_, rfl, rfl, _, rfl, iteT ⟨_, rfl, a, dx, _, rfl, hd.o, rfl, _, rfl, _, _, _, _, rfl, rfl, hns, rfl, _, rfl, _, _, _, _, rfl, rfl, hns, rfl, a, dx, kk, A, s, x0, x1, rfl, hd, kA, kX⟩⟩⟩⟩⟩⟩⟩
  · subst hc
    obtain ⟨x0, x1, x2, rfl⟩ := len3 hm
    have hL0 := List.eq_nil_of_length_eq_zero hr
    subst hL0
    have kA : DoneA G H a dx kk (neut s (.sign x0 x1 x2)) Q := kA
    have kX : DoneX G H a dx kk A s (neut s (.sign x0 x1 x2)) _ := kX
    refine ⟨_, rfl, rfl, _, rfl, iteF ⟨_, rfl, rfl, _, rfl, iteF ⟨_, rfl, rfl, _, rfl, iteF ⟨_, rfl, rfl, _, rfl, iteF ⟨_, rfl, rfl, _, rfl, iteF ⟨_, rfl, rfl, _, rfl, iteF ⟨_, rfl, rfl, _, rfl, iteT ⟨_, rfl, a, dx, _, rfl, hd.o, rfl, _, rfl, _, _, _, _, rfl, rfl, hns, rfl, _, rfl, _, _, _, _, rfl, rfl, hns, rfl, _, rfl, _, _, _, _, rfl, rfl, hns, rfl, a, dx, kk, A, s, x0, x1, x2, rfl, hd, kA, kX⟩⟩⟩⟩⟩⟩⟩⟩
  · subst hc
    obtain ⟨x0, x1, rfl⟩ := len2 hm
    have hL0 := List.eq_nil_of_length_eq_zero hr
    subst hL0
    have kA : DoneA G H a dx kk (neut s (.differ x0 x1)) Q := kA
    have kX : DoneX G H a dx kk A s (neut s (.differ x0 x1)) _ := kX
    refine ⟨_, rfl, rfl, _, rfl, iteF ⟨_, rfl, rfl, _, rfl, iteF ⟨_, rfl, rfl, _, rfl, iteF ⟨_, rfl, rfl, _, rfl, iteF ⟨_, rfl, rfl, _, rfl, iteF ⟨_, rfl, rfl, _, rfl, iteF ⟨_, rfl, rfl, _, rfl, iteF ⟨_, rfl, rfl, _, rfl, iteT ⟨_, rfl, a, dx, _, rfl, hd.o, rfl, _, rfl, _, _, _, _, rfl, rfl, hns, rfl, _, rfl, _, _, _, _, rfl, rfl, hns, rfl, a, dx, kk, A, s, x0, x1, rfl, hd, kA, kX⟩⟩⟩⟩⟩⟩⟩⟩⟩
  · subst hc
    obtain ⟨x0, rfl⟩ := len1 hm
    have hL0 := List.eq_nil_of_length_eq_zero hr
    subst hL0
    have kA : DoneA G H a dx kk (neut s (.counts x0)) Q := kA
    have kX : DoneX G H a dx kk A s (neut s (.counts x0)) _ := kX
    refine ⟨_, rfl, rfl, _, rfl, iteF ⟨_, rfl, rfl, _, rfl, iteF ⟨_, rfl, rfl, _, rfl, iteF ⟨_, rfl, rfl, _, rfl, iteF ⟨_, rfl, rfl, _, rfl, iteF ⟨_, rfl, rfl, _, rfl, iteF ⟨_, rfl, rfl, _, rfl, iteF ⟨_, rfl, rfl, _, rfl, iteF ⟨_, rfl, a, dx, _, rfl, hd.o, rfl, _, rfl, _, _, _, _, rfl, rfl, hns, rfl, a, dx, kk, A, s, x0, rfl, hd, kA, kX⟩⟩⟩⟩⟩⟩⟩⟩⟩
end Sc
namespace Sc
open PySem PySem.Spec PyProof.Rows L2
open C8 (pe_gc)
open Vbpoag (State)
def sp_Desk_answer (G : Gx) : Sp := fun vs H Q _ => ∃ (a dx k : Addr) (A : List Addr) (s : State) (c : Int) (na ra : Addr) (ns : List Int) (L : List (Addr × List Int)), vs = [.ref a, .int c, .ref na, .ref ra] ∧ DeskAt G H a dx k A s ∧ SqL G.K H na (ns.map V.int) ∧ SqL G.K H ra (L.map fun q => V.ref q.1) ∧ (∀ q ∈ L, SqL G.K H q.1 (q.2.map V.int)) ∧ (∀ q ∈ L, q.2.length ≤ 10000) ∧ PyVbpoag.shape c = some (ns.length, L.length) ∧ DoneA G H a dx k (VbpoagNeutral.step s ((c :: ns) :: L.map (·.2))) Q
theorem cal_Desk_answer {P : Program} {w : World} {mg : Str → Option Value} {base : Heap} {G : Gx} (T : Txt G mg) (h : HasM G G.CD "answer" "Desk.answer" s_Desk_answer) (c_Desk_of_places : MetX P w G.K mg base 9 G.CD "of_places" (sp_Desk_of_places G)) (c_Desk_of_facts : MetX P w G.K mg base 8 G.CD "of_facts" (sp_Desk_of_facts G)) : MetN P w G.K mg base 10 G.CD "answer" (sp_Desk_answer G) := by
  obtain ⟨f, fd, F, q1, q2⟩ := h
  have nd := sc_Desk_answer.nd
  refine ⟨f, fd, ["self", "call", "n", "rows"], q1, q2, ?_, F.bindsN fun _ _ _ _ _ _ us hl => match us, hl with | [_, _, _, _], _ => rfl⟩
  refine F.ok sc_Desk_answer (fun vs H Q E h => by obtain ⟨a, dx, k, A, s, c, na, ra, ns, L, rfl, _⟩ := h; rfl) fun cdv A outer s H vs Q E hr h => ?_
  refine ⟨_, PSs.nox (pss_one (ps_try_as (i := 4) (tb := fun W => tSeq (tIfS (tTest (tOp (rI0 fun i j => .bl (decide (i < j))) (tVar 1) (tC (.int 10)))) (tRet (tMetX G.CD "of_facts" (sp_Desk_of_facts G) (WE W) (tVar 0) (tCons (tVar 1) (tCons (tVar 2) (tCons (tVar 3) tNil))))) tNext) (tRet (tMetX G.CD "of_places" (sp_Desk_of_places G) (WE W) (tVar 0) (tCons (tVar 1) (tCons (tVar 2) (tCons (tVar 3) tNil)))))) (ts := fun a cls d => tRet (tLst (tCons (tXf a cls d G.CR "number" (tVar 4)) tNil))) (Wout := fun _ _ _ _ => False) rfl rfl nd rfl rfl ⟨rfl, by decide, Or.inl T.gR⟩ takes0
      (fun W pn xe tk pw => (pss_cons (ps_if (pt_cmpR op_lt (pv 1) pe_int (nomark _)) (pss_one (ps_ret (pe_mx c_Desk_of_facts hr (by decide) (fun σ => passAt tk σ) (pv 0) (pa_cons (pv 1) (pa_cons (pv 2) (pa_cons (pv 3) pa_nil)))))) pss_nil)
      (pss_one (ps_ret (pe_mx c_Desk_of_places hr (by decide) (fun σ => passAt tk σ) (pv 0) (pa_cons (pv 1) (pa_cons (pv 2) (pa_cons (pv 3) pa_nil))))))))
      (fun a oe cls d pn hz hf => (pss_one (ps_ret (pe_lst (pa_cons (pe_xf T.xR T.nR hz hf (pv 4)) pa_nil))))))), ?_⟩
  obtain ⟨a, dx, kk, A, s, c, na, ra, ns, L, rfl, hd, hns, hL, hrow, hlen, hsh, kA⟩ := h
  refine ⟨_, rfl, _, _, rfl, rfl, _, rfl, iteB (fun hc => ?_) fun hc => ?_⟩
  · have hc := of_decide_eq_true hc
    refine ⟨_, rfl, a, dx, _, rfl, hd.o, rfl, _, rfl, _, rfl, _, rfl, a, dx, kk, A, s, c, na, ra, ns, L, rfl, hd, hns, hL, hrow, hlen, hc, hsh, kA, fun n hR d H' s' hd' => ⟨true, T.eR, fun _ a' ha' => ⟨_, rfl, rfl, rfl, d, _, _, rfl, hd', rfl, big_le (by simp), fun q hq => ?_⟩, fun z => Bool.noConfusion z⟩⟩
    rw [hR] at kA
    exact kA.same hd (same_tr s' (Fresh.new hq)) upd_same
  · have hc := of_decide_eq_false hc
    refine ⟨_, rfl, a, dx, _, rfl, hd.o, rfl, _, rfl, _, rfl, _, rfl, a, dx, kk, A, s, c, na, ra, ns, L, rfl, hd, hns, hL, hrow, hlen, by omega, hsh, kA, fun n hR d H' s' hd' => ⟨true, T.eR, fun _ a' ha' => ⟨_, rfl, rfl, rfl, d, _, _, rfl, hd', rfl, big_le (by simp), fun q hq => ?_⟩, fun z => Bool.noConfusion z⟩⟩
    rw [hR] at kA
    exact kA.same hd (same_tr s' (Fresh.new hq)) upd_same
def sp_rows_at (G : Gx) : Sp := fun vs H Q _ => ∃ (ca : Addr) (l : List Int) (p m : Nat) (xs : List (List Int)) (t : List Int), vs = [.ref ca, .int p, .int m] ∧ SqL G.K H ca (l.map V.int) ∧ m ≤ 1 ∧ p ≤ l.length ∧ PyFlat.rows m (l.drop p) = some (xs, t) ∧ ∀ (u fa : Addr) (L : List (Addr × List Int)) (e : Nat) (H' : Hp), Same H H' → SqT G.K H' u [.ref fa, .int (e : Int)] → SqL G.K H' fa (L.map fun q => V.ref q.1) → L.map (·.2) = xs → (∀ q ∈ L, SqL G.K H' q.1 (q.2.map V.int)) → l.drop e = t → p ≤ e → e ≤ l.length → Q (.ref u) H'
theorem cal_rows_at {P : Program} {w : World} {mg : Str → Option Value} {base : Heap} {G : Gx} (T : Txt G mg) (h : Has G mg "rows_at" s_rows_at) : CalN P w G.K mg base 1 "rows_at" (sp_rows_at G) := by
  obtain ⟨f, fd, F, hm⟩ := h
  have nd := sc_rows_at.nd
  refine ⟨f, fd, ["calls", "at", "many"], ?_, hm, F.kp, F.bindsN fun _ _ _ _ _ _ us hl => match us, hl with | [_, _, _], _ => rfl⟩
  refine F.ok sc_rows_at (fun vs H Q E h => by obtain ⟨ca, l, p, m, xs, t, rfl, _⟩ := h; rfl) fun cdv A outer s H vs Q E hr h => ?_
  refine ⟨_, PSs.nox (pss_cons (ps_set (i := 3) nd rfl (Or.inl rfl) (pe_lst pa_nil))
      (pss_cons (ps_set (i := 4) nd rfl (Or.inl rfl) (pv 1))
      (pss_cons (ps_for PassesOwn.never rfl (pi_range1 rfl T.b_range (pa_cons (pv 2) pa_nil)) (pg_name (i := 5) nd rfl (Or.inl rfl))
      (pss_cons (ps_set (i := 6) nd rfl (Or.inl rfl) (pe_op op_add (pe_op op_add (pv 4) pe_int) (pe_ix ix_list (pv 0) (pv 4) (fun _ _ => rfl))))
      (pss_cons (ps_expr (pe_bm PySem.F.plainAttrs_list PySem.F.slot_list_append PySem.F.type_list_append mt_append (pv 3) (pa_cons (pe_slice sl_list (pv 0) (po_some (pe_op op_add (pv 4) pe_int)) (po_some (pv 6))) pa_nil)))
      (pss_one (ps_set (i := 4) nd rfl (Or.inl rfl) (pv 6))))))
      (pss_one (ps_ret (pe_tup (pa_cons (pv 3) (pa_cons (pv 4) pa_nil)))))))), ?_⟩
  obtain ⟨ca, l, p, m, xs, t, rfl, hs, hm, hpl0, hrows, k⟩ := h
  refine ⟨big_le (by simp), fun r hr0 => ⟨_, rfl, ?_⟩⟩
  have s0 : Same H (upd H r (.lst [])) := same_new hr0
  have hrt : (upd H r (.lst [])) r = some (.lst []) := upd_same
  generalize upd H r (.lst []) = H0 at s0 hrt
  have hrca : ∀ H', SX r H0 H' → SqL G.K H' ca (l.map V.int) := fun H' sx => (sx.same s0 hr0).seq hs
  rcases (show m = 0 ∨ m = 1 by omega) with e | e
  · subst e
    obtain ⟨rfl, rfl⟩ := rows0 hrows
    refine ⟨_, rfl, 0, rfl, by omega, by omega, for_range (fun j σ H1 => ∃ u5 u6, σ = [some (.ref ca), some (.int (p : Int)), some (.int 0), some (.ref r), some (.int (p : Int)), u5, u6] ∧ H1 = H0) ⟨none, none, rfl, rfl⟩ (fun j σ H1 hj _ => absurd hj (by simp)) fun σ H1 h => ?_⟩
    obtain ⟨u5, u6, rfl, rfl⟩ := h
    refine ⟨_, rfl, _, rfl, big_le (by simp), fun u hu => ?_⟩
    exact k u r [] p _ (s0.trans (same_new hu)) (.inl (.inl upd_same)) (.inl (.inl (same_new hu _ _ hrt))) rfl (fun q hq => by cases hq) rfl (Nat.le_refl _) hpl0
  · subst e
    obtain ⟨x, rfl, hrow⟩ := rows1 hrows
    obtain ⟨z, rr, hdr, hz0, hzl, hx, ht⟩ := row_some hrow
    have hpl : p < l.length := by
      have := congrArg List.length hdr
      rw [List.length_drop, List.length_cons] at this
      omega
    have hrl : rr.length = l.length - p - 1 := by
      have := congrArg List.length hdr
      rw [List.length_drop, List.length_cons] at this
      omega
    have hget : (l.map V.int)[p]? = some (V.int z) := by
      have : l[p]? = some z := by
        have := congrArg (fun w => w[0]?) hdr
        simpa using this
      rw [List.getElem?_map, this]; rfl
    have hrr : rr = l.drop (p + 1) := by
      have := congrArg (List.drop 1) hdr
      rw [List.drop_drop] at this
      exact this.symm
    refine ⟨_, rfl, 1, rfl, by omega, by omega, for_range (fun j σ H1 => (j = 0 ∧ ∃ u5 u6, σ = [some (.ref ca), some (.int (p : Int)), some (.int 1), some (.ref r), some (.int (p : Int)), u5, u6] ∧ H1 = H0) ∨ (j = 1 ∧ ∃ (q : Addr) (u5 u6 : Option V), σ = [some (.ref ca), some (.int (p : Int)), some (.int 1), some (.ref r), some (.int ((p + 1 + z.toNat : Nat) : Int)), u5, u6] ∧ SX r H0 H1 ∧ H1 r = some (.lst [.ref q]) ∧ H1 q = some (.lst (x.map V.int)))) (.inl ⟨rfl, none, none, rfl, rfl⟩) (fun j σ H1 hj h => ?_) fun σ H1 h => ?_⟩
    · rcases h with ⟨rfl, u5, u6, rfl, rfl⟩ | ⟨e, _⟩
      · have hs0 := hrca H1 (SX.of (same_refl _))
        refine ⟨_, rfl, _, _, rfl, rfl, _, rfl, _, rfl, _, _, _, _, rfl, rfl, hs0, at_nat (j := p) hget rfl, _, _, rfl, rfl, ?_⟩
        refine ⟨_, rfl, .inl ⟨rfl, _, .inl (.inl hrt)⟩, _, rfl, _, rfl, _, _, rfl, rfl, _, rfl, _, rfl, _, rfl, ca, _, rfl, hs0, fun q hq => ⟨r, _, _, rfl, rfl, same_new hq _ _ hrt, big_lt (by simp), ?_⟩⟩
        have nq : q ≠ r := ne_of_new' hrt hq
        refine ⟨_, rfl, .inr ⟨rfl, q, some (.int ((0 : Int) + ((0 : Nat) : Int))), some (.int ((p : Int) + 1 + z)), ?_, (SX.of (same_new hq)).upd, upd_same, ?_⟩⟩
        · have : (p : Int) + 1 + z = ((p + 1 + z.toNat : Nat) : Int) := by omega
          rw [← this]
          rfl
        · rw [upd_ne nq, upd_same, cutV_both (i := p + 1) (j := p + 1 + z.toNat) (by omega) (by omega) (by omega) (by rw [List.length_map]; omega), hx, hrr, ← List.map_drop, ← List.map_take]
          congr 4
          omega
      · exact absurd hj (by simp at hj; omega)
    · rcases h with ⟨e, _⟩ | ⟨_, q, u5, u6, rfl, sx, hr1, hq1⟩
      · simp at e
      · refine ⟨_, rfl, _, rfl, big_le (by simp), fun u hu => ?_⟩
        have su := same_new (o := .tup [.ref r, .int ((p + 1 + z.toNat : Nat) : Int)]) hu
        refine k u r [(q, x)] (p + 1 + z.toNat) _ ((sx.same s0 hr0).trans su) (.inl (.inl upd_same)) (.inl (.inl (su _ _ hr1))) rfl (fun w hw => ?_) ?_ (by omega) (by omega)
        · rw [List.mem_singleton.mp hw]
          exact .inl (.inl (su _ _ hq1))
        · rw [ht, hrr, List.drop_drop]
end Sc
namespace Sc
open PySem PySem.Spec PyProof.Rows L2
open C8 (pe_gc)
open Vbpoag (State start)
/-- what is answered from a state on -/
def toldF (s : State) (rest : List (List (List Int))) : List Int := PyFlat.told (PyFlat.played VbpoagNeutral.step s rest)
theorem toldF_cons (s : State) (c : List (List Int)) (rest : List (List (List Int))) : toldF s (c :: rest) = (((VbpoagNeutral.step s c).2.length : Int) :: (VbpoagNeutral.step s c).2) ++ toldF (VbpoagNeutral.step s c).1 rest := by
  rfl
theorem answers_start {l : List Int} {cs : List (List (List Int))} (h : PyFlat.calls PyVbpoag.shape l.length l = some cs) : PyVbpoag.answers l = toldF start cs := by
  unfold PyVbpoag.answers PyVbpoag.calls
  rw [h]
  have : cs.map PyVbpoag.whole = cs := by
    conv => rhs; rw [← List.map_id cs]
    exact List.map_congr_left fun c _ => whole_id c
  show PyFlat.told (PyFlat.played VbpoagNeutral.step VbpoagNeutral.start (cs.map PyVbpoag.whole)) = _
  rw [this]
  rfl
theorem asked_inv {l : List Int} (h : PyVbpoag.answers_asked l = true) : ∃ cs, PyFlat.calls PyVbpoag.shape l.length l = some cs ∧ (∀ c ∈ cs, PyInside.call PyVbpoag.bound c = true) ∧ (PyVbpoag.answers l).length ≤ 10000000 := by
  unfold PyVbpoag.answers_asked at h
  cases hc : PyFlat.calls PyVbpoag.shape l.length l with
  | none => (rw [hc] at h; cases h)
  | some cs =>
    rw [hc] at h
    dsimp only at h
    (simp only [Bool.and_eq_true] at h)
    refine ⟨cs, rfl, ?_, ?_⟩
    · have := h.1.1.2
      unfold PyInside.calls at this
      exact List.all_eq_true.mp this
    · have := h.2
      unfold PyFlat.short at this
      exact of_decide_eq_true this
def sp_answers (G : Gx) : Sp := fun vs H Q _ => ∃ (ca : Addr) (l : List Int), vs = [.ref ca] ∧ SqL G.K H ca (l.map V.int) ∧ PyVbpoag.answers_asked l = true ∧ ∀ b H', Same H H' → H' b = some (.lst ((PyVbpoag.answers l).map V.int)) → Q (.ref b) H'
theorem fn_answers {P : Program} {w : World} {mg : Str → Option Value} {base : Heap} {G : Gx} (T : Txt G mg) {f : Addr} {fd : FuncData} (F : Df G.K "answers" "answers" s_answers f fd) (c_Desk : MakN P w G.K mg base 1 "Desk" G.CD (sp_Desk_init G)) (c_rows_at : CalN P w G.K mg base 1 "rows_at" (sp_rows_at G)) (c_Desk_answer : MetN P w G.K mg base 10 G.CD "answer" (sp_Desk_answer G)) : FnOk P w G.K mg base CX0 11 f fd ["calls"] (sp_answers G) := by
  have nd := sc_answers.nd
  obtain ⟨a_SHAPES, g_SHAPES, dp_SHAPES⟩ := T.t_SHAPES
  refine F.ok sc_answers (fun vs H Q E h => by obtain ⟨ca, l, rfl, _⟩ := h; rfl) fun cdv A outer s H vs Q E hr h => ?_
  refine ⟨_, PSs.nox (pss_cons (ps_set (i := 1) nd rfl (Or.inl rfl) (pe_kn0 c_Desk hr (by decide) rfl))
      (pss_cons (ps_set (i := 2) nd rfl (Or.inl rfl) (pe_lst pa_nil))
      (pss_cons (ps_set (i := 3) nd rfl (Or.inl rfl) pe_int)
      (pss_cons (ps_while PassesOwn.never (pt_cmpR op_lt (pv 3) (pe_callB call_len_seq (by rfl) T.b_len PySem.boot_len (pa_cons (pv 0) pa_nil)) (nomark _))
      (pss_cons (ps_set (i := 4) nd rfl (Or.inl rfl) (pe_ix ix_list (pv 0) (pv 3) (fun _ _ => rfl)))
      (pss_cons (ps_asg (pe_ix ix_tup (pe_gc rfl g_SHAPES) (pv 4) (fun _ _ => rfl)) (pg_tup rfl (pgs_cons (pg_name (i := 5) nd rfl (Or.inl rfl)) (pgs_cons (pg_name (i := 6) nd rfl (Or.inl rfl)) pgs_nil))))
      (pss_cons (ps_set (i := 7) nd rfl (Or.inl rfl) (pe_op op_add (pe_op op_add (pv 3) pe_int) (pv 5)))
      (pss_cons (ps_asg (pe_cn c_rows_at hr (by decide) rfl (pa_cons (pv 0) (pa_cons (pv 7) (pa_cons (pv 6) pa_nil)))) (pg_tup rfl (pgs_cons (pg_name (i := 8) nd rfl (Or.inl rfl)) (pgs_cons (pg_name (i := 9) nd rfl (Or.inl rfl)) pgs_nil))))
      (pss_cons (ps_set (i := 10) nd rfl (Or.inl rfl) (pe_mn c_Desk_answer hr (by decide) (pv 1) (pa_cons (pv 4) (pa_cons (pe_slice sl_list (pv 0) (po_some (pe_op op_add (pv 3) pe_int)) (po_some (pv 7))) (pa_cons (pv 8) pa_nil)))))
      (pss_cons (ps_expr (pe_bm PySem.F.plainAttrs_list PySem.F.slot_list_append PySem.F.type_list_append mt_append (pv 2) (pa_cons (pe_callB call_len_seq (by rfl) T.b_len PySem.boot_len (pa_cons (pv 10) pa_nil)) pa_nil)))
      (pss_cons (ps_expr (pe_bm PySem.F.plainAttrs_list PySem.F.slot_list_extend PySem.F.type_list_extend mt_extend (pv 2) (pa_cons (pv 10) pa_nil)))
      (pss_one (ps_set (i := 3) nd rfl (Or.inl rfl) (pv 9)))))))))))
      (pss_one (ps_ret (pv 2))))))), ?_⟩
  obtain ⟨ca, l, rfl, hs, hasked, K⟩ := h
  obtain ⟨cs, hcs, hin, hshort⟩ := asked_inv hasked
  have hans := answers_start hcs
  refine fun a dx ha0 hdx0 hne => ⟨a, dx, rfl, upd_same, fun k0 A0 H1 sx1 hk0 hd1 => ⟨rfl, ?_⟩⟩
  have ha1 : (upd H dx (.own a)) a = none := by rw [upd_ne hne.symm]; exact ha0
  have s01 : Same H H1 := SX.same (l := a) (H := upd (upd H dx (.own a)) a (.ins G.CD dx [])) ((same_new hdx0).trans (same_new ha1)) ha0 sx1
  have hk00 : H k0 = none := same_none ((same_new hdx0).trans (same_new (o := .ins G.CD dx []) ha1)) hk0
  refine ⟨big_le (by simp), fun fl hfl => ?_⟩
  have hfl0 : H fl = none := same_none s01 hfl
  have s02 : Same H (upd H1 fl (.lst [])) := s01.trans (same_new hfl)
  have hd2 := hd1.same (same_new (o := .lst []) hfl)
  have hflt : (upd H1 fl (.lst [])) fl = some (.lst []) := upd_same
  have nflk : fl ≠ k0 := ne_of_new' hd1.kn hfl
  have nfla : fl ≠ a := ne_of_new' hd1.o hfl
  have nflA : fl ∉ A0 := fun hm => by
    obtain ⟨j, hj⟩ := List.mem_iff_getElem?.mp hm
    have hjl := (List.getElem?_eq_some_iff.mp hj).1
    rw [hd1.len] at hjl
    obtain ⟨b, ys, hA, hb, _⟩ := hd1.at hjl
    rw [hj] at hA
    cases hA
    rw [hfl] at hb
    cases hb
  generalize upd H1 fl (.lst []) = H2 at s02 hd2 hflt
  refine ⟨fun m σ H3 => ∃ (at' : Nat) (done : List Int) (s : State) (k : Addr) (A : List Addr) (rest : List (List (List Int))) (f : Nat) (u4 u5 u6 u7 u8 u9 u10 : Option V), m = l.length - at' ∧ σ = [some (.ref ca), some (.ref a), some (.ref fl), some (.int (at' : Int)), u4, u5, u6, u7, u8, u9, u10] ∧ Same H H3 ∧ DeskAt G H3 a dx k A s ∧ H k = none ∧ fl ≠ k ∧ fl ∉ A ∧ H3 fl = some (.lst (done.map V.int)) ∧ at' ≤ l.length ∧ PyFlat.calls PyVbpoag.shape f (l.drop at') = some rest ∧ (∀ c ∈ rest, PyInside.call PyVbpoag.bound c = true) ∧ PyVbpoag.answers l = done ++ toldF s rest, ⟨_, 0, [], start, k0, A0, cs, l.length, none, none, none, none, none, none, none, rfl, rfl, s02, hd2, hk00, nflk, nflA, hflt, Nat.zero_le _, hcs, hin, hans⟩, ?_⟩
  rintro m σ H3 ⟨at', done, s, k, A, rest, f, u4, u5, u6, u7, u8, u9, u10, rfl, rfl, s3, hd3, hk, nk, nA, hf3, hat, hcl, hri, hA⟩
  have hs3 := s3.seq hs
  refine ⟨_, rfl, _, rfl, ca, _, rfl, .inl hs3, _, _, rfl, rfl, _, rfl, iteB (fun hlt => ?_) fun hlt => ?_⟩
  · have hlt := of_decide_eq_true hlt
    rw [List.length_map] at hlt
    have hlt : at' < l.length := by omega
    refine ⟨fun σ' H' => ∃ m', m' < l.length - at' ∧ _, fun σ' H' h => h, ?_⟩
    have hdr : l.drop at' = l[at'] :: l.drop (at' + 1) := List.drop_eq_getElem_cons hlt
    have hg : l[at']? = some l[at'] := List.getElem?_eq_getElem hlt
    generalize l[at'] = p at hdr hg
    rw [hdr] at hcl
    obtain ⟨g, n, kk, xs, t, cs', rfl, hshp, hnl, hrows, hcl', rfl⟩ := calls_step hcl
    rw [List.length_drop] at hnl
    have hget : (l.map V.int)[at']? = some (V.int p) := by rw [List.getElem?_map, hg]; rfl
    obtain ⟨hx, hb, hSh, hAt, hSb⟩ := shape_tab (dp_SHAPES H3) hshp
    have hkk := (shape_get hshp).choose_spec.2.2.1
    refine ⟨_, rfl, _, rfl, _, _, _, _, rfl, rfl, hs3, at_nat (j := at') hget rfl, ?_⟩
    refine ⟨_, rfl, _, _, _, _, rfl, rfl, hSh, hAt, hb, _, rfl, hSb, rfl, _, _, rfl, _, _, rfl, rfl, ?_⟩
    refine ⟨_, rfl, _, _, rfl, rfl, _, rfl, _, _, rfl, rfl, ?_⟩
    have hdrop2 : (l.drop (at' + 1)).drop n = l.drop (at' + 1 + n) := by rw [List.drop_drop]
    rw [hdrop2] at hrows
    have ebeg : ((at' : Int) + 1 + (n : Int)) = ((at' + 1 + n : Nat) : Int) := by omega
    refine ⟨_, rfl, _, rfl, _, rfl, ca, l, at' + 1 + n, kk, xs, t, (by show [V.ref ca, V.int ((at' : Int) + 1 + (n : Int)), V.int (kk : Int)] = _; rw [ebeg]), hs3, hkk, by omega, hrows, fun u fa L e H4 s4 hu hfa hLx hrow hdrop hle hel => ⟨u, _, rfl, hu, rfl, _, _, rfl, _, _, rfl, rfl, ?_⟩⟩
    have hd4 := hd3.same s4
    have hs4 := s4.seq hs3
    have hLl : L.length = kk := by
      have := rows_len hrows
      rw [← hLx, List.length_map] at this
      exact this
    refine ⟨_, rfl, a, dx, _, rfl, hd4.o, rfl, _, rfl, _, rfl, _, rfl, _, _, rfl, rfl, _, rfl, _, rfl, _, rfl, ca, _, rfl, hs4, fun na hna => ⟨_, rfl, ?_⟩⟩
    have ecut : cutV (l.map V.int) (some ((at' : Int) + 1)) (some ((at' : Int) + 1 + (n : Int))) = ((l.drop (at' + 1)).take n).map V.int := by
      rw [cutV_both (i := at' + 1) (j := at' + 1 + n) (by omega) (by omega) (by omega) (by rw [List.length_map]; omega), ← List.map_drop, ← List.map_take]
      congr 2
      omega
    have sna := same_new (o := .lst (cutV (l.map V.int) (some ((at' : Int) + 1)) (some ((at' : Int) + 1 + (n : Int))))) hna
    have hdn := hd4.same sna
    have hnsl : ((l.drop (at' + 1)).take n).length = n := by rw [List.length_take, List.length_drop]; omega
    have hcin := hri _ (List.mem_cons_self ..)
    have hxin := inside_rows (n := n) (by rw [rows_len hrows]; exact hshp) hcin
    refine ⟨a, dx, k, A, s, p, na, fa, (l.drop (at' + 1)).take n, L, rfl, hdn, sqL_eq upd_same ecut, sna.seq hfa, fun q hq => sna.seq (hrow q hq), fun q hq => ?_, by rw [hnsl, hLl]; exact hshp, fun b k' A' H5 sx5 hk5 hd5 hb5 hb50 hq5 => ?_⟩
    · have : q.2 ∈ xs := by rw [← hLx]; exact List.mem_map.mpr ⟨q, hq, rfl⟩
      have := hxin _ this
      omega
    rw [hLx] at hd5 hb5
    have s4n := s3.trans (s4.trans sna)
    have hk'0 : H k' = none := by
      rcases hk5 with e | e
      · rw [e]; exact hk
      · exact same_none s4n e
    have s5 : Same H H5 := sx5.same s4n ha0 hk
    have hf4 := sna _ _ (s4 _ _ hf3)
    have hf5 : H5 fl = some (.lst (done.map V.int)) := sx5 _ _ nfla nk hf4
    have nfk' : fl ≠ k' := by
      rcases hk5 with e | e
      · rw [e]; exact nk
      · exact ne_of_new hf4 e
    have nbf : b ≠ fl := ne_of_new' hf4 hb50
    have hA2 := hA
    rw [toldF_cons] at hA2
    generalize hst : VbpoagNeutral.step s ((p :: (l.drop (at' + 1)).take n) :: xs) = st at *
    have hlen := congrArg List.length hA2
    rw [List.length_append, List.length_append, List.length_cons] at hlen
    refine ⟨_, rfl, .inl ⟨rfl, _, .inl (.inl hf5)⟩, _, rfl, b, _, rfl, .inl (.inl (.inl hb5)), fl, _, _, rfl, rfl, hf5, (by rw [sizeLine_eq, List.length_map]; omega), ?_⟩
    have hf6 : upd H5 fl (.lst (done.map V.int ++ [V.int ((st.2.map V.int).length : Int)])) fl = some (.lst (done.map V.int ++ [V.int ((st.2.map V.int).length : Int)])) := upd_same
    have hb6 : upd H5 fl (.lst (done.map V.int ++ [V.int ((st.2.map V.int).length : Int)])) b = some (.lst (st.2.map V.int)) := by rw [upd_ne nbf]; exact hb5
    refine ⟨_, rfl, .inl ⟨rfl, _, .inl (.inl hf6)⟩, _, rfl, fl, b, _, _, rfl, rfl, hf6, hb6, (by rw [sizeLine_eq, List.length_append, List.length_map, List.length_map, List.length_singleton]; omega), ?_⟩
    have nA' : fl ∉ A' := fun hm => nA (by
      have := hq5 fl hm _ (sna _ _ (s4 _ _ hd3.kn)) (by rw [hf4]; intro z; cases z)
      obtain ⟨q, hq, e⟩ := (List.mem_map.mp this)
      cases e
      exact hq)
    have desk : ∀ H6 zs, DeskAt G H6 a dx k' A' st.1 → (∃ ws, H6 fl = some (.lst ws)) → DeskAt G (upd H6 fl (.lst zs)) a dx k' A' st.1 := fun H6 zs hd6 ⟨ws, hw⟩ => by
      refine ⟨by rw [upd_ne nfla.symm]; exact hd6.o, by rw [upd_ne nfk'.symm]; exact hd6.kn, hd6.len, hd6.good, fun q b' l' h1 h2 => ?_, hd6.ne⟩
      obtain ⟨ys, h3, h4⟩ := hd6.row q b' l' h1 h2
      have nb : b' ≠ fl := fun e => nA' (e ▸ List.mem_of_getElem? h1)
      exact ⟨ys, by rw [upd_ne nb]; exact h3, dpAll_upd hw _ _ (lfree_map lfree_fact _) h4⟩
    have hd6 := desk H5 (done.map V.int ++ [V.int ((st.2.map V.int).length : Int)]) hd5 ⟨_, hf5⟩
    have hd7 := desk _ ((done.map V.int ++ [V.int ((st.2.map V.int).length : Int)]) ++ st.2.map V.int) hd6 ⟨_, hf6⟩
    refine ⟨_, rfl, l.length - e, by omega, e, done ++ ((st.2.length : Int) :: st.2), st.1, k', A', cs', g, _, _, _, _, _, _, _, rfl, rfl, same_upd (same_upd s5 hfl0) hfl0, hd7, hk'0, nfk', nA', ?_, hel, by rw [hdrop]; exact hcl', fun c hc => hri c (List.mem_cons_of_mem _ hc), by rw [hA2, List.append_assoc]⟩
    rw [upd_same, List.map_append, List.map_cons, List.length_map, List.append_assoc]
    rfl
  · have hlt := of_decide_eq_false hlt
    rw [List.length_map] at hlt
    have he : at' = l.length := by omega
    rw [he, List.drop_length] at hcl
    have : rest = [] := by cases f <;> (unfold PyFlat.calls at hcl; cases hcl; rfl)
    subst this
    have : PyVbpoag.answers l = done := by rw [hA]; simp [toldF, PyFlat.told, PyFlat.played]
    refine ⟨_, rfl, K fl H3 s3 (by rw [this]; exact hf3)⟩
end Sc
namespace Sc
open PySem PySem.Spec PyProof.Rows L2
theorem says_int {K : PySem.W.Frag} {h : Heap} {mg : Str → Option Value} (X : K.In h) (N : h.Ns mainGlobals mg) {x : Str} {i : Int} (c : (He.Fa.int x i).ok K = true) : Says mg x (.int i) :=
  let ⟨t, e⟩ := He.int_ok X N c
  ⟨_, e, t, rfl⟩
theorem says_str {K : PySem.W.Frag} {h : Heap} {mg : Str → Option Value} (X : K.In h) (N : h.Ns mainGlobals mg) {x z : Str} (c : (He.Fa.str x z).ok K = true) : Says mg x (.str z) :=
  let ⟨t, e⟩ := He.str_ok X N c
  ⟨_, e, t, rfl⟩
theorem tab_ok {K : PySem.W.Frag} {x : Str} {d : PyData} {h : Heap} {mg : Str → Option Value} (X : K.In h) (N : h.Ns mainGlobals mg) (g : (He.Fa.glo x).ok K = true) (t : tabU K d (.ref (He.ga K x)) = true) : ∃ a, Says mg x (.ref a) ∧ ∀ H, Dp K H (.ref a) d := by
  obtain ⟨v, rv, dv⟩ := tabU_ok d _ t
  have e : v = .ref (He.ga K x) := by
    cases v with
    | ref a =>
      have rv : Value.ref (He.ga K x) = Value.ref a := rv
      cases rv
      rfl
    | _ => first | (exact nomatch rv) | (obtain ⟨_, rv⟩ := rv; cases rv) | cases rv
  subst e
  exact ⟨_, ⟨_, He.glo_ok X N g, rfl⟩, dv⟩
/-- the written part and its classes -/
def gx (K : PySem.W.Frag) : Gx := ⟨K, He.ga K "Standing", He.ga K "Desk", He.ga K "WrongLine", He.ga K "Refused"⟩
theorem tab_of {K : PySem.W.Frag} (m : more K = true) (i : Nat) {x : Str} {d : PyData} (e : tabs[i]? = some (x, d) := by rfl) : tabU K d (.ref (He.ga K x)) = true :=
  List.all_eq_true.mp (Bool.and_eq_true_iff.mp m).1 (x, d) (List.mem_of_getElem? e)
structure More (K : PySem.W.Frag) : Prop where
  o : OexC K (He.ga K "Refused")
  x : XfC K (He.ga K "Refused")
  v : PySem.W.findCls K (.type "ValueError") (.type "type") "__init__" = some (.val (.builtin "ValueError.__init__"))
  i : PySem.W.findIn K (.ref (He.ga K "Refused")) "__init__" = some (some (.ref (He.ma K (He.ga K "Refused") "__init__")))
  t : PySem.W.typeIn K (.ref (He.ma K (He.ga K "Refused") "__init__")) = some (.type "function")
theorem more_of {K : PySem.W.Frag} (m : more K = true) : More K := by
  obtain ⟨_, m1⟩ := Bool.and_eq_true_iff.mp m
  obtain ⟨o, m2⟩ := Bool.and_eq_true_iff.mp m1
  obtain ⟨x, m3⟩ := Bool.and_eq_true_iff.mp m2
  obtain ⟨v, m4⟩ := Bool.and_eq_true_iff.mp m3
  obtain ⟨i, t⟩ := Bool.and_eq_true_iff.mp m4
  refine ⟨refB_ok o, xfB_ok x, ?_, of_decide_eq_true i, of_decide_eq_true t⟩
  split at v
  · rename_i n e
    rw [e, of_decide_eq_true v]
  · cases v
section
variable {mg : Str → Option Value} {K : PySem.W.Frag} {h : Heap}
theorem txt_of (X : K.In h) (N : h.Ns mainGlobals mg) (D : He.SaysD fa fn K) (m : more K = true) : Txt (gx K) mg where
  c_SCAN := says_int X N (D.fact 42)
  c_LOOK := says_int X N (D.fact 43)
  c_DEVICE := says_int X N (D.fact 44)
  c_NUMBER := says_int X N (D.fact 45)
  c_SETTING := says_int X N (D.fact 46)
  c_CLOCK := says_int X N (D.fact 47)
  c_ITEM := says_int X N (D.fact 48)
  c_KIND := says_int X N (D.fact 49)
  c_OFFICE := says_int X N (D.fact 50)
  c_SIGNATURE := says_int X N (D.fact 51)
  c_TIME := says_int X N (D.fact 52)
  c_MOST_DEVICE := says_int X N (D.fact 53)
  c_MOST_NUMBER := says_int X N (D.fact 54)
  c_MOST_SETTING := says_int X N (D.fact 55)
  c_MOST_CLOCK := says_int X N (D.fact 56)
  c_MOST_ITEM := says_int X N (D.fact 57)
  c_MOST_KIND := says_int X N (D.fact 58)
  c_MOST_OFFICE := says_int X N (D.fact 59)
  c_MOST_SIGNATURE := says_int X N (D.fact 60)
  c_ROUND := says_int X N (D.fact 61)
  c_LINE_END := says_int X N (D.fact 62)
  c_BLANK := says_int X N (D.fact 63)
  c_SEMICOLON := says_int X N (D.fact 64)
  c_COLON := says_int X N (D.fact 65)
  c_ZERO := says_int X N (D.fact 66)
  c_WORDED := says_int X N (D.fact 67)
  c_NOTHING := says_int X N (D.fact 68)
  c_AT_OFFICE := says_int X N (D.fact 69)
  c_UNDER_WAY := says_int X N (D.fact 70)
  c_OUT_histories := says_int X N (D.fact 71)
  c_HELD := says_int X N (D.fact 72)
  c_DELIVERED := says_int X N (D.fact 73)
  c_SIGNED := says_int X N (D.fact 74)
  c_CUSTOMS := says_int X N (D.fact 75)
  c_RETURNED := says_int X N (D.fact 76)
  c_RETURNED_SIGNED := says_int X N (D.fact 77)
  c_POSTED_KIND := says_int X N (D.fact 78)
  c_COME_KIND := says_int X N (D.fact 79)
  c_ATTEMPT_KIND := says_int X N (D.fact 80)
  c_DELIVERED_KIND := says_int X N (D.fact 81)
  c_RETURNED_KIND := says_int X N (D.fact 82)
  c_OUT_places := says_int X N (D.fact 83)
  c_NO_TEXT := says_int X N (D.fact 84)
  c_FULL := says_int X N (D.fact 85)
  c_PLACES := says_int X N (D.fact 86)
  c_MOST_FACTS := says_int X N (D.fact 87)
  c_MOST_TEXT := says_int X N (D.fact 88)
  c_FIRST_MISSING := says_int X N (D.fact 89)
  c_LOOK_NAME := says_str X N (D.fact 90)
  c_OFFICES := says_str X N (D.fact 91)
  b_sorted := He.free_ok X N (D.fact 92)
  b_set := He.free_ok X N (D.fact 93)
  b_enumerate := He.free_ok X N (D.fact 94)
  b_len := He.free_ok X N (D.fact 95)
  b_all := He.free_ok X N (D.fact 96)
  b_range := He.free_ok X N (D.fact 97)
  b_max := He.free_ok X N (D.fact 98)
  b_int := He.free_ok X N (D.fact 99)
  b_list := He.free_ok X N (D.fact 100)
  b_tuple := He.free_ok X N (D.fact 101)
  b_str := He.free_ok X N (D.fact 102)
  b_ord := He.free_ok X N (D.fact 103)
  b_ValueError := He.free_ok X N (D.fact 104)
  t_KINDS := tab_ok X N (D.fact 152) (tab_of m 0)
  t_NAMES := tab_ok X N (D.fact 153) (tab_of m 1)
  t_SCAN_NAMES := tab_ok X N (D.fact 154) (tab_of m 2)
  t_LOOK_NAMES := tab_ok X N (D.fact 155) (tab_of m 3)
  t_FITS := tab_ok X N (D.fact 156) (tab_of m 4)
  t_BEHIND := tab_ok X N (D.fact 157) (tab_of m 5)
  t_SHAPES := tab_ok X N (D.fact 158) (tab_of m 6)
  clS := He.cls_ok (D.fact 105)
  clD := He.cls_ok (D.fact 114)
  nS_state := He.noat_ok (D.fact 141)
  nS_office := He.noat_ok (D.fact 142)
  nS_attempts := He.noat_ok (D.fact 143)
  nS_odd := He.noat_ok (D.fact 144)
  nS_signer := He.noat_ok (D.fact 145)
  nD_known := He.noat_ok (D.fact 146)
  xW := (He.exc_ok (D.fact 147)).1
  gW := He.glo_ok X N (D.fact 11)
  kW := (He.exc_ok (D.fact 147)).2.1
  bW := (He.exc_ok (D.fact 147)).2.2.1
  tW := (He.exc_ok (D.fact 147)).2.2.2
  eW := He.exm_ok (D.fact 148)
  gR := He.glo_ok X N (D.fact 33)
  eR := He.exm_ok (D.fact 149)
  oR := (more_of m).o
  xR := (more_of m).x
  nR := He.noat_ok (D.fact 151)
  vV := (more_of m).v
theorem all_of {P : Program} {w : World} {base : Heap} (X : K.In h) (N : h.Ns mainGlobals mg) (D : He.SaysD fa fn K) (m : more K = true) : ∃ fd, Df K "answers" "answers" s_answers (He.ga K "answers") fd ∧ FnOk P w K mg base CX0 11 (He.ga K "answers") fd ["calls"] (sp_answers (gx K)) := by
  have T : Txt (gx K) mg := txt_of X N D m
  have h_Desk_init : HasI (gx K) mg "Desk" (gx K).CD "Desk.__init__" s_Desk_init := let ⟨fd, F⟩ := D.def_ 44 (d := d_Desk_init); ⟨_, fd, F, He.mkr_ok (D.fact 115), He.glo_ok X N (D.fact 39)⟩
  have x_Desk_init := cal_Desk_init (P := P) (w := w) (base := base) T h_Desk_init 
  have h_rows_at : Has (gx K) mg "rows_at" s_rows_at := let ⟨fd, F⟩ := D.def_ 69 (d := d_rows_at); ⟨_, fd, F, He.glo_ok X N (D.fact 40)⟩
  have x_rows_at := cal_rows_at (P := P) (w := w) (base := base) T h_rows_at 
  have h_Refused_init : HasR (gx K) s_Refused_init := let ⟨fd, F⟩ := D.def_ 38 (d := d_Refused_init); ⟨_, fd, F, (more_of m).i, (more_of m).t⟩
  have x_Refused_init := cal_Refused_init (P := P) (w := w) (base := base) T h_Refused_init 
  have h_want : Has (gx K) mg "want" s_want := let ⟨fd, F⟩ := D.def_ 39 (d := d_want); ⟨_, fd, F, He.glo_ok X N (D.fact 34)⟩
  have x_want := cal_want (P := P) (w := w) (base := base) T h_want x_Refused_init
  have h_is_from : Has (gx K) mg "is_from" s_is_from := let ⟨fd, F⟩ := D.def_ 0 (d := d_is_from); ⟨_, fd, F, He.glo_ok X N (D.fact 0)⟩
  have x_is_from := cal_is_from (P := P) (w := w) (base := base) T h_is_from 
  have h_want_within : Has (gx K) mg "want_within" s_want_within := let ⟨fd, F⟩ := D.def_ 40 (d := d_want_within); ⟨_, fd, F, He.glo_ok X N (D.fact 35)⟩
  have x_want_within := cal_want_within (P := P) (w := w) (base := base) T h_want_within x_want x_is_from
  have h_Desk_facts : HasM (gx K) (gx K).CD "facts" "Desk.facts" s_Desk_facts := let ⟨fd, F⟩ := D.def_ 45 (d := d_Desk_facts); ⟨_, fd, F, He.cls_ok (D.fact 114), He.meth_ok (D.fact 117)⟩
  have x_Desk_facts := cal_Desk_facts (P := P) (w := w) (base := base) T h_Desk_facts x_want_within
  have h_items_of : Has (gx K) mg "items_of" s_items_of := let ⟨fd, F⟩ := D.def_ 9 (d := d_items_of); ⟨_, fd, F, He.glo_ok X N (D.fact 9)⟩
  have x_items_of := cal_items_of (P := P) (w := w) (base := base) T h_items_of 
  have h_clashes_of : Has (gx K) mg "clashes_of" s_clashes_of := let ⟨fd, F⟩ := D.def_ 10 (d := d_clashes_of); ⟨_, fd, F, He.glo_ok X N (D.fact 10)⟩
  have x_clashes_of := cal_clashes_of (P := P) (w := w) (base := base) T h_clashes_of 
  have h_Desk_counts : HasM (gx K) (gx K).CD "counts" "Desk.counts" s_Desk_counts := let ⟨fd, F⟩ := D.def_ 65 (d := d_Desk_counts); ⟨_, fd, F, He.cls_ok (D.fact 114), He.meth_ok (D.fact 137)⟩
  have x_Desk_counts := cal_Desk_counts (P := P) (w := w) (base := base) T h_Desk_counts x_Desk_facts x_items_of x_clashes_of
  have h_want_text : Has (gx K) mg "want_text" s_want_text := let ⟨fd, F⟩ := D.def_ 41 (d := d_want_text); ⟨_, fd, F, He.glo_ok X N (D.fact 36)⟩
  have x_want_text := cal_want_text (P := P) (w := w) (base := base) T h_want_text x_want x_is_from
  have h_parted : Has (gx K) mg "parted" s_parted := let ⟨fd, F⟩ := D.def_ 13 (d := d_parted); ⟨_, fd, F, He.glo_ok X N (D.fact 14)⟩
  have x_parted := cal_parted (P := P) (w := w) (base := base) T h_parted 
  have h_need : Has (gx K) mg "need" s_need := let ⟨fd, F⟩ := D.def_ 11 (d := d_need); ⟨_, fd, F, He.glo_ok X N (D.fact 12)⟩
  have x_need := cal_need (P := P) (w := w) (base := base) T h_need 
  have h_codes : Has (gx K) mg "codes" s_codes := let ⟨fd, F⟩ := D.def_ 12 (d := d_codes); ⟨_, fd, F, He.glo_ok X N (D.fact 13)⟩
  have x_codes := cal_codes (P := P) (w := w) (base := base) T h_codes 
  have h_place_among : Has (gx K) mg "place_among" s_place_among := let ⟨fd, F⟩ := D.def_ 17 (d := d_place_among); ⟨_, fd, F, He.glo_ok X N (D.fact 18)⟩
  have x_place_among := cal_place_among (P := P) (w := w) (base := base) T h_place_among x_need x_codes
  have h_values_of : Has (gx K) mg "values_of" s_values_of := let ⟨fd, F⟩ := D.def_ 21 (d := d_values_of); ⟨_, fd, F, He.glo_ok X N (D.fact 22)⟩
  have x_values_of := cal_values_of (P := P) (w := w) (base := base) T h_values_of x_parted x_need x_place_among
  have h_is_right_head : Has (gx K) mg "is_right_head" s_is_right_head := let ⟨fd, F⟩ := D.def_ 1 (d := d_is_right_head); ⟨_, fd, F, He.glo_ok X N (D.fact 1)⟩
  have x_is_right_head := cal_is_right_head (P := P) (w := w) (base := base) T h_is_right_head x_is_from
  have h_is_right : Has (gx K) mg "is_right" s_is_right := let ⟨fd, F⟩ := D.def_ 2 (d := d_is_right); ⟨_, fd, F, He.glo_ok X N (D.fact 2)⟩
  have x_is_right := cal_is_right (P := P) (w := w) (base := base) T h_is_right x_is_right_head x_is_from
  have h_right_fact : Has (gx K) mg "right_fact" s_right_fact := let ⟨fd, F⟩ := D.def_ 18 (d := d_right_fact); ⟨_, fd, F, He.glo_ok X N (D.fact 19)⟩
  have x_right_fact := cal_right_fact (P := P) (w := w) (base := base) T h_right_fact x_need x_is_right
  have h_worth : Has (gx K) mg "worth" s_worth := let ⟨fd, F⟩ := D.def_ 15 (d := d_worth); ⟨_, fd, F, He.glo_ok X N (D.fact 16)⟩
  have x_worth := cal_worth (P := P) (w := w) (base := base) T h_worth 
  have h_are_digits : Has (gx K) mg "are_digits" s_are_digits := let ⟨fd, F⟩ := D.def_ 14 (d := d_are_digits); ⟨_, fd, F, He.glo_ok X N (D.fact 15)⟩
  have x_are_digits := cal_are_digits (P := P) (w := w) (base := base) T h_are_digits 
  have h_plain_number : Has (gx K) mg "plain_number" s_plain_number := let ⟨fd, F⟩ := D.def_ 20 (d := d_plain_number); ⟨_, fd, F, He.glo_ok X N (D.fact 21)⟩
  have x_plain_number := cal_plain_number (P := P) (w := w) (base := base) T h_plain_number x_need x_worth x_are_digits
  have h_read_named : Has (gx K) mg "read_named" s_read_named := let ⟨fd, F⟩ := D.def_ 22 (d := d_read_named); ⟨_, fd, F, He.glo_ok X N (D.fact 23)⟩
  have x_read_named := cal_read_named (P := P) (w := w) (base := base) T h_read_named x_values_of x_need x_right_fact x_plain_number x_place_among x_codes
  have h_number_behind : Has (gx K) mg "number_behind" s_number_behind := let ⟨fd, F⟩ := D.def_ 16 (d := d_number_behind); ⟨_, fd, F, He.glo_ok X N (D.fact 17)⟩
  have x_number_behind := cal_number_behind (P := P) (w := w) (base := base) T h_number_behind x_need x_worth x_are_digits x_codes
  have h_read_worded : Has (gx K) mg "read_worded" s_read_worded := let ⟨fd, F⟩ := D.def_ 19 (d := d_read_worded); ⟨_, fd, F, He.glo_ok X N (D.fact 20)⟩
  have x_read_worded := cal_read_worded (P := P) (w := w) (base := base) T h_read_worded x_parted x_need x_right_fact x_number_behind x_place_among x_codes
  have h_read_line : Has (gx K) mg "read_line" s_read_line := let ⟨fd, F⟩ := D.def_ 23 (d := d_read_line); ⟨_, fd, F, He.glo_ok X N (D.fact 24)⟩
  have x_read_line := cal_read_line (P := P) (w := w) (base := base) T h_read_line x_read_named x_read_worded
  have h_read_facts : Has (gx K) mg "read_facts" s_read_facts := let ⟨fd, F⟩ := D.def_ 24 (d := d_read_facts); ⟨_, fd, F, He.glo_ok X N (D.fact 25)⟩
  have x_read_facts := cal_read_facts (P := P) (w := w) (base := base) T h_read_facts x_parted x_read_line
  have h_Desk_learn : HasM (gx K) (gx K).CD "learn" "Desk.learn" s_Desk_learn := let ⟨fd, F⟩ := D.def_ 47 (d := d_Desk_learn); ⟨_, fd, F, He.cls_ok (D.fact 114), He.meth_ok (D.fact 119)⟩
  have x_Desk_learn := cal_Desk_learn (P := P) (w := w) (base := base) T h_Desk_learn x_want
  have h_Desk_import_text : HasM (gx K) (gx K).CD "import_text" "Desk.import_text" s_Desk_import_text := let ⟨fd, F⟩ := D.def_ 57 (d := d_Desk_import_text); ⟨_, fd, F, He.cls_ok (D.fact 114), He.meth_ok (D.fact 129)⟩
  have x_Desk_import_text := cal_Desk_import_text (P := P) (w := w) (base := base) T h_Desk_import_text x_Desk_facts x_want_within x_want_text x_read_facts x_Desk_learn
  have h_listed : Has (gx K) mg "listed" s_listed := let ⟨fd, F⟩ := D.def_ 42 (d := d_listed); ⟨_, fd, F, He.glo_ok X N (D.fact 37)⟩
  have x_listed := cal_listed (P := P) (w := w) (base := base) T h_listed 
  have h_named : Has (gx K) mg "named" s_named := let ⟨fd, F⟩ := D.def_ 27 (d := d_named); ⟨_, fd, F, He.glo_ok X N (D.fact 28)⟩
  have x_named := cal_named (P := P) (w := w) (base := base) T h_named 
  have h_padded : Has (gx K) mg "padded" s_padded := let ⟨fd, F⟩ := D.def_ 25 (d := d_padded); ⟨_, fd, F, He.glo_ok X N (D.fact 26)⟩
  have x_padded := cal_padded (P := P) (w := w) (base := base) T h_padded 
  have h_worded : Has (gx K) mg "worded" s_worded := let ⟨fd, F⟩ := D.def_ 26 (d := d_worded); ⟨_, fd, F, He.glo_ok X N (D.fact 27)⟩
  have x_worded := cal_worded (P := P) (w := w) (base := base) T h_worded x_padded
  have h_written : Has (gx K) mg "written" s_written := let ⟨fd, F⟩ := D.def_ 28 (d := d_written); ⟨_, fd, F, He.glo_ok X N (D.fact 29)⟩
  have x_written := cal_written (P := P) (w := w) (base := base) T h_written x_codes x_named x_worded
  have h_Desk_convert : HasM (gx K) (gx K).CD "convert" "Desk.convert" s_Desk_convert := let ⟨fd, F⟩ := D.def_ 58 (d := d_Desk_convert); ⟨_, fd, F, He.cls_ok (D.fact 114), He.meth_ok (D.fact 130)⟩
  have x_Desk_convert := cal_Desk_convert (P := P) (w := w) (base := base) T h_Desk_convert x_want_within x_want_text x_read_facts x_listed x_written
  have h_Standing_told : HasM (gx K) (gx K).CS "told" "Standing.told" s_Standing_told := let ⟨fd, F⟩ := D.def_ 36 (d := d_Standing_told); ⟨_, fd, F, He.cls_ok (D.fact 105), He.meth_ok (D.fact 113)⟩
  have x_Standing_told := cal_Standing_told (P := P) (w := w) (base := base) T h_Standing_told 
  have h_Standing_init : HasI (gx K) mg "Standing" (gx K).CS "Standing.__init__" s_Standing_init := let ⟨fd, F⟩ := D.def_ 30 (d := d_Standing_init); ⟨_, fd, F, He.mkr_ok (D.fact 106), He.glo_ok X N (D.fact 31)⟩
  have x_Standing_init := cal_Standing_init (P := P) (w := w) (base := base) T h_Standing_init 
  have h_scans_of : Has (gx K) mg "scans_of" s_scans_of := let ⟨fd, F⟩ := D.def_ 8 (d := d_scans_of); ⟨_, fd, F, He.glo_ok X N (D.fact 8)⟩
  have x_scans_of := cal_scans_of (P := P) (w := w) (base := base) T h_scans_of 
  have h_put_right : Has (gx K) mg "put_right" s_put_right := let ⟨fd, F⟩ := D.def_ 6 (d := d_put_right); ⟨_, fd, F, He.glo_ok X N (D.fact 6)⟩
  have x_put_right := cal_put_right (P := P) (w := w) (base := base) T h_put_right 
  have h_looks_of : Has (gx K) mg "looks_of" s_looks_of := let ⟨fd, F⟩ := D.def_ 5 (d := d_looks_of); ⟨_, fd, F, He.glo_ok X N (D.fact 5)⟩
  have x_looks_of := cal_looks_of (P := P) (w := w) (base := base) T h_looks_of 
  have h_time_of : Has (gx K) mg "time_of" s_time_of := let ⟨fd, F⟩ := D.def_ 7 (d := d_time_of); ⟨_, fd, F, He.glo_ok X N (D.fact 7)⟩
  have x_time_of := cal_time_of (P := P) (w := w) (base := base) T h_time_of x_put_right x_looks_of
  have h_history_of : Has (gx K) mg "history_of" s_history_of := let ⟨fd, F⟩ := D.def_ 29 (d := d_history_of); ⟨_, fd, F, He.glo_ok X N (D.fact 30)⟩
  have x_history_of := cal_history_of (P := P) (w := w) (base := base) T h_history_of x_scans_of x_time_of
  have h_Standing_is_over : HasM (gx K) (gx K).CS "is_over" "Standing.is_over" s_Standing_is_over := let ⟨fd, F⟩ := D.def_ 31 (d := d_Standing_is_over); ⟨_, fd, F, He.cls_ok (D.fact 105), He.meth_ok (D.fact 108)⟩
  have x_Standing_is_over := cal_Standing_is_over (P := P) (w := w) (base := base) T h_Standing_is_over 
  have h_Standing_does_fit : HasM (gx K) (gx K).CS "does_fit" "Standing.does_fit" s_Standing_does_fit := let ⟨fd, F⟩ := D.def_ 32 (d := d_Standing_does_fit); ⟨_, fd, F, He.cls_ok (D.fact 105), He.meth_ok (D.fact 109)⟩
  have x_Standing_does_fit := cal_Standing_does_fit (P := P) (w := w) (base := base) T h_Standing_does_fit 
  have h_wanted : Has (gx K) mg "wanted" s_wanted := let ⟨fd, F⟩ := D.def_ 3 (d := d_wanted); ⟨_, fd, F, He.glo_ok X N (D.fact 3)⟩
  have x_wanted := cal_wanted (P := P) (w := w) (base := base) T h_wanted 
  have h_is_good : Has (gx K) mg "is_good" s_is_good := let ⟨fd, F⟩ := D.def_ 4 (d := d_is_good); ⟨_, fd, F, He.glo_ok X N (D.fact 4)⟩
  have x_is_good := cal_is_good (P := P) (w := w) (base := base) T h_is_good x_wanted
  have h_Standing_is_odd : HasM (gx K) (gx K).CS "is_odd" "Standing.is_odd" s_Standing_is_odd := let ⟨fd, F⟩ := D.def_ 33 (d := d_Standing_is_odd); ⟨_, fd, F, He.cls_ok (D.fact 105), He.meth_ok (D.fact 110)⟩
  have x_Standing_is_odd := cal_Standing_is_odd (P := P) (w := w) (base := base) T h_Standing_is_odd x_Standing_is_over x_Standing_does_fit x_is_good
  have h_Standing_believe : HasM (gx K) (gx K).CS "believe" "Standing.believe" s_Standing_believe := let ⟨fd, F⟩ := D.def_ 34 (d := d_Standing_believe); ⟨_, fd, F, He.cls_ok (D.fact 105), He.meth_ok (D.fact 111)⟩
  have x_Standing_believe := cal_Standing_believe (P := P) (w := w) (base := base) T h_Standing_believe x_is_good
  have h_Standing_go_on : HasM (gx K) (gx K).CS "go_on" "Standing.go_on" s_Standing_go_on := let ⟨fd, F⟩ := D.def_ 35 (d := d_Standing_go_on); ⟨_, fd, F, He.cls_ok (D.fact 105), He.meth_ok (D.fact 112)⟩
  have x_Standing_go_on := cal_Standing_go_on (P := P) (w := w) (base := base) T h_Standing_go_on x_Standing_is_odd x_Standing_is_over x_Standing_believe
  have h_standing_of : Has (gx K) mg "standing_of" s_standing_of := let ⟨fd, F⟩ := D.def_ 37 (d := d_standing_of); ⟨_, fd, F, He.glo_ok X N (D.fact 32)⟩
  have x_standing_of := cal_standing_of (P := P) (w := w) (base := base) T h_standing_of x_Standing_init x_history_of x_Standing_go_on
  have h_Desk_same : HasM (gx K) (gx K).CD "same" "Desk.same" s_Desk_same := let ⟨fd, F⟩ := D.def_ 59 (d := d_Desk_same); ⟨_, fd, F, He.cls_ok (D.fact 114), He.meth_ok (D.fact 131)⟩
  have x_Desk_same := cal_Desk_same (P := P) (w := w) (base := base) T h_Desk_same x_items_of x_Desk_facts x_Standing_told x_standing_of
  have h_Desk_standing : HasM (gx K) (gx K).CD "standing" "Desk.standing" s_Desk_standing := let ⟨fd, F⟩ := D.def_ 50 (d := d_Desk_standing); ⟨_, fd, F, He.cls_ok (D.fact 114), He.meth_ok (D.fact 122)⟩
  have x_Desk_standing := cal_Desk_standing (P := P) (w := w) (base := base) T h_Desk_standing x_Desk_facts x_want_within x_standing_of
  have h_Desk_signed : HasM (gx K) (gx K).CD "signed" "Desk.signed" s_Desk_signed := let ⟨fd, F⟩ := D.def_ 60 (d := d_Desk_signed); ⟨_, fd, F, He.cls_ok (D.fact 114), He.meth_ok (D.fact 132)⟩
  have x_Desk_signed := cal_Desk_signed (P := P) (w := w) (base := base) T h_Desk_signed x_Desk_standing
  have h_Desk_missing : HasM (gx K) (gx K).CD "missing" "Desk.missing" s_Desk_missing := let ⟨fd, F⟩ := D.def_ 61 (d := d_Desk_missing); ⟨_, fd, F, He.cls_ok (D.fact 114), He.meth_ok (D.fact 133)⟩
  have x_Desk_missing := cal_Desk_missing (P := P) (w := w) (base := base) T h_Desk_missing x_Desk_facts x_want_within x_listed
  have h_Desk_at : HasM (gx K) (gx K).CD "at" "Desk.at" s_Desk_at := let ⟨fd, F⟩ := D.def_ 62 (d := d_Desk_at); ⟨_, fd, F, He.cls_ok (D.fact 114), He.meth_ok (D.fact 134)⟩
  have x_Desk_at := cal_Desk_at (P := P) (w := w) (base := base) T h_Desk_at x_Desk_facts x_want_within x_items_of x_standing_of x_listed
  have h_Desk_sign : HasM (gx K) (gx K).CD "sign" "Desk.sign" s_Desk_sign := let ⟨fd, F⟩ := D.def_ 63 (d := d_Desk_sign); ⟨_, fd, F, He.cls_ok (D.fact 114), He.meth_ok (D.fact 135)⟩
  have x_Desk_sign := cal_Desk_sign (P := P) (w := w) (base := base) T h_Desk_sign x_want_within x_wanted
  have h_Desk_differ : HasM (gx K) (gx K).CD "differ" "Desk.differ" s_Desk_differ := let ⟨fd, F⟩ := D.def_ 64 (d := d_Desk_differ); ⟨_, fd, F, He.cls_ok (D.fact 114), He.meth_ok (D.fact 136)⟩
  have x_Desk_differ := cal_Desk_differ (P := P) (w := w) (base := base) T h_Desk_differ x_Desk_facts
  have h_Desk_of_places : HasM (gx K) (gx K).CD "of_places" "Desk.of_places" s_Desk_of_places := let ⟨fd, F⟩ := D.def_ 67 (d := d_Desk_of_places); ⟨_, fd, F, He.cls_ok (D.fact 114), He.meth_ok (D.fact 139)⟩
  have x_Desk_of_places := cal_Desk_of_places (P := P) (w := w) (base := base) T h_Desk_of_places x_Desk_counts x_Desk_import_text x_Desk_convert x_Desk_same x_Desk_signed x_Desk_missing x_Desk_at x_Desk_sign x_Desk_differ
  have h_Desk_export : HasM (gx K) (gx K).CD "export" "Desk.export" s_Desk_export := let ⟨fd, F⟩ := D.def_ 56 (d := d_Desk_export); ⟨_, fd, F, He.cls_ok (D.fact 114), He.meth_ok (D.fact 128)⟩
  have x_Desk_export := cal_Desk_export (P := P) (w := w) (base := base) T h_Desk_export x_Desk_facts x_want_within x_listed x_written
  have h_Desk_clear : HasM (gx K) (gx K).CD "clear" "Desk.clear" s_Desk_clear := let ⟨fd, F⟩ := D.def_ 46 (d := d_Desk_clear); ⟨_, fd, F, He.cls_ok (D.fact 114), He.meth_ok (D.fact 118)⟩
  have x_Desk_clear := cal_Desk_clear (P := P) (w := w) (base := base) T h_Desk_clear 
  have h_Desk_tell : HasM (gx K) (gx K).CD "tell" "Desk.tell" s_Desk_tell := let ⟨fd, F⟩ := D.def_ 48 (d := d_Desk_tell); ⟨_, fd, F, He.cls_ok (D.fact 114), He.meth_ok (D.fact 120)⟩
  have x_Desk_tell := cal_Desk_tell (P := P) (w := w) (base := base) T h_Desk_tell x_Desk_facts x_want x_Desk_learn x_is_right
  have h_Desk_send : HasM (gx K) (gx K).CD "send" "Desk.send" s_Desk_send := let ⟨fd, F⟩ := D.def_ 49 (d := d_Desk_send); ⟨_, fd, F, He.cls_ok (D.fact 114), He.meth_ok (D.fact 121)⟩
  have x_Desk_send := cal_Desk_send (P := P) (w := w) (base := base) T h_Desk_send x_Desk_facts x_want x_want_within x_Desk_learn
  have h_Desk_state_told : HasM (gx K) (gx K).CD "state_told" "Desk.state_told" s_Desk_state_told := let ⟨fd, F⟩ := D.def_ 51 (d := d_Desk_state_told); ⟨_, fd, F, He.cls_ok (D.fact 114), He.meth_ok (D.fact 123)⟩
  have x_Desk_state_told := cal_Desk_state_told (P := P) (w := w) (base := base) T h_Desk_state_told x_Desk_standing
  have h_flat : Has (gx K) mg "flat" s_flat := let ⟨fd, F⟩ := D.def_ 43 (d := d_flat); ⟨_, fd, F, He.glo_ok X N (D.fact 38)⟩
  have x_flat := cal_flat (P := P) (w := w) (base := base) T h_flat 
  have h_Desk_history : HasM (gx K) (gx K).CD "history" "Desk.history" s_Desk_history := let ⟨fd, F⟩ := D.def_ 52 (d := d_Desk_history); ⟨_, fd, F, He.cls_ok (D.fact 114), He.meth_ok (D.fact 124)⟩
  have x_Desk_history := cal_Desk_history (P := P) (w := w) (base := base) T h_Desk_history x_Desk_standing x_history_of x_listed x_Desk_facts x_flat
  have h_Desk_time : HasM (gx K) (gx K).CD "time" "Desk.time" s_Desk_time := let ⟨fd, F⟩ := D.def_ 53 (d := d_Desk_time); ⟨_, fd, F, He.cls_ok (D.fact 114), He.meth_ok (D.fact 125)⟩
  have x_Desk_time := cal_Desk_time (P := P) (w := w) (base := base) T h_Desk_time x_Desk_facts x_want_within x_looks_of x_put_right
  have h_Desk_clashes : HasM (gx K) (gx K).CD "clashes" "Desk.clashes" s_Desk_clashes := let ⟨fd, F⟩ := D.def_ 54 (d := d_Desk_clashes); ⟨_, fd, F, He.cls_ok (D.fact 114), He.meth_ok (D.fact 126)⟩
  have x_Desk_clashes := cal_Desk_clashes (P := P) (w := w) (base := base) T h_Desk_clashes x_clashes_of x_Desk_facts x_listed x_flat
  have h_Desk_since : HasM (gx K) (gx K).CD "since" "Desk.since" s_Desk_since := let ⟨fd, F⟩ := D.def_ 55 (d := d_Desk_since); ⟨_, fd, F, He.cls_ok (D.fact 114), He.meth_ok (D.fact 127)⟩
  have x_Desk_since := cal_Desk_since (P := P) (w := w) (base := base) T h_Desk_since x_Desk_facts x_want_within x_listed x_items_of x_Standing_told x_standing_of
  have h_Desk_of_facts : HasM (gx K) (gx K).CD "of_facts" "Desk.of_facts" s_Desk_of_facts := let ⟨fd, F⟩ := D.def_ 66 (d := d_Desk_of_facts); ⟨_, fd, F, He.cls_ok (D.fact 114), He.meth_ok (D.fact 138)⟩
  have x_Desk_of_facts := cal_Desk_of_facts (P := P) (w := w) (base := base) T h_Desk_of_facts x_Desk_export x_Desk_clear x_Desk_tell x_Desk_send x_Desk_state_told x_Desk_history x_Desk_time x_Desk_clashes x_Desk_since
  have h_Desk_answer : HasM (gx K) (gx K).CD "answer" "Desk.answer" s_Desk_answer := let ⟨fd, F⟩ := D.def_ 68 (d := d_Desk_answer); ⟨_, fd, F, He.cls_ok (D.fact 114), He.meth_ok (D.fact 140)⟩
  have x_Desk_answer := cal_Desk_answer (P := P) (w := w) (base := base) T h_Desk_answer x_Desk_of_places x_Desk_of_facts
  obtain ⟨fd, F⟩ := D.def_ 70 (d := d_answers)
  exact ⟨fd, F, fn_answers T F x_Desk_init x_rows_at x_Desk_answer⟩
end
/-- the promise of the whole, read as the statement asks it -/
theorem asks {K : PySem.W.Frag} {H : Hp} {xs : List V} {ys : PySem.W.Codec.denoteAll RS.args} (hx : DwAll K H xs (PySem.W.Codec.encAll RS.args ys)) (ha : PySem.W.Codec.app RS.args RS.asked ys = true) :
    sp_answers (gx K) xs H (fun v H' => Dw K H' v (RS.ret.enc (PySem.W.Codec.app RS.args RS.f ys))) fun _ _ _ => False := by
  cases hx with
  | cons h1 h2 =>
    cases h2
    cases h1 with
    | lst hs hl =>
      obtain rfl := ints_dw ys.1 _ hl
      exact ⟨_, ys.1, rfl, hs, ha, fun p H' _ hp => .lst (.inl (.inl hp)) (dw_ints _)⟩
theorem fd_one {K : PySem.W.Frag} {x q x' q' : Str} {st st' : Stmt} {f : Addr} {fd fd' : FuncData} (a : Df K x q st f fd) (b : Df K x' q' st' f fd') : fd = fd' := by
  obtain ⟨oc, od, _, _, _, _, _, _, _, osl, _, l1, _⟩ := a.ex
  obtain ⟨oc', od', _, _, _, _, _, _, _, osl', _, l2, _⟩ := b.ex
  rw [l1] at l2
  cases l2
  rfl
open HandSHeadRun PySem.Calls in
theorem walk : PySem.W.WalkOS qv names (PySem.W.XL qv []) hk.says RS (HandSHeadRun.topDef RS.prog 102) [] (fun f vs => PySem.call f vs) := by
  intro w s₀ s₁ mg mb G Y fa0 o pm cd doc dV kV ho hd hcd hD hmg hg args vals as hpre hlay hrd hwl hlo
  obtain ⟨ys, q1, q2⟩ := PySem.W.os_pre_some hpre
  obtain ⟨q3, hwi⟩ := PySem.W.Codec.encAll_of_decAll RS.args args ys q1
  subst q3
  obtain ⟨K, kin, cD, cM⟩ := Y
  have ga0 : mg "answers" = some (.ref (He.ga K "answers")) := He.glo_ok kin G.T.g (cD.fact 41)
  have hmg' : mg "answers" = some (.ref fa0) := hmg
  rw [ga0] at hmg'
  cases hmg'
  obtain ⟨fd, Dfd⟩ : ∃ fd, Df K "answers" "answers" s_answers (He.ga K "answers") fd := cD.def_ 70 (d := d_answers)
  have key : ∀ base : Heap, K.In base → base.Ns mainGlobals mg → FnOk RS.prog w K mg base CX0 11 (He.ga K "answers") fd ["calls"] (sp_answers (gx K)) := fun base k0 n0 => by
    obtain ⟨fd', D', r⟩ := all_of (P := RS.prog) (w := w) (base := base) kin G.T.g cD cM
    have : fd' = fd := fd_one D' Dfd
    rw [← this]
    exact r
  have bnd := FunD.bindsA (ps := ["calls"]) Dfd fun _ _ _ _ _ _ us hl => match us, hl with | [_], _ => rfl
  have run := spec_call (R := []) (cl := classAt s₀.heap) (k := 11) (sp := sp_answers (gx K)) (ps := ["calls"]) (CX := CX0) (d0 := RS.ret.enc (PySem.W.Codec.app RS.args RS.f ys)) kin G.T.g G.T.b G.T.builtins G.T.nolimit hg hwl (pl_encAll _ _) (layable_weight hlay) ⟨rfl, by decide, by decide⟩
    key bnd (by rw [encAll_len]; rfl) (fun H xs _ hS => asks hS q2) fun _ _ _ z => z
  refine PySem.W.enter_call (codeAny_mono run fun r t hr => ?_)
  obtain ⟨u, bs, rfl, r1, r2, r3, r4⟩ := hr
  exact ⟨.inl ⟨u, _, bs, rfl, fun _ => rfl, r1, (PySem.W.OpenSpec.post_iff (r := RS) h_said hwi _ _).mpr rfl, fun z => Bool.noConfusion (show false = true from z)⟩, r2, r3, r4⟩
end Sc
open PySem PySem.W PySem.Calls PyProof.Rows HandSHeadRun
theorem PySem.Challenge.cw_scanplaces_s01_answers_holds : PySem.Challenge.rw_scanplaces_s01_answers.Holds := by
  w_on
  have e : opening Sc.RS.prog = plainProg Sc.RS.prog.main.scope.names := by kernel_rfl
  have f : ∀ s, fenceModules? Sc.RS.prog s = some s := fun s => by kernel_rfl
  have left : LeftO Sc.RS.prog Sc.qv Sc.names (fun s => xlAt Sc.qv [] s && recOk [] s) Sc.hk.obs Sc.hk.val 4600 true :=
    left_one (M := 4000) e (by rfl) f (by rfl) fun w os => by
      have z := Sc.run w os
      rw [show Sc.ob = fun s => Sc.hk.obs s.abs from funext Sc.ob_eq] at z
      simp only [seenQ_eq, endQ_eq]
      exact z
  refine holds_os (r := PySem.Challenge.rw_scanplaces_s01_answers) (q := Sc.qv) (loose := Sc.names) (XP := XL Sc.qv []) (YP := Sc.hk.says) (d := topDef Sc.RS.prog 102) (kwd := []) left Sc.hk.of Sc.hk.keeps
    (fun s z => xl_of s (Bool.and_eq_true_iff.mp z).1) XL.keeps (by kernel_rfl) (by kernel_rfl) (by kernel_rfl) (fun s z => recFacts_of (Bool.and_eq_true_iff.mp z).2) os_shapes Sc.h_said (by decide +kernel) Sc.h_bare ?hw ?hc
  case hw => exact ⟨[.list [.int 0]], by decide +kernel, by decide +kernel⟩
  case hc => exact Sc.walk
