import PyProof.Rows.All
import Wide.All
import OpenK.AllK
import Wide.FinOn
import HandS.ForMost
import HandS.ExcInit
import HandS.ExcField
import KE.KStateDown
import Lean
import HandS.Ends
import HandS.Words
import HandS.WordsExc
import HandS.Head0
import HandS.Head1
import HandS.Head2
import HandS.HeadEnd
import HandS.HeadHook1
import HandS.HeadHook2
import HandS.HeadHook3
import HandS.HeadHook4
import HandS.HeadWalk
import HandS.Exc
import HandS.ExcOwn
import HandS.TupAny
import HandS.Conv
import HandS.Walk
import HandS.Zip
import KE.KDictKeyed
import HandS.Lambda
import HandS.Nested
import HandS.NestedK
import KE.GoesEnum
import HandS.Codes
import HandS.Defaults
import HandS.IsInst
import HandS.Style
import HandS.DictComp
import HandS.Deep
import HandS.Text
import HandS.More
import KE.DataMinMax
import HandS.TupMul
import KE.KDictDisplayH
import HandS.TryMany
import HandS.OwnEq
import PyProof.InstNe
import PySem.Challenge.RW_narrowahead_k13_whole_rules_that_are_lis
section
set_option Elab.async false
set_option linter.all false
set_option maxRecDepth 100000
set_option autoImplicit false
/-! the text's top -/
namespace K13
open PySem PySem.Spec PyProof.Rows L2
def topS (i : Nat) : Stmt := PySem.Challenge.pw_narrowahead_k13_whole_rules_that_are_lis.main.body.getD i (.Pass ⟨0, 0, 0, 0⟩)
/-- a class over object alone whose == is the def at f, without an own != -/
def neB (K : PySem.W.Frag) (C f : Addr) : Bool := match K.lookup C with
  | some ⟨.type "type", _, .cls cd, sl⟩ => (match cd.mro, sl.toList with
    | [.ref C', .type o], [_, _, _, _, some (.builtin n), _] => C' == C && o == "object" && n == "object.__new__" && !cd.hasDel && PySem.W.nsOkIn K cd.ns && PySem.W.nsIn K cd.ns "__eq__" == some (some (.ref f)) && PySem.W.nsIn K cd.ns "__ne__" == some none
    | _, _ => false)
  | _ => false
end K13
end
section
set_option Elab.async false
set_option linter.all false
set_option maxRecDepth 100000
set_option maxHeartbeats 0
/-! the head's run -/
namespace K13H
open PySem PySem.Spec PyProof.Rows L2 K13
def d5_0 : He.DefD := ⟨("TooMany", some "__init__"), "__init__", "TooMany.__init__", defArgs (inClass (topS 5) 0), defBody (inClass (topS 5) 0), defScope (inClass (topS 5) 0), [], []⟩
def d10 : He.DefD := ⟨("is_integer", none), "is_integer", "is_integer", defArgs (topS 10), defBody (topS 10), defScope (topS 10), [], []⟩
def d11 : He.DefD := ⟨("is_within", none), "is_within", "is_within", defArgs (topS 11), defBody (topS 11), defScope (topS 11), [], []⟩
def d12 : He.DefD := ⟨("is_pair", none), "is_pair", "is_pair", defArgs (topS 12), defBody (topS 12), defScope (topS 12), [], []⟩
def d13 : He.DefD := ⟨("is_ascending", none), "is_ascending", "is_ascending", defArgs (topS 13), defBody (topS 13), defScope (topS 13), [], []⟩
def d14 : He.DefD := ⟨("is_marks", none), "is_marks", "is_marks", defArgs (topS 14), defBody (topS 14), defScope (topS 14), [], []⟩
def d15 : He.DefD := ⟨("is_kind", none), "is_kind", "is_kind", defArgs (topS 15), defBody (topS 15), defScope (topS 15), [], []⟩
def d16 : He.DefD := ⟨("is_lot", none), "is_lot", "is_lot", defArgs (topS 16), defBody (topS 16), defScope (topS 16), [], []⟩
def d17 : He.DefD := ⟨("check_same_marks", none), "check_same_marks", "check_same_marks", defArgs (topS 17), defBody (topS 17), defScope (topS 17), [], []⟩
def d19 : He.DefD := ⟨("all_kinds", none), "all_kinds", "all_kinds", defArgs (topS 19), defBody (topS 19), defScope (topS 19), [], []⟩
def d20 : He.DefD := ⟨("shares", none), "shares", "shares", defArgs (topS 20), defBody (topS 20), defScope (topS 20), [], []⟩
def d22 : He.DefD := ⟨("first_no_lot", none), "first_no_lot", "first_no_lot", defArgs (topS 22), defBody (topS 22), defScope (topS 22), [], []⟩
def d23_0 : He.DefD := ⟨("Seats", some "__init__"), "__init__", "Seats.__init__", defArgs (inClass (topS 23) 0), defBody (inClass (topS 23) 0), defScope (inClass (topS 23) 0), [], []⟩
def d23_1 : He.DefD := ⟨("Seats", some "__eq__"), "__eq__", "Seats.__eq__", defArgs (inClass (topS 23) 1), defBody (inClass (topS 23) 1), defScope (inClass (topS 23) 1), [], []⟩
def d25 : He.DefD := ⟨("pairs_of", none), "pairs_of", "pairs_of", defArgs (topS 25), defBody (topS 25), defScope (topS 25), [], []⟩
def d26 : He.DefD := ⟨("heads", none), "heads", "heads", defArgs (topS 26), defBody (topS 26), defScope (topS 26), [], []⟩
def d27 : He.DefD := ⟨("least_of", none), "least_of", "least_of", defArgs (topS 27), defBody (topS 27), defScope (topS 27), [], []⟩
def d28 : He.DefD := ⟨("form", none), "form", "form", defArgs (topS 28), defBody (topS 28), defScope (topS 28), [], []⟩
def d30 : He.DefD := ⟨("first_seat", none), "first_seat", "first_seat", defArgs (topS 30), defBody (topS 30), defScope (topS 30), [], []⟩
def d33 : He.DefD := ⟨("is_stand", none), "is_stand", "is_stand", defArgs (topS 33), defBody (topS 33), defScope (topS 33), [], []⟩
def d34_0 : He.DefD := ⟨("Rule", some "__init__"), "__init__", "Rule.__init__", defArgs (inClass (topS 34) 0), defBody (inClass (topS 34) 0), defScope (inClass (topS 34) 0), [], []⟩
def d35 : He.DefD := ⟨("behind", none), "behind", "behind", defArgs (topS 35), defBody (topS 35), defScope (topS 35), [], []⟩
def d36 : He.DefD := ⟨("rule_of", none), "rule_of", "rule_of", defArgs (topS 36), defBody (topS 36), defScope (topS 36), [], []⟩
def d37 : He.DefD := ⟨("first_stands", none), "first_stands", "first_stands", defArgs (topS 37), defBody (topS 37), defScope (topS 37), [], []⟩
def d38 : He.DefD := ⟨("parting_row", none), "parting_row", "parting_row", defArgs (topS 38), defBody (topS 38), defScope (topS 38), [], []⟩
def d41 : He.DefD := ⟨("counts_at", none), "counts_at", "counts_at", defArgs (topS 41), defBody (topS 41), defScope (topS 41), [], []⟩
def d42 : He.DefD := ⟨("lot_taken", none), "lot_taken", "lot_taken", defArgs (topS 42), defBody (topS 42), defScope (topS 42), [], []⟩
def d43 : He.DefD := ⟨("first_lot", none), "first_lot", "first_lot", defArgs (topS 43), defBody (topS 43), defScope (topS 43), [], []⟩
def d44 : He.DefD := ⟨("candidate", none), "candidate", "candidate", defArgs (topS 44), defBody (topS 44), defScope (topS 44), [], []⟩
def d45 : He.DefD := ⟨("part_of_lots", none), "part_of_lots", "part_of_lots", defArgs (topS 45), defBody (topS 45), defScope (topS 45), [], []⟩
def d46 : He.DefD := ⟨("part_from", none), "part_from", "part_from", defArgs (topS 46), defBody (topS 46), defScope (topS 46), [], []⟩
def d47 : He.DefD := ⟨("list_of", none), "list_of", "list_of", defArgs (topS 47), defBody (topS 47), defScope (topS 47), [], []⟩
def d48 : He.DefD := ⟨("closure", none), "closure", "closure", defArgs (topS 48), defBody (topS 48), defScope (topS 48), [], []⟩
def d49 : He.DefD := ⟨("keeps_away", none), "keeps_away", "keeps_away", defArgs (topS 49), defBody (topS 49), defScope (topS 49), [], []⟩
def d50 : He.DefD := ⟨("never_back", none), "never_back", "never_back", defArgs (topS 50), defBody (topS 50), defScope (topS 50), [], []⟩
def d52 : He.DefD := ⟨("_law_flag", none), "_law_flag", "_law_flag", defArgs (topS 52), defBody (topS 52), defScope (topS 52), [], []⟩
def d53 : He.DefD := ⟨("_law_tape", none), "_law_tape", "_law_tape", defArgs (topS 53), defBody (topS 53), defScope (topS 53), [], []⟩
def d54 : He.DefD := ⟨("_law_pick", none), "_law_pick", "_law_pick", defArgs (topS 54), defBody (topS 54), defScope (topS 54), [], []⟩
def d55 : He.DefD := ⟨("_law_kinds", none), "_law_kinds", "_law_kinds", defArgs (topS 55), defBody (topS 55), defScope (topS 55), [], []⟩
def d57 : He.DefD := ⟨("_law_lot", none), "_law_lot", "_law_lot", defArgs (topS 57), defBody (topS 57), defScope (topS 57), [], []⟩
def d58 : He.DefD := ⟨("_law_lots", none), "_law_lots", "_law_lots", defArgs (topS 58), defBody (topS 58), defScope (topS 58), [], []⟩
def d60 : He.DefD := ⟨("_law_moves", none), "_law_moves", "_law_moves", defArgs (topS 60), defBody (topS 60), defScope (topS 60), [], []⟩
def d62 : He.DefD := ⟨("_law_of_list", none), "_law_of_list", "_law_of_list", defArgs (topS 62), defBody (topS 62), defScope (topS 62), [], []⟩
def d63 : He.DefD := ⟨("_law_part", none), "_law_part", "_law_part", defArgs (topS 63), defBody (topS 63), defScope (topS 63), [], []⟩
def d64 : He.DefD := ⟨("_law_reach", none), "_law_reach", "_law_reach", defArgs (topS 64), defBody (topS 64), defScope (topS 64), [], []⟩
def d65 : He.DefD := ⟨("_law_never_back", none), "_law_never_back", "_law_never_back", defArgs (topS 65), defBody (topS 65), defScope (topS 65), [], []⟩
def d66 : He.DefD := ⟨("_law_some_list", none), "_law_some_list", "_law_some_list", defArgs (topS 66), defBody (topS 66), defScope (topS 66), [], []⟩
def d67 : He.DefD := ⟨("_law_changed", none), "_law_changed", "_law_changed", defArgs (topS 67), defBody (topS 67), defScope (topS 67), [], []⟩
def d68 : He.DefD := ⟨("_law_two_lots", none), "_law_two_lots", "_law_two_lots", defArgs (topS 68), defBody (topS 68), defScope (topS 68), [], []⟩
def d69 : He.DefD := ⟨("_law_too_many", none), "_law_too_many", "_law_too_many", defArgs (topS 69), defBody (topS 69), defScope (topS 69), [], []⟩
def d70 : He.DefD := ⟨("law", none), "law", "law", defArgs (topS 70), defBody (topS 70), defScope (topS 70), [], []⟩
def loose0 : List PySem.Str := ["SeatError", "OtherMarks", "BadSeats", "BadRule", "TooMany", "SMALL", "MOST_MARKS", "MOST_SEATS", "is_integer", "is_within", "is_pair", "is_ascending", "is_marks", "is_kind", "is_lot", "check_same_marks", "all_kinds", "shares", "first_no_lot", "Seats", "pairs_of", "heads", "least_of", "form", "first_seat", "MOST_STANDS", "is_stand", "Rule", "behind", "rule_of"]
def loose1 : List PySem.Str := ["first_stands", "parting_row", "MOST_KNOWN", "counts_at", "lot_taken", "first_lot", "candidate", "part_of_lots", "part_from", "list_of", "closure", "keeps_away", "never_back", "_law_flag", "_law_tape", "_law_pick", "_law_kinds", "_law_marks", "_law_lot", "_law_lots", "_law_row", "_law_moves", "_law_answers", "_law_of_list", "_law_part", "_law_reach", "_law_never_back", "_law_some_list", "_law_changed", "_law_two_lots"]
def loose2 : List PySem.Str := ["_law_too_many"]
def loose : List PySem.Str := loose0 ++ loose1 ++ loose2
def fn0 : List He.DefD := [d5_0, d10, d11, d12, d13, d14, d15, d16, d17, d19, d20, d22, d23_0, d23_1, d25, d26, d27, d28, d30, d33, d34_0, d35, d36, d37, d38, d41, d42, d43, d44, d45]
def fn1 : List He.DefD := [d46, d47, d48, d49, d50, d52, d53, d54, d55, d57, d58, d60, d62, d63, d64, d65, d66, d67, d68, d69, d70]
def fn : List He.DefD := fn0 ++ fn1
def fa0 : List He.Fa := [.glo "OtherMarks", .glo "TooMany", .glo "is_integer", .glo "is_within", .glo "is_pair", .glo "is_ascending", .glo "is_marks", .glo "is_kind", .glo "is_lot", .glo "check_same_marks", .glo "all_kinds", .glo "shares", .glo "first_no_lot", .glo "Seats", .glo "pairs_of", .glo "heads", .glo "least_of", .glo "form", .glo "first_seat", .glo "is_stand", .glo "Rule", .glo "behind", .glo "rule_of", .glo "first_stands", .glo "parting_row", .glo "counts_at", .glo "lot_taken", .glo "first_lot", .glo "candidate", .glo "part_of_lots"]
def fa1 : List He.Fa := [.glo "part_from", .glo "list_of", .glo "closure", .glo "keeps_away", .glo "never_back", .glo "_law_flag", .glo "_law_tape", .glo "_law_pick", .glo "_law_kinds", .glo "_law_lot", .glo "_law_lots", .glo "_law_moves", .glo "_law_of_list", .glo "_law_part", .glo "_law_reach", .glo "_law_never_back", .glo "_law_some_list", .glo "_law_changed", .glo "_law_two_lots", .glo "_law_too_many", .glo "law", .free "len", .free "range", .free "list", .free "tuple", .free "sorted", .free "any", .free "all", .free "isinstance", .free "enumerate"]
def fa2 : List He.Fa := [.free "zip", .free "min", .free "max", .free "int", .free "bool", .free "str", .int "MOST_MARKS" 5, .int "MOST_SEATS" 40, .int "MOST_STANDS" 60, .int "MOST_KNOWN" 12, .str "SMALL" "abcdefghijklmnopqrstuvwxyz", .cls "Seats", .cls "Rule", .noat "Rule" "marks", .noat "Rule" "moves", .noat "Seats" "marks", .noat "Seats" "lots", .noat "TooMany" "most", .mkr "Seats", .mkr "Rule", .meth "Seats" "__eq__", .meth "TooMany" "__init__", .exc "OtherMarks", .exm "TooMany" "TooMany" true, .exm "OtherMarks" "TooMany" false, .exm "OtherMarks" "OtherMarks" true]
def fa : List He.Fa := fa0 ++ fa1 ++ fa2
abbrev R : PySem.W.OpenRow := PySem.W.OpenLaw.row PySem.Challenge.rw_narrowahead_k13_whole_rules_that_are_lis
/-! ### further facts -/
def inB (K : PySem.W.Frag) (C : Addr) : Bool := He.eqO (PySem.W.findIn K (.ref C) "__class__") (some (some (.builtin "object.__class__"))) && (He.eqO (PySem.W.specialIn K (.builtin "object.__class__") "__get__") (some (some (.builtin "getset_descriptor.__get__"))) &&
  (decide (PySem.W.takesIn K (.builtin "object.__class__") = some true) && decide (PySem.W.mroIn K C (.type "object") = some true)))
/-- an own error class with a dict, over ValueError -/
def oexB (K : PySem.W.Frag) (C : Addr) : Bool := (match K.lookup C with
  | some ⟨.type "type", _, .cls cd, sl⟩ => (match cd.mro, sl.toList with
    | .ref C' :: bm, [_, _, _, _, some (.builtin n), _] => C' == C && n == "ValueError.__new__" && !cd.hasDel && cd.hasDict && HandSPX.refsVE bm
    | _, _ => false)
  | _ => false) && (He.eqO (PySem.W.findIn K (.ref C) "__setattr__") (some (some (.builtin "object.__setattr__"))) && (decide (PySem.W.subIn K (.ref C) (.type "BaseException") = some true) && (decide (PySem.W.typeIn K (.ref C) = some (.type "type")) && PySem.W.keepIn K (.ref C))))
theorem oexB_ok {K : PySem.W.Frag} {C : Addr} (h : oexB K C = true) : OexC K C := by
  obtain ⟨h0, h⟩ := He.ba h
  obtain ⟨h1, h⟩ := He.ba h
  obtain ⟨h2, h⟩ := He.ba h
  obtain ⟨h3, h4⟩ := He.ba h
  refine ⟨?_, He.eqO_ok h1, of_decide_eq_true h2, of_decide_eq_true h3, h4⟩
  split at h0
  · rename_i dd cd sl ho
    split at h0
    · rename_i C' bm k0 k1 k2 k3 n k5 hm hs
      simp only [Bool.and_eq_true, beq_iff_eq, Bool.not_eq_true'] at h0
      obtain ⟨⟨⟨⟨rfl, rfl⟩, hdel⟩, hdc⟩, hre⟩ := h0
      obtain ⟨nm, bs, mro, ns, qn, hd, sn, sub, ab, col, del⟩ := cd
      dsimp only at hm hdel hdc
      subst hm hdel hdc
      have hsl : sl = #[k0, k1, k2, k3, some (.builtin "ValueError.__new__"), k5] := by
        obtain ⟨l⟩ := sl
        simp only at hs
        rw [hs]
      subst hsl
      exact ⟨nm, qn, ns, bs, bm, sn, sub, ab, col, dd, k0, k1, k2, k3, k5, ho, hre⟩
    · cases h0
  · cases h0
def ex (K : PySem.W.Frag) : Bool := inB K (He.ga K "Seats") && (oexB K (He.ga K "TooMany") && (xfB K (He.ga K "TooMany") && neB K (He.ga K "Seats") (He.ma K (He.ga K "Seats") "__eq__")))
def tf : List (Str × Option Str) := [("part_of_lots", none)]
abbrev hk : PySem.W.Hook := He.hookX 5 fa fn [] tf ex
def ob (s : PySem.W.SharedT) : He.AlX := He.obsX 5 fa fn [] tf ex (HandSHeadRun.getT s)
theorem ob_eq (s : PySem.W.SharedT) : ob s = hk.obs s.abs := He.obsX_eq (HandSHeadRun.getT_eq s)
theorem run (w : World) : HandSHeadRun.RunEq R (PySem.W.view R.prog [70]) hk ob 4000 loose w := by
  intro os
  kernel_rfl
end K13H
end
section
/-! lists of seats as machines over kind numbers: alike lists, the least one; plain Lean -/
namespace K13
abbrev Lot := List Nat
abbrev Lots := List Lot

def hasK (L : Lots) (k : Nat) : Bool := L.any fun a => decide (k ∈ a)
def stepL : Lots → Nat → Lots
  | [], _ => []
  | a :: r, k => if k ∈ a then r else a :: stepL r k
def firstLot : Lots → Nat → Option Lot
  | [], _ => none
  | a :: r, k => if k ∈ a then some a else firstLot r k
theorem first_cons (a : Lot) (r : Lots) (k : Nat) : firstLot (a :: r) k = if k ∈ a then some a else firstLot r k := rfl
theorem step_cons (a : Lot) (r : Lots) (k : Nat) : stepL (a :: r) k = if k ∈ a then r else a :: stepL r k := rfl
def ansL : Lots → List Nat → List Bool
  | _, [] => []
  | L, k :: w => hasK L k :: ansL (stepL L k) w
def Apart (a b : Lot) : Prop := ∀ k, k ∈ a → k ∉ b
theorem Apart.symm {a b : Lot} (h : Apart a b) : Apart b a := fun k h1 h2 => h k h2 h1
inductive Alike : Lots → Lots → Prop
  | refl (L : Lots) : Alike L L
  | cons (a : Lot) {L M : Lots} : Alike L M → Alike (a :: L) (a :: M)
  | swap {a b : Lot} (L : Lots) : Apart a b → Alike (a :: b :: L) (b :: a :: L)
  | trans {L M N : Lots} : Alike L M → Alike M N → Alike L N
theorem Alike.symm {L M : Lots} (h : Alike L M) : Alike M L := by
  induction h with
  | refl L => exact .refl L
  | cons a _ ih => exact .cons a ih
  | swap L h => exact .swap L h.symm
  | trans _ _ ih1 ih2 => exact .trans ih2 ih1
theorem Alike.perm {L M : Lots} (h : Alike L M) : L.Perm M := by
  induction h with
  | refl L => exact List.Perm.refl L
  | cons a _ ih => exact ih.cons a
  | swap L h => exact List.Perm.swap _ _ _
  | trans _ _ ih1 ih2 => exact ih1.trans ih2
theorem hasK_first (L : Lots) (k : Nat) : hasK L k = (firstLot L k).isSome := by
  induction L with
  | nil => rfl
  | cons a r ih =>
    show (decide (k ∈ a) || hasK r k) = _
    rw [ih, first_cons]
    by_cases h : k ∈ a
    · simp [h]
    · rw [if_neg h, decide_eq_false h, Bool.false_or]
theorem hasK_iff {L : Lots} {k : Nat} : hasK L k = true ↔ ∃ a ∈ L, k ∈ a := by
  unfold hasK
  simp
theorem first_mem {L : Lots} {k : Nat} {a : Lot} (h : firstLot L k = some a) : a ∈ L ∧ k ∈ a := by
  induction L with
  | nil => cases h
  | cons b r ih =>
    rw [first_cons] at h
    by_cases hk : k ∈ b
    · rw [if_pos hk] at h
      cases h
      exact ⟨List.mem_cons_self, hk⟩
    · rw [if_neg hk] at h
      exact ⟨List.mem_cons_of_mem _ (ih h).1, (ih h).2⟩
theorem step_no {L : Lots} {k : Nat} (h : hasK L k = false) : stepL L k = L := by
  induction L with
  | nil => rfl
  | cons a r ih =>
    have h1 : k ∉ a := fun hk => by
      have : hasK (a :: r) k = true := hasK_iff.mpr ⟨a, List.mem_cons_self, hk⟩
      rw [h] at this
      cases this
    have h2 : hasK r k = false := by
      cases e : hasK r k with
      | false => rfl
      | true =>
        obtain ⟨b, hb, hk⟩ := hasK_iff.mp e
        have : hasK (a :: r) k = true := hasK_iff.mpr ⟨b, List.mem_cons_of_mem _ hb, hk⟩
        rw [h] at this
        cases this
    rw [step_cons]
    rw [if_neg h1, ih h2]
theorem step_len {L : Lots} {k : Nat} (h : hasK L k = true) : (stepL L k).length + 1 = L.length := by
  induction L with
  | nil => cases h
  | cons a r ih =>
    rw [step_cons]
    by_cases hk : k ∈ a
    · rw [if_pos hk, List.length_cons]
    · rw [if_neg hk, List.length_cons, List.length_cons]
      have h2 : hasK r k = true := by
        obtain ⟨b, hb, hb2⟩ := hasK_iff.mp h
        rcases List.mem_cons.mp hb with e | hb
        · subst e
          exact absurd hb2 hk
        · exact hasK_iff.mpr ⟨b, hb, hb2⟩
      rw [ih h2]
theorem step_sub (L : Lots) (k : Nat) : (stepL L k).Sublist L := by
  induction L with
  | nil => exact List.Sublist.refl _
  | cons a r ih =>
    rw [step_cons]
    by_cases hk : k ∈ a
    · rw [if_pos hk]
      exact List.sublist_cons_self a r
    · rw [if_neg hk]
      exact ih.cons₂ a
/-- like lists take the same comer, from seats of the same lot, and leave like lists -/
theorem Alike.step {L M : Lots} (h : Alike L M) (k : Nat) : firstLot L k = firstLot M k ∧ Alike (stepL L k) (stepL M k) := by
  induction h with
  | refl L => exact ⟨rfl, .refl _⟩
  | cons a h ih =>
    rw [first_cons, first_cons, step_cons, step_cons]
    by_cases hk : k ∈ a
    · rw [if_pos hk, if_pos hk, if_pos hk, if_pos hk]
      exact ⟨rfl, h⟩
    · rw [if_neg hk, if_neg hk, if_neg hk, if_neg hk]
      exact ⟨ih.1, .cons a ih.2⟩
  | @swap a b L h =>
    simp only [firstLot, stepL]
    by_cases ha : k ∈ a
    · have hb : k ∉ b := h k ha
      simp only [ha, hb, if_true, if_false]
      exact ⟨trivial, .refl _⟩
    · by_cases hb : k ∈ b
      · simp only [ha, hb, if_true, if_false]
        exact ⟨trivial, .refl _⟩
      · simp only [ha, hb, if_false]
        exact ⟨trivial, .swap _ h⟩
  | trans _ _ ih1 ih2 => exact ⟨ih1.1.trans ih2.1, .trans ih1.2 ih2.2⟩
theorem Alike.has {L M : Lots} (h : Alike L M) (k : Nat) : hasK L k = hasK M k := by
  rw [hasK_first, hasK_first, (h.step k).1]
theorem Alike.ans {L M : Lots} (h : Alike L M) (w : List Nat) : ansL L w = ansL M w := by
  induction w generalizing L M with
  | nil => rfl
  | cons k w ih =>
    show hasK L k :: ansL (stepL L k) w = hasK M k :: ansL (stepL M k) w
    rw [h.has k, ih (h.step k).2]

/-! ### the order of lots -/
def lexB : List Nat → List Nat → Bool
  | [], [] => false
  | [], _ :: _ => true
  | _ :: _, [] => false
  | a :: l, b :: m => decide (a < b) || (decide (a = b) && lexB l m)
theorem lexB_irr : ∀ l : List Nat, lexB l l = false
  | [] => rfl
  | a :: l => by
    unfold lexB
    rw [lexB_irr l]
    simp
theorem lexB_trans : ∀ {l m n : List Nat}, lexB l m = true → lexB m n = true → lexB l n = true
  | [], [], _, h, _ => by cases h
  | [], _ :: _, [], _, h => by cases h
  | [], _ :: _, _ :: _, _, _ => rfl
  | _ :: _, [], _, h, _ => by cases h
  | _ :: _, _ :: _, [], _, h => by cases h
  | a :: l, b :: m, c :: n, h1, h2 => by
    unfold lexB at *
    simp only [Bool.or_eq_true, Bool.and_eq_true, decide_eq_true_eq] at *
    rcases h1 with h1 | ⟨h1, h1'⟩
    · rcases h2 with h2 | ⟨h2, _⟩
      · exact .inl (by omega)
      · exact .inl (by omega)
    · rcases h2 with h2 | ⟨h2, h2'⟩
      · exact .inl (by omega)
      · exact .inr ⟨by omega, lexB_trans h1' h2'⟩
theorem lexB_tri : ∀ l m : List Nat, lexB l m = true ∨ l = m ∨ lexB m l = true
  | [], [] => .inr (.inl rfl)
  | [], _ :: _ => .inl rfl
  | _ :: _, [] => .inr (.inr rfl)
  | a :: l, b :: m => by
    unfold lexB
    simp only [Bool.or_eq_true, Bool.and_eq_true, decide_eq_true_eq]
    rcases Nat.lt_trichotomy a b with h | h | h
    · exact .inl (.inl h)
    · rcases lexB_tri l m with q | q | q
      · exact .inl (.inr ⟨h, q⟩)
      · exact .inr (.inl (by rw [h, q]))
      · exact .inr (.inr (.inr ⟨h.symm, q⟩))
    · exact .inr (.inr (.inl h))
theorem lexB_asym {l m : List Nat} (h : lexB l m = true) : lexB m l = false := by
  cases e : lexB m l with
  | false => rfl
  | true =>
    have q := lexB_trans h e
    rw [lexB_irr] at q
    cases q
/-- a is the least of the members of S -/
def Least (S : Lot → Prop) (a : Lot) : Prop := S a ∧ ∀ b, S b → lexB b a = false
theorem Least.uniq {S : Lot → Prop} {a b : Lot} (h1 : Least S a) (h2 : Least S b) : a = b := by
  rcases lexB_tri a b with q | q | q
  · rw [h2.2 a h1.1] at q
    cases q
  · exact q
  · rw [h1.2 b h2.1] at q
    cases q
def minOf : Lot → List Lot → Lot
  | a, [] => a
  | a, b :: r => minOf (if lexB b a then b else a) r
theorem minOf_spec : ∀ (r : List Lot) (a : Lot), minOf a r ∈ a :: r ∧ ∀ b ∈ a :: r, lexB b (minOf a r) = false
  | [], a => ⟨List.mem_cons_self, fun b hb => by
      rcases List.mem_cons.mp hb with e | hb
      · subst e
        exact lexB_irr _
      · cases hb⟩
  | c :: r, a => by
    have ih := minOf_spec r (if lexB c a then c else a)
    unfold minOf
    have le : ∀ x, lexB x (if lexB c a then c else a) = false → lexB x (minOf (if lexB c a then c else a) r) = true → False := fun x h1 h2 => by
      have h3 := ih.2 _ List.mem_cons_self
      rcases lexB_tri x (if lexB c a then c else a) with q | q | q
      · rw [h1] at q
        cases q
      · rw [q] at h2
        rw [h3] at h2
        cases h2
      · have q2 := lexB_trans q h2
        rw [h3] at q2
        cases q2
    refine ⟨?_, fun b hb => ?_⟩
    · rcases List.mem_cons.mp ih.1 with e | e
      · rw [e]
        by_cases h : lexB c a = true
        · rw [if_pos h]
          exact List.mem_cons_of_mem _ List.mem_cons_self
        · rw [if_neg h]
          exact List.mem_cons_self
      · exact List.mem_cons_of_mem _ (List.mem_cons_of_mem _ e)
    · cases e : lexB b (minOf (if lexB c a then c else a) r) with
      | false => rfl
      | true =>
        refine absurd e fun e => ?_
        rcases List.mem_cons.mp hb with q | hb
        · subst q
          refine le b ?_ e
          by_cases h : lexB c b = true
          · rw [if_pos h]
            exact lexB_asym h
          · rw [if_neg h]
            exact lexB_irr _
        · rcases List.mem_cons.mp hb with q | hb
          · subst q
            refine le b ?_ e
            by_cases h : lexB b a = true
            · rw [if_pos h]
              exact lexB_irr _
            · rw [if_neg h]
              simpa using h
          · have q := ih.2 b (List.mem_cons_of_mem _ hb)
            rw [q] at e
            cases e
theorem minOf_least {S : Lot → Prop} {a : Lot} {r : List Lot} (h : ∀ b, S b ↔ b ∈ a :: r) : Least S (minOf a r) :=
  ⟨(h _).mpr (minOf_spec r a).1, fun b hb => (minOf_spec r a).2 b ((h b).mp hb)⟩

/-! ### heads -/
/-- a stands in L with nobody ahead of it whom it shares somebody with -/
def Head (L : Lots) (a : Lot) : Prop := a ∈ L ∧ ∀ j ∈ a, firstLot L j = some a
def headB (L : Lots) (a : Lot) : Bool := a.all fun j => decide (firstLot L j = some a)
theorem headB_iff {L : Lots} {a : Lot} (h : a ∈ L) : headB L a = true ↔ Head L a := by
  unfold headB Head
  simp [h]
theorem Alike.head {L M : Lots} (h : Alike L M) {a : Lot} : Head L a ↔ Head M a := by
  unfold Head
  have e : ∀ j, firstLot L j = firstLot M j := fun j => (h.step j).1
  constructor
  · intro ⟨h1, h2⟩
    exact ⟨h.perm.mem_iff.mp h1, fun j hj => by rw [← e]; exact h2 j hj⟩
  · intro ⟨h1, h2⟩
    exact ⟨h.perm.mem_iff.mpr h1, fun j hj => by rw [e]; exact h2 j hj⟩
theorem step_erase {L : Lots} {k : Nat} {a : Lot} (h : firstLot L k = some a) : stepL L k = L.erase a := by
  induction L with
  | nil => cases h
  | cons b r ih =>
    have hka := (first_mem h).2
    rw [first_cons] at h
    rw [step_cons]
    by_cases hk : k ∈ b
    · rw [if_pos hk] at h ⊢
      cases h
      rw [List.erase_cons_head]
    · rw [if_neg hk] at h ⊢
      have ne : ¬ (b == a) = true := fun e => by
        have e : b = a := by simpa using e
        rw [e] at hk
        exact hk hka
      rw [List.erase_cons_tail ne, ih h]
theorem Head.front {L : Lots} {a : Lot} (h : Head L a) : Alike L (a :: L.erase a) := by
  induction L with
  | nil => cases h.1
  | cons b r ih =>
    by_cases e : b = a
    · subst e
      rw [List.erase_cons_head]
      exact .refl _
    · have ne : ¬ (b == a) = true := by simpa using e
      have ap : Apart b a := fun j hj1 hj2 => by
        have q := h.2 j hj2
        rw [first_cons] at q
        rw [if_pos hj1] at q
        exact e (Option.some.inj q)
      have hr : Head r a := ⟨(List.mem_cons.mp h.1).resolve_left (fun z => e z.symm), fun j hj => by
        have q := h.2 j hj
        rw [first_cons] at q
        rw [if_neg (ap.symm j hj)] at q
        exact q⟩
      rw [List.erase_cons_tail ne]
      exact (Alike.cons b (ih hr)).trans (.swap _ ap)
/-! ### the least list -/
def Full (L : Lots) : Prop := ∀ a ∈ L, a ≠ []
theorem Full.erase {L : Lots} (h : Full L) (a : Lot) : Full (L.erase a) := fun b hb => h b (List.mem_of_mem_erase hb)
def minHead (L : Lots) : Option Lot := match L.filter (headB L) with
  | [] => none
  | a :: r => some (minOf a r)
theorem head_first {a : Lot} {r : Lots} : Head (a :: r) a := ⟨List.mem_cons_self, fun j hj => by
  rw [first_cons, if_pos hj]⟩
theorem minHead_some {a : Lot} {r : Lots} : ∃ b, minHead (a :: r) = some b ∧ Least (Head (a :: r)) b := by
  have hm : a ∈ (a :: r).filter (headB (a :: r)) := List.mem_filter.mpr ⟨List.mem_cons_self, (headB_iff List.mem_cons_self).mpr head_first⟩
  unfold minHead
  cases e : (a :: r).filter (headB (a :: r)) with
  | nil =>
    rw [e] at hm
    cases hm
  | cons c s =>
    refine ⟨minOf c s, rfl, minOf_least fun b => ?_⟩
    rw [← e, List.mem_filter]
    constructor
    · intro hb
      exact ⟨hb.1, (headB_iff hb.1).mpr hb⟩
    · intro ⟨h1, h2⟩
      exact (headB_iff h1).mp h2
theorem minHead_head {L : Lots} {b : Lot} (h : minHead L = some b) : Least (Head L) b := by
  cases L with
  | nil => cases h
  | cons a r =>
    obtain ⟨c, h1, h2⟩ := minHead_some (a := a) (r := r)
    rw [h1] at h
    cases h
    exact h2
def leastN : Nat → Lots → Lots
  | 0, _ => []
  | n + 1, L => match minHead L with
    | none => []
    | some a => a :: leastN n (L.erase a)
def leastOf (L : Lots) : Lots := leastN L.length L
theorem least_nil : leastOf [] = [] := rfl
theorem least_cons {L : Lots} {a : Lot} (h : minHead L = some a) : leastOf L = a :: leastOf (L.erase a) := by
  have hm := (minHead_head h).1.1
  have e : L.length = (L.erase a).length + 1 := by
    have h1 := List.length_erase_of_mem hm
    have h2 : 0 < L.length := List.length_pos_of_mem hm
    omega
  unfold leastOf
  rw [e]
  unfold leastN
  rw [h]
  show a :: leastN (L.erase a).length (L.erase a) = _
  cases (L.erase a).length <;> rfl
theorem least_alike : ∀ (n : Nat) (L : Lots), L.length = n → Alike L (leastOf L)
  | 0, L, h => by
    have e : L = [] := List.length_eq_zero_iff.mp h
    subst e
    exact .refl _
  | n + 1, L, h => by
    cases L with
    | nil => cases h
    | cons b r =>
      obtain ⟨a, h1, h2⟩ := minHead_some (a := b) (r := r)
      rw [least_cons h1]
      have hl : ((b :: r).erase a).length = n := by
        rw [List.length_erase_of_mem h2.1.1, h]
        rfl
      exact (h2.1.front).trans (.cons a (least_alike n _ hl))
theorem alike_least (L : Lots) : Alike L (leastOf L) := least_alike _ L rfl
theorem least_uniq : ∀ (n : Nat) (L M : Lots), L.length = n → Full L → Alike L M → leastOf L = leastOf M
  | 0, L, M, h, _, hA => by
    have e : L = [] := List.length_eq_zero_iff.mp h
    subst e
    have e2 : M = [] := by
      have q := hA.perm.length_eq
      exact List.length_eq_zero_iff.mp (by rw [← q]; rfl)
    rw [e2]
  | n + 1, L, M, h, hF, hA => by
    cases L with
    | nil => cases h
    | cons b r =>
      cases M with
      | nil =>
        have q := hA.perm.length_eq
        cases q
      | cons c s =>
        obtain ⟨a, h1, h2⟩ := minHead_some (a := b) (r := r)
        obtain ⟨a', h1', h2'⟩ := minHead_some (a := c) (r := s)
        have e : a = a' := Least.uniq h2 ⟨hA.head.mpr h2'.1, fun x hx => h2'.2 x (hA.head.mp hx)⟩
        subst e
        rw [least_cons h1, least_cons h1']
        have hl : ((b :: r).erase a).length = n := by
          rw [List.length_erase_of_mem h2.1.1, h]
          rfl
        obtain ⟨j, hj⟩ : ∃ j, j ∈ a := by
          cases a with
          | nil => exact absurd rfl (hF _ h2.1.1)
          | cons j _ => exact ⟨j, List.mem_cons_self⟩
        have st := (hA.step j).2
        rw [step_erase (h2.1.2 j hj), step_erase (h2'.1.2 j hj)] at st
        rw [least_uniq n _ _ hl (hF.erase a) st]
theorem Alike.least {L M : Lots} (h : Alike L M) (hF : Full L) : leastOf L = leastOf M := least_uniq _ L M rfl hF h
theorem Full.alike {L M : Lots} (h : Full L) (hA : Alike L M) : Full M := fun a ha => h a (hA.perm.mem_iff.mpr ha)
theorem least_idem {L : Lots} (h : Full L) : leastOf (leastOf L) = leastOf L := ((alike_least L).least h).symm
theorem least_len (L : Lots) : (leastOf L).length = L.length := (alike_least L).perm.length_eq.symm
theorem Full.step {L : Lots} (h : Full L) (k : Nat) : Full (stepL L k) := fun a ha => h a ((step_sub L k).subset ha)
theorem Full.least {L : Lots} (h : Full L) : Full (leastOf L) := h.alike (alike_least L)
/-- the least list behind a comer, from the least list, is the least list behind the comer -/
theorem least_step {L : Lots} (h : Full L) (k : Nat) : leastOf (stepL (leastOf L) k) = leastOf (stepL L k) :=
  (((alike_least L).step k).2.least (h.step k)).symm
end K13
end
section
/-! rules, and the list that a rule's answers tell; plain Lean -/
namespace K13
abbrev Moves := List (List (Bool × Nat))
def mvR (M : Moves) (s k : Nat) : Bool × Nat := (M.getD s []).getD k (false, 0)
structure RuleOk (M : Moves) (m : Nat) : Prop where
  pos : 0 < M.length
  row : ∀ r ∈ M, r.length = m ∧ ∀ p ∈ r, p.2 < M.length
theorem RuleOk.next {M : Moves} {m s k : Nat} (h : RuleOk M m) : (mvR M s k).2 < M.length := by
  unfold mvR
  by_cases hs : s < M.length
  · rw [List.getD_eq_getElem?_getD, List.getD_eq_getElem?_getD, List.getElem?_eq_getElem hs]
    show ((M[s])[k]?.getD (false, 0)).2 < _
    have q := h.row M[s] (List.getElem_mem hs)
    by_cases hk : k < (M[s]).length
    · rw [List.getElem?_eq_getElem hk]
      exact q.2 _ (List.getElem_mem hk)
    · rw [List.getElem?_eq_none (by omega)]
      exact h.pos
  · rw [List.getD_eq_getElem?_getD, List.getD_eq_getElem?_getD, List.getElem?_eq_none (l := M) (by omega)]
    exact h.pos
def ansR (M : Moves) : Nat → List Nat → List Bool
  | _, [] => []
  | s, k :: w => (mvR M s k).1 :: ansR M (mvR M s k).2 w
def Sim (M : Moves) (m s : Nat) (L : Lots) : Prop := ∀ w : List Nat, (∀ k ∈ w, k < m) → ansR M s w = ansL L w
section
variable {M : Moves} {m s k : Nat} {L : Lots}
theorem Sim.flag (h : Sim M m s L) (hk : k < m) : (mvR M s k).1 = hasK L k := by
  have q := h [k] (by simpa using hk)
  have q2 : [(mvR M s k).1] = [hasK L k] := q
  exact List.head_eq_of_cons_eq q2
theorem Sim.step (h : Sim M m s L) (hk : k < m) : Sim M m (mvR M s k).2 (stepL L k) := fun w hw => by
  have q := h (k :: w) (fun j hj => (List.mem_cons.mp hj).elim (fun e => by rw [e]; exact hk) (hw j))
  have q2 : (mvR M s k).1 :: ansR M (mvR M s k).2 w = hasK L k :: ansL (stepL L k) w := q
  exact List.tail_eq_of_cons_eq q2
theorem Sim.alike {L' : Lots} (h : Sim M m s L) (a : Alike L L') : Sim M m s L' := fun w hw => (h w hw).trans (a.ans w)
theorem Sim.of (R : Nat → Lots → Prop) (h : ∀ s L, R s L → ∀ k, k < m → (mvR M s k).1 = hasK L k ∧ R (mvR M s k).2 (stepL L k)) (h0 : R s L) : Sim M m s L := by
  intro w
  induction w generalizing s L with
  | nil => intro _; rfl
  | cons k w ih =>
    intro hw
    obtain ⟨h1, h2⟩ := h s L h0 k (hw k List.mem_cons_self)
    show (mvR M s k).1 :: ansR M (mvR M s k).2 w = hasK L k :: ansL (stepL L k) w
    rw [h1, ih h2 fun j hj => hw j (List.mem_cons_of_mem _ hj)]
end
def ValidLot (m : Nat) (a : Lot) : Prop := a ≠ [] ∧ a.Pairwise (· < ·) ∧ ∀ j ∈ a, j < m
def ValidL (m : Nat) (L : Lots) : Prop := ∀ a ∈ L, ValidLot m a
section
variable {m : Nat} {L L' : Lots}
theorem ValidL.full (h : ValidL m L) : Full L := fun a ha => (h a ha).1
theorem ValidL.sub (h : ValidL m L) (s : L'.Sublist L) : ValidL m L' := fun a ha => h a (s.subset ha)
theorem ValidL.step (h : ValidL m L) (k : Nat) : ValidL m (stepL L k) := h.sub (step_sub L k)
theorem ValidL.alike (h : ValidL m L) (a : Alike L L') : ValidL m L' := fun x hx => h x (a.perm.mem_iff.mpr hx)
theorem ValidL.least (h : ValidL m L) : ValidL m (leastOf L) := h.alike (alike_least L)
/-- lists that answer alike have as many seats -/
theorem len_of_ans : ∀ (n : Nat) (L L' : Lots), L.length = n → ValidL m L → ValidL m L' → (∀ w : List Nat, (∀ k ∈ w, k < m) → ansL L w = ansL L' w) → L.length = L'.length
  | 0, L, L', hn, _, h2, ha => by
    have e : L = [] := List.length_eq_zero_iff.mp hn
    subst e
    cases L' with
    | nil => rfl
    | cons a r =>
      obtain ⟨n1, _, n3⟩ := h2 a List.mem_cons_self
      obtain ⟨j, hj⟩ : ∃ j, j ∈ a := by
        cases a with
        | nil => exact absurd rfl n1
        | cons j _ => exact ⟨j, List.mem_cons_self⟩
      have q := ha [j] (by simpa using n3 j hj)
      have q2 : [hasK [] j] = [hasK (a :: r) j] := q
      have q3 : hasK (a :: r) j = true := hasK_iff.mpr ⟨a, List.mem_cons_self, hj⟩
      rw [q3] at q2
      cases q2
  | n + 1, L, L', hn, h1, h2, ha => by
    cases L with
    | nil => cases hn
    | cons a r =>
      obtain ⟨n1, _, n3⟩ := h1 a List.mem_cons_self
      obtain ⟨j, hj⟩ : ∃ j, j ∈ a := by
        cases a with
        | nil => exact absurd rfl n1
        | cons j _ => exact ⟨j, List.mem_cons_self⟩
      have hjm := n3 j hj
      have q3 : hasK (a :: r) j = true := hasK_iff.mpr ⟨a, List.mem_cons_self, hj⟩
      have q : [hasK (a :: r) j] = [hasK L' j] := ha [j] (by simpa using hjm)
      have q4 : hasK L' j = true := by
        rw [q3] at q
        exact (List.head_eq_of_cons_eq q).symm
      have l1 := step_len q3
      have l2 := step_len q4
      have ih := len_of_ans n (stepL (a :: r) j) (stepL L' j) (by omega) (h1.step j) (h2.step j) fun w hw => by
        have z : hasK (a :: r) j :: ansL (stepL (a :: r) j) w = hasK L' j :: ansL (stepL L' j) w := ha (j :: w) (fun i hi => (List.mem_cons.mp hi).elim (fun e => by rw [e]; exact hjm) (hw i))
        exact List.tail_eq_of_cons_eq z
      omega
end
/-! ### counts -/
def countK (L : Lots) (k : Nat) : Nat := L.countP fun a => decide (k ∈ a)
theorem countK_cons (a : Lot) (r : Lots) (k : Nat) : countK (a :: r) k = countK r k + if k ∈ a then 1 else 0 := by
  unfold countK
  rw [List.countP_cons]
  by_cases h : k ∈ a <;> simp [h]
theorem countK_pos {L : Lots} {k : Nat} : 0 < countK L k ↔ hasK L k = true := by
  unfold countK hasK
  rw [List.countP_pos_iff, List.any_eq_true]
theorem countK_zero {L : Lots} {k : Nat} (h : hasK L k = false) : countK L k = 0 := by
  cases e : countK L k with
  | zero => rfl
  | succ n =>
    have q : 0 < countK L k := by omega
    rw [countK_pos, h] at q
    cases q
theorem countK_le (L : Lots) (k : Nat) : countK L k ≤ L.length := List.countP_le_length
theorem count_step {L : Lots} {k : Nat} {a : Lot} (h : firstLot L k = some a) (j : Nat) : countK (stepL L k) j + (if j ∈ a then 1 else 0) = countK L j := by
  induction L with
  | nil => cases h
  | cons b r ih =>
    rw [first_cons] at h
    rw [step_cons]
    by_cases hk : k ∈ b
    · rw [if_pos hk] at h ⊢
      cases h
      rw [countK_cons]
    · rw [if_neg hk] at h ⊢
      rw [countK_cons, countK_cons, ← ih h]
      omega
def cnt (M : Moves) (k : Nat) : Nat → Nat → Option Nat
  | 0, _ => none
  | f + 1, s => if (mvR M s k).1 then (cnt M k f (mvR M s k).2).map (· + 1) else some 0
theorem cnt_sim {M : Moves} {m k : Nat} (hk : k < m) : ∀ (f s : Nat) (L : Lots), Sim M m s L → cnt M k f s = if countK L k < f then some (countK L k) else none
  | 0, _, _, _ => by
    rw [if_neg (by omega)]
    rfl
  | f + 1, s, L, h => by
    unfold cnt
    rw [h.flag hk]
    cases e : hasK L k with
    | false =>
      rw [countK_zero e]
      simp
    | true =>
      obtain ⟨a, ha⟩ : ∃ a, firstLot L k = some a := by
        rw [hasK_first] at e
        exact Option.isSome_iff_exists.mp e
      have q := count_step ha k
      rw [if_pos (first_mem ha).2] at q
      rw [if_pos rfl, cnt_sim hk f _ _ (h.step hk), ← q]
      by_cases c : countK (stepL L k) k < f
      · rw [if_pos c, if_pos (by omega)]
        rfl
      · rw [if_neg c, if_neg (by omega)]
        rfl
def countsAt (M : Moves) (m s : Nat) : Option (List Nat) := if (List.range m).all (fun k => (cnt M k 13 s).isSome) then some ((List.range m).map fun k => (cnt M k 13 s).getD 0) else none
theorem counts_sim {M : Moves} {m s : Nat} {L : Lots} (h : Sim M m s L) (hl : L.length ≤ 12) : countsAt M m s = some ((List.range m).map (countK L)) := by
  have q : ∀ k, k < m → cnt M k 13 s = some (countK L k) := fun k hk => by
    rw [cnt_sim hk 13 s L h, if_pos (by have := countK_le L k; omega)]
  unfold countsAt
  rw [if_pos (List.all_eq_true.mpr fun k hk => by rw [q k (List.mem_range.mp hk)]; rfl)]
  congr 1
  refine List.map_congr_left fun k hk => ?_
  rw [q k (List.mem_range.mp hk)]
  rfl
theorem range_getD {α : Type} (f : Nat → α) (d : α) {m j : Nat} (h : j < m) : ((List.range m).map f).getD j d = f j := by
  rw [List.getD_eq_getElem?_getD, List.getElem?_map, List.getElem?_range h]
  rfl
def oddOne (m : Nat) (counts later : List Nat) : Bool := (List.range m).any fun j => !(decide (later.getD j 0 = counts.getD j 0) || decide (later.getD j 0 + 1 = counts.getD j 0))
def lessOnes (m : Nat) (counts later : List Nat) : Lot := (List.range m).filter fun j => decide (later.getD j 0 + 1 = counts.getD j 0)
def lotTaken (M : Moves) (m s k : Nat) (counts : List Nat) : Option Lot := match countsAt M m (mvR M s k).2 with
  | none => none
  | some later => if oddOne m counts later then none else some (lessOnes m counts later)
theorem filter_range {m : Nat} {a : Lot} (h : a.Pairwise (· < ·)) (hm : ∀ j ∈ a, j < m) : (List.range m).filter (fun j => decide (j ∈ a)) = a := by
  have key : ∀ {l l' : List Nat}, l.Pairwise (· < ·) → l'.Pairwise (· < ·) → (∀ x, x ∈ l ↔ x ∈ l') → l = l' := by
    intro l
    induction l with
    | nil =>
      intro l' _ _ e
      cases l' with
      | nil => rfl
      | cons y r => exact absurd ((e y).mpr List.mem_cons_self) (by simp)
    | cons x l ih =>
      intro l' h1 h2 e
      cases l' with
      | nil => exact absurd ((e x).mp List.mem_cons_self) (by simp)
      | cons y r =>
        obtain ⟨p1, p2⟩ := List.pairwise_cons.mp h1
        obtain ⟨q1, q2⟩ := List.pairwise_cons.mp h2
        have exy : x = y := by
          rcases List.mem_cons.mp ((e x).mp List.mem_cons_self) with z | z
          · exact z
          · rcases List.mem_cons.mp ((e y).mpr List.mem_cons_self) with z2 | z2
            · exact z2.symm
            · have a1 := p1 y z2
              have a2 := q1 x z
              omega
        subst exy
        rw [ih p2 q2 fun z => ?_]
        constructor
        · intro hz
          rcases List.mem_cons.mp ((e z).mp (List.mem_cons_of_mem _ hz)) with c | c
          · have := p1 z hz
            omega
          · exact c
        · intro hz
          rcases List.mem_cons.mp ((e z).mpr (List.mem_cons_of_mem _ hz)) with c | c
          · have := q1 z hz
            omega
          · exact c
  refine key (List.Pairwise.filter _ List.pairwise_lt_range) h fun x => ?_
  rw [List.mem_filter, List.mem_range, decide_eq_true_eq]
  exact ⟨fun z => z.2, fun z => ⟨hm x z, z⟩⟩
theorem lot_sim {M : Moves} {m s k : Nat} {L : Lots} {a : Lot} (h : Sim M m s L) (hv : ValidL m L) (hl : L.length ≤ 12) (hk : k < m) (ha : firstLot L k = some a) :
    lotTaken M m s k ((List.range m).map (countK L)) = some a := by
  have hs := step_sub L k
  unfold lotTaken
  rw [counts_sim (h.step hk) (Nat.le_trans hs.length_le hl)]
  have key : ∀ j, j < m → ((List.range m).map (countK (stepL L k))).getD j 0 + (if j ∈ a then 1 else 0) = ((List.range m).map (countK L)).getD j 0 := fun j hj => by
    rw [range_getD _ _ hj, range_getD _ _ hj]
    exact count_step ha j
  show (if oddOne m ((List.range m).map (countK L)) ((List.range m).map (countK (stepL L k))) then none else some (lessOnes m ((List.range m).map (countK L)) ((List.range m).map (countK (stepL L k))))) = some a
  have h1 : oddOne m ((List.range m).map (countK L)) ((List.range m).map (countK (stepL L k))) = false := by
    unfold oddOne
    rw [List.any_eq_false]
    intro j hj
    have q := key j (List.mem_range.mp hj)
    by_cases c : j ∈ a
    · rw [if_pos c] at q
      rw [decide_eq_true q, Bool.or_true]
      decide
    · rw [if_neg c] at q
      have q2 : ((List.range m).map (countK (stepL L k))).getD j 0 = ((List.range m).map (countK L)).getD j 0 := by omega
      rw [decide_eq_true q2, Bool.true_or]
      decide
  rw [h1, if_neg (by decide)]
  obtain ⟨_, v2, v3⟩ := hv a (first_mem ha).1
  congr 1
  refine Eq.trans ?_ (filter_range v2 v3)
  unfold lessOnes
  refine List.filter_congr fun j hj => ?_
  have q := key j (List.mem_range.mp hj)
  by_cases c : j ∈ a
  · rw [if_pos c] at q
    rw [decide_eq_true c, decide_eq_true q]
  · rw [if_neg c] at q
    rw [decide_eq_false c, decide_eq_false (by omega)]
/-! ### the first lot -/
def lotsR (M : Moves) (m s : Nat) (counts : List Nat) : List (Option Lot) := (List.range m).map fun k => if 0 < counts.getD k 0 then lotTaken M m s k counts else some []
def ownOf (ls : List Lot) : List Lot := ls.filter fun a => decide (a ≠ []) && a.all fun j => decide (ls.getD j [] = a)
def pickOwn (counts : List Nat) (ls : List Lot) : Option Lot := match ownOf ls with
  | [] => if counts.all (fun c => decide (c = 0)) then some [] else none
  | a :: r => some (minOf a r)
def firstLotR (M : Moves) (m s : Nat) : Option Lot := match countsAt M m s with
  | none => none
  | some counts => if (lotsR M m s counts).any (fun o => decide (o = none)) then none else pickOwn counts ((lotsR M m s counts).map fun o => o.getD [])
theorem minHead_none {L : Lots} (h : minHead L = none) : L = [] := by
  cases L with
  | nil => rfl
  | cons a r =>
    obtain ⟨b, h1, _⟩ := minHead_some (a := a) (r := r)
    rw [h1] at h
    cases h
theorem first_sim {M : Moves} {m s : Nat} {L : Lots} (h : Sim M m s L) (hv : ValidL m L) (hl : L.length ≤ 12) : firstLotR M m s = some ((minHead L).getD []) := by
  unfold firstLotR
  rw [counts_sim h hl]
  have e1 : lotsR M m s ((List.range m).map (countK L)) = (List.range m).map fun k => some ((firstLot L k).getD []) := by
    unfold lotsR
    refine List.map_congr_left fun k hk => ?_
    have hk := List.mem_range.mp hk
    rw [range_getD _ _ hk]
    cases e : firstLot L k with
    | none =>
      have q : hasK L k = false := by rw [hasK_first, e]; rfl
      rw [countK_zero q, if_neg (by decide)]
      rfl
    | some a =>
      have q : hasK L k = true := by rw [hasK_first, e]; rfl
      rw [if_pos (countK_pos.mpr q), lot_sim h hv hl hk e]
      rfl
  show (if (lotsR M m s ((List.range m).map (countK L))).any (fun o => decide (o = none)) then none else pickOwn ((List.range m).map (countK L)) ((lotsR M m s ((List.range m).map (countK L))).map fun o => o.getD [])) = _
  rw [e1]
  have e2 : ((List.range m).map fun k => some ((firstLot L k).getD [])).any (fun o => decide (o = none)) = false := by
    rw [List.any_eq_false]
    intro o ho
    obtain ⟨k, _, e⟩ := List.mem_map.mp ho
    subst e
    simp
  rw [e2, if_neg (by decide), List.map_map]
  have e3 : ((fun o : Option Lot => o.getD []) ∘ fun k => some ((firstLot L k).getD [])) = fun k => (firstLot L k).getD [] := rfl
  rw [e3]
  have own : ∀ a, a ∈ ownOf ((List.range m).map fun k => (firstLot L k).getD []) ↔ Head L a := fun a => by
    unfold ownOf
    rw [List.mem_filter, List.mem_map, Bool.and_eq_true, decide_eq_true_eq, List.all_eq_true]
    constructor
    · rintro ⟨⟨k, hk, e⟩, h1, h2⟩
      cases e2 : firstLot L k with
      | none =>
        rw [e2] at e
        exact absurd e.symm h1
      | some b =>
        rw [e2] at e
        have e : b = a := e
        subst e
        refine ⟨(first_mem e2).1, fun j hj => ?_⟩
        have q := of_decide_eq_true (h2 j hj)
        rw [range_getD _ _ ((hv b (first_mem e2).1).2.2 j hj)] at q
        cases e3 : firstLot L j with
        | none =>
          rw [e3] at q
          exact absurd q.symm h1
        | some c =>
          rw [e3] at q
          have q : c = b := q
          rw [q]
    · rintro ⟨h1, h2⟩
      obtain ⟨v1, _, v3⟩ := hv a h1
      refine ⟨?_, v1, fun j hj => ?_⟩
      · obtain ⟨j, hj⟩ : ∃ j, j ∈ a := by
          cases a with
          | nil => exact absurd rfl v1
          | cons j _ => exact ⟨j, List.mem_cons_self⟩
        exact ⟨j, List.mem_range.mpr (v3 j hj), by rw [h2 j hj]; rfl⟩
      · rw [range_getD _ _ (v3 j hj), h2 j hj]
        exact decide_eq_true rfl
  unfold pickOwn
  cases e : minHead L with
  | none =>
    have q := minHead_none e
    subst q
    have e4 : ownOf ((List.range m).map fun k => (firstLot [] k).getD []) = [] := by
      cases e5 : ownOf ((List.range m).map fun k => (firstLot [] k).getD []) with
      | nil => rfl
      | cons a r =>
        have z := (own a).mp (by rw [e5]; exact List.mem_cons_self)
        cases z.1
    rw [e4]
    show (if ((List.range m).map (countK [])).all (fun c => decide (c = 0)) then some [] else none) = some []
    rw [if_pos]
    rw [List.all_eq_true]
    intro c hc
    obtain ⟨k, _, e6⟩ := List.mem_map.mp hc
    subst e6
    rfl
  | some b =>
    have lb := minHead_head e
    cases e5 : ownOf ((List.range m).map fun k => (firstLot L k).getD []) with
    | nil =>
      have z := (own b).mpr lb.1
      rw [e5] at z
      cases z
    | cons a r =>
      have z : Least (Head L) (minOf a r) := minOf_least fun x => by rw [← e5]; exact (own x).symm
      show some (minOf a r) = some b
      rw [Least.uniq z lb]
/-! ### the list that a rule tells -/
def candN (M : Moves) (m : Nat) : Nat → Nat → Lots → Option Lots
  | 0, _, _ => none
  | f + 1, s, found => match firstLotR M m s with
    | none => none
    | some [] => some found
    | some (j :: a) => candN M m f (mvR M s j).2 (found ++ [j :: a])
def candidate (M : Moves) (m : Nat) : Option Lots := candN M m 13 0 []
theorem cand_sim {M : Moves} {m : Nat} : ∀ (f s : Nat) (L found : Lots), Sim M m s L → ValidL m L → L.length ≤ 12 → L.length < f → candN M m f s found = some (found ++ leastOf L)
  | 0, _, _, _, _, _, _, h => by omega
  | f + 1, s, L, found, h, hv, hl, hf => by
    unfold candN
    rw [first_sim h hv hl]
    cases e : minHead L with
    | none =>
      have q := minHead_none e
      subst q
      show some found = some (found ++ leastOf [])
      rw [least_nil, List.append_nil]
    | some a =>
      have lb := (minHead_head e).1
      cases a with
      | nil => exact absurd rfl (hv _ lb.1).1
      | cons j r =>
        have hjm := (hv _ lb.1).2.2 j List.mem_cons_self
        have e2 := step_erase (lb.2 j List.mem_cons_self)
        have hlen : (L.erase (j :: r)).length + 1 = L.length := by
          have h1 := List.length_erase_of_mem lb.1
          have h2 := List.length_pos_of_mem lb.1
          omega
        show candN M m f (mvR M s j).2 (found ++ [j :: r]) = _
        have st := h.step hjm
        rw [e2] at st
        rw [cand_sim f _ _ _ st (hv.sub List.erase_sublist) (by omega) (by omega), least_cons e, List.append_assoc]
        rfl
theorem candidate_sim {M : Moves} {m : Nat} {L : Lots} (h : Sim M m 0 L) (hv : ValidL m L) (hl : L.length ≤ 12) : candidate M m = some (leastOf L) := by
  unfold candidate
  rw [cand_sim 13 0 L [] h hv hl (by omega)]
  rfl
theorem firstR_valid {M : Moves} {m s : Nat} {a : Lot} (h : firstLotR M m s = some a) (ha : a ≠ []) : ValidLot m a := by
  unfold firstLotR at h
  cases e : countsAt M m s with
  | none =>
    rw [e] at h
    cases h
  | some counts =>
    rw [e] at h
    have h : (if (lotsR M m s counts).any (fun o => decide (o = none)) then none else pickOwn counts ((lotsR M m s counts).map fun o => o.getD [])) = some a := h
    split at h
    · cases h
    · unfold pickOwn at h
      cases e2 : ownOf ((lotsR M m s counts).map fun o => o.getD []) with
      | nil =>
        rw [e2] at h
        have h : (if counts.all (fun c => decide (c = 0)) then some [] else none) = some a := h
        split at h
        · cases h
          exact absurd rfl ha
        · cases h
      | cons b r =>
        rw [e2] at h
        have h : some (minOf b r) = some a := h
        have e3 : minOf b r = a := Option.some.inj h
        have hm : a ∈ ownOf ((lotsR M m s counts).map fun o => o.getD []) := by
          rw [e2, ← e3]
          exact (minOf_spec r b).1
        unfold ownOf at hm
        have hm := (List.mem_filter.mp hm).1
        obtain ⟨o, ho, eo⟩ := List.mem_map.mp hm
        unfold lotsR at ho
        obtain ⟨k, _, ek⟩ := List.mem_map.mp ho
        refine ⟨ha, ?_⟩
        rw [← eo, ← ek]
        split
        · unfold lotTaken
          split
          · exact ⟨List.Pairwise.nil, fun j hj => by cases hj⟩
          · split
            · exact ⟨List.Pairwise.nil, fun j hj => by cases hj⟩
            · refine ⟨List.Pairwise.filter _ List.pairwise_lt_range, fun j hj => ?_⟩
              exact List.mem_range.mp (List.mem_filter.mp hj).1
        · exact ⟨List.Pairwise.nil, fun j hj => by cases hj⟩
theorem cand_valid {M : Moves} {m : Nat} : ∀ (f s : Nat) (found c : Lots), ValidL m found → candN M m f s found = some c → ValidL m c ∧ c.length < found.length + f
  | 0, _, _, _, _, h => by cases h
  | f + 1, s, found, c, hv, h => by
    unfold candN at h
    cases e : firstLotR M m s with
    | none =>
      rw [e] at h
      cases h
    | some a =>
      rw [e] at h
      cases a with
      | nil =>
        have h : some found = some c := h
        cases h
        exact ⟨hv, by omega⟩
      | cons j r =>
        have h : candN M m f (mvR M s j).2 (found ++ [j :: r]) = some c := h
        have v := firstR_valid e (by simp)
        obtain ⟨h1, h2⟩ := cand_valid f _ _ _ (fun x hx => (List.mem_append.mp hx).elim (hv x) fun z => by rw [List.mem_singleton.mp z]; exact v) h
        refine ⟨h1, ?_⟩
        rw [List.length_append, List.length_singleton] at h2
        omega
theorem candidate_valid {M : Moves} {m : Nat} {c : Lots} (h : candidate M m = some c) : ValidL m c ∧ c.length ≤ 12 := by
  obtain ⟨h1, h2⟩ := cand_valid 13 0 [] c (fun x hx => by cases hx) h
  exact ⟨h1, by simp at h2; omega⟩
end K13
end
section
/-! the heads of a list by their places; plain Lean -/
namespace K13
def shareB (a b : Lot) : Bool := a.any fun k => decide (k ∈ b)
theorem shareB_iff {a b : Lot} : shareB a b = true ↔ ∃ k ∈ a, k ∈ b := by
  unfold shareB
  simp
def boundAt (L : Lots) (j : Nat) : Bool := (List.range j).any fun i => shareB (L.getD i []) (L.getD j [])
def headIx (L : Lots) : List Nat := (List.range L.length).filter fun j => !boundAt L j
theorem first_find (L : Lots) (k : Nat) : firstLot L k = L.find? fun a => decide (k ∈ a) := by
  induction L with
  | nil => rfl
  | cons a r ih =>
    rw [first_cons, List.find?_cons]
    by_cases h : k ∈ a
    · rw [if_pos h, decide_eq_true h]
    · rw [if_neg h, decide_eq_false h, ih]
theorem getD_at {L : Lots} {j : Nat} (h : j < L.length) : L.getD j [] = L[j] := by
  rw [List.getD_eq_getElem?_getD, List.getElem?_eq_getElem h]
  rfl
theorem headIx_iff {L : Lots} {j : Nat} : j ∈ headIx L ↔ j < L.length ∧ ∀ i < j, shareB (L.getD i []) (L.getD j []) = false := by
  unfold headIx boundAt
  rw [List.mem_filter, List.mem_range]
  constructor
  · rintro ⟨h1, h2⟩
    refine ⟨h1, fun i hi => ?_⟩
    rw [Bool.not_eq_true', List.any_eq_false] at h2
    simpa using h2 i (List.mem_range.mpr hi)
  · rintro ⟨h1, h2⟩
    refine ⟨h1, ?_⟩
    rw [Bool.not_eq_true', List.any_eq_false]
    intro i hi
    simpa using h2 i (List.mem_range.mp hi)
theorem erase_at : ∀ {L : Lots} {j : Nat} (hj : j < L.length), (∀ i (hi : i < j), L[i] ≠ L[j]) → L.erase L[j] = L.take j ++ L.drop (j + 1)
  | a :: r, 0, _, _ => by simp
  | a :: r, j + 1, hj, h => by
    have hj' : j < r.length := by simpa using hj
    have h0 : a ≠ r[j] := h 0 (Nat.succ_pos _)
    have ih := erase_at (L := r) (j := j) (by simpa using hj) fun i hi => h (i + 1) (Nat.succ_lt_succ hi)
    show (a :: r).erase r[j] = a :: (r.take j ++ r.drop (j + 1))
    rw [List.erase_cons_tail (by simpa using h0), ih]
theorem head_ix {L : Lots} (hF : Full L) {j : Nat} (h : j ∈ headIx L) : ∃ hj : j < L.length, Head L L[j] ∧ L.erase L[j] = L.take j ++ L.drop (j + 1) := by
  obtain ⟨hj, hn⟩ := headIx_iff.mp h
  have no : ∀ i (hi : i < j), ∀ k, k ∈ L[i] → k ∉ L[j] := fun i hi k hk hk' => by
    have q := hn i hi
    rw [getD_at (by omega : i < L.length), getD_at hj] at q
    rw [shareB_iff.mpr ⟨k, hk, hk'⟩] at q
    cases q
  refine ⟨hj, ⟨List.getElem_mem hj, fun k hk => ?_⟩, erase_at hj fun i hi e => ?_⟩
  · rw [first_find, List.find?_eq_some_iff_getElem]
    refine ⟨decide_eq_true hk, j, hj, rfl, fun i hi => ?_⟩
    have q : k ∉ L[i] := fun z => no i hi k z hk
    simpa using q
  · have hne := hF L[j] (List.getElem_mem hj)
    cases q : L[j] with
    | nil => exact hne q
    | cons k r =>
      have hk : k ∈ L[j] := by rw [q]; exact List.mem_cons_self
      exact no i hi k (by rw [e]; exact hk) hk
theorem ix_head {L : Lots} {a : Lot} (h : Head L a) (hne : a ≠ []) : ∃ j, ∃ hj : j < L.length, j ∈ headIx L ∧ L[j] = a := by
  obtain ⟨k, hk⟩ : ∃ k, k ∈ a := by
    cases a with
    | nil => exact absurd rfl hne
    | cons k _ => exact ⟨k, List.mem_cons_self⟩
  have h1 := h.2 k hk
  rw [first_find, List.find?_eq_some_iff_getElem] at h1
  obtain ⟨_, j, hj, e, hlt⟩ := h1
  refine ⟨j, hj, headIx_iff.mpr ⟨hj, fun i hi => ?_⟩, e⟩
  rw [getD_at (by omega : i < L.length), getD_at hj]
  cases q : shareB L[i] L[j] with
  | false => rfl
  | true =>
    obtain ⟨k2, z1, z2⟩ := shareB_iff.mp q
    rw [e] at z2
    have h2 := h.2 k2 z2
    rw [first_find, List.find?_eq_some_iff_getElem] at h2
    obtain ⟨_, p, hp, ep, hltp⟩ := h2
    have hpi : ¬ i < p := fun z => by
      have q := hltp i z
      simp [z1] at q
    -- p is before j and holds a
    have hkp : k ∈ L[p] := by rw [ep]; exact hk
    have q2 := hlt p (by omega)
    simp [hkp] at q2
/-- the pick of the least pair of lot and place -/
theorem pick_min {L : Lots} (hF : Full L) {j : Nat} (hj : j ∈ headIx L) (hm : ∀ i ∈ headIx L, lexB (L.getD i []) (L.getD j []) = false) : ∃ hlt : j < L.length, minHead L = some L[j] ∧ L.erase L[j] = L.take j ++ L.drop (j + 1) := by
  obtain ⟨hlt, h1, h2⟩ := head_ix hF hj
  refine ⟨hlt, ?_, h2⟩
  have hl : Least (Head L) L[j] := ⟨h1, fun b hb => by
    obtain ⟨i, hi, hi2, e⟩ := ix_head hb (hF b hb.1)
    have q := hm i hi2
    rw [getD_at hi, getD_at hlt, e] at q
    exact q⟩
  cases e : minHead L with
  | none =>
    rw [minHead_none e] at hlt
    cases hlt
  | some b => rw [(minHead_head e).uniq hl]
theorem headIx_ne {L : Lots} (h : L ≠ []) : headIx L ≠ [] := by
  intro e
  have : 0 ∈ headIx L := headIx_iff.mpr ⟨List.length_pos_iff.mpr h, fun i hi => by omega⟩
  rw [e] at this
  cases this
theorem least_turn {L : Lots} {b : Lot} (h : minHead L = some b) : leastOf L = b :: leastOf (L.erase b) := least_cons h
/-- the seat a comer takes -/
theorem seat_step {L : Lots} {k : Nat} : (∀ i, (L.findIdx? fun a => decide (k ∈ a)) = some i → hasK L k = true ∧ stepL L k = L.take i ++ L.drop (i + 1) ∧ i < L.length) ∧ ((L.findIdx? fun a => decide (k ∈ a)) = none → hasK L k = false) := by
  induction L with
  | nil => exact ⟨fun i h => by simp at h, fun _ => rfl⟩
  | cons a r ih =>
    rw [List.findIdx?_cons]
    by_cases h : k ∈ a
    · refine ⟨fun i hi => ?_, fun hi => by simp [h] at hi⟩
      have e : i = 0 := by simpa [h] using hi.symm
      subst e
      exact ⟨hasK_iff.mpr ⟨a, List.mem_cons_self, h⟩, by rw [step_cons, if_pos h]; rfl, Nat.succ_pos _⟩
    · have eq : hasK (a :: r) k = hasK r k := by
        show (decide (k ∈ a) || hasK r k) = _
        rw [decide_eq_false h, Bool.false_or]
      rw [decide_eq_false h]
      refine ⟨fun i hi => ?_, fun hi => ?_⟩
      · cases q : r.findIdx? fun a => decide (k ∈ a) with
        | none => rw [q] at hi; simp at hi
        | some p =>
          rw [q] at hi
          have e : i = p + 1 := by simpa using hi.symm
          subst e
          obtain ⟨h1, h2, h3⟩ := ih.1 p q
          exact ⟨by rw [eq]; exact h1, by rw [step_cons, if_neg h, h2]; rfl, Nat.succ_lt_succ h3⟩
      · rw [eq]
        refine ih.2 ?_
        cases q : r.findIdx? fun a => decide (k ∈ a) with
        | none => rfl
        | some p => rw [q] at hi; simp at hi
end K13
end
section
/-! what is reached; plain Lean -/
namespace K13
def stp (M : Moves) (p : Nat × Nat) (k : Nat) : Nat × Nat := ((mvR M p.1 k).2, (mvR M p.2 k).2)
inductive Reach2 (M : Moves) (m : Nat) (B : Nat × Nat → Prop) : Nat × Nat → Prop
  | base {p : Nat × Nat} : B p → Reach2 M m B p
  | step {p : Nat × Nat} {k : Nat} : Reach2 M m B p → k < m → Reach2 M m B (stp M p k)
inductive Reach1 (M : Moves) (m : Nat) : Nat → Nat → Prop
  | base (s : Nat) : Reach1 M m s s
  | step {s t k : Nat} : Reach1 M m s t → k < m → Reach1 M m s (mvR M t k).2
theorem reach_12 {M : Moves} {m s t : Nat} (h : Reach1 M m s t) : Reach2 M m (· = (s, s)) (t, t) := by
  induction h with
  | base => exact .base rfl
  | step _ hk ih => exact .step ih hk
theorem reach_21 {M : Moves} {m s : Nat} {p : Nat × Nat} (h : Reach2 M m (· = (s, s)) p) : p.1 = p.2 ∧ Reach1 M m s p.1 := by
  induction h with
  | base e => rw [e]; exact ⟨rfl, .base s⟩
  | step _ hk ih =>
    refine ⟨?_, .step ih.2 hk⟩
    unfold stp
    rw [ih.1]
/-- a list that holds what is begun with, is closed, and holds nothing else -/
theorem reach_all {M : Moves} {m : Nat} {B : Nat × Nat → Prop} {fs : List (Nat × Nat)} (h0 : ∀ p, B p → p ∈ fs) (h1 : ∀ p ∈ fs, ∀ k < m, stp M p k ∈ fs) (h2 : ∀ p ∈ fs, Reach2 M m B p) : ∀ p, p ∈ fs ↔ Reach2 M m B p := fun p => ⟨h2 p, fun h => by
  induction h with
  | base h => exact h0 _ h
  | step _ hk ih => exact h1 _ ih _ hk⟩
theorem reach1_all {M : Moves} {m s : Nat} {fs : List Nat} (h0 : s ∈ fs) (h1 : ∀ t ∈ fs, ∀ k < m, (mvR M t k).2 ∈ fs) (h2 : ∀ t ∈ fs, Reach1 M m s t) : ∀ t, t ∈ fs ↔ Reach1 M m s t := fun t => ⟨h2 t, fun h => by
  induction h with
  | base => exact h0
  | step _ hk ih => exact h1 _ ih _ hk⟩
theorem reach1_lt {M : Moves} {m s t : Nat} (h : RuleOk M m) (hs : s < M.length) (r : Reach1 M m s t) : t < M.length := by
  induction r with
  | base => exact hs
  | step _ _ _ => exact h.next
theorem reach2_lt {M : Moves} {m : Nat} {B : Nat × Nat → Prop} (h : RuleOk M m) (hB : ∀ p, B p → p.1 < M.length ∧ p.2 < M.length) {p : Nat × Nat} (r : Reach2 M m B p) : p.1 < M.length ∧ p.2 < M.length := by
  induction r with
  | base b => exact hB _ b
  | step _ _ _ => exact ⟨h.next, h.next⟩
theorem reach2_imp {M : Moves} {m : Nat} {B C : Nat × Nat → Prop} (h : ∀ p, B p → C p) {p : Nat × Nat} (r : Reach2 M m B p) : Reach2 M m C p := by
  induction r with
  | base b => exact .base (h _ b)
  | step _ hk ih => exact .step ih hk
/-- never harmed by those who went away -/
def KA (M : Moves) (m : Nat) : Prop := ∀ s, Reach1 M m 0 s → ∀ k, k < m → (mvR M s k).1 = false → ∀ p, Reach2 M m (· = ((mvR M s k).2, (mvR M s k).2)) p → (mvR M p.1 k).1 = false
def begs (M : Moves) (m : Nat) (p : Nat × Nat) : Prop := ∃ s k, Reach1 M m 0 s ∧ k < m ∧ p = ((mvR M s k).2, s)
def KB (M : Moves) (m : Nat) : Prop := ∀ p, Reach2 M m (begs M m) p → ∀ k, k < m → (mvR M p.1 k).1 = true → (mvR M p.2 k).1 = true
def NB (M : Moves) (m : Nat) : Prop := KA M m ∧ KB M m
theorem nodup_lt : ∀ (N : Nat) (l : List Nat), l.Nodup → (∀ x ∈ l, x < N) → l.length ≤ N
  | 0, l, _, h => by
    cases l with
    | nil => exact Nat.le_refl 0
    | cons a r => exact absurd (h a List.mem_cons_self) (by omega)
  | N + 1, l, hn, h => by
    by_cases hm : N ∈ l
    · have hp := List.perm_cons_erase hm
      have q := nodup_lt N (l.erase N) (hn.erase N) fun x hx => by
        have h1 := h x (List.mem_of_mem_erase hx)
        have h2 : x ≠ N := fun e => by
          rw [e] at hx
          exact hn.not_mem_erase hx
        omega
      rw [hp.length_eq, List.length_cons]
      omega
    · have q := nodup_lt N l hn fun x hx => by
        have h1 := h x hx
        have h2 : x ≠ N := fun e => hm (e ▸ hx)
        omega
      omega
theorem pair_code {N a b c d : Nat} (hb : b < N) (hd : d < N) (h : a * N + b = c * N + d) : a = c ∧ b = d := by
  have e1 : (a * N + b) / N = a := by rw [Nat.mul_comm, Nat.mul_add_div (by omega), Nat.div_eq_of_lt hb, Nat.add_zero]
  have e2 : (c * N + d) / N = c := by rw [Nat.mul_comm, Nat.mul_add_div (by omega), Nat.div_eq_of_lt hd, Nat.add_zero]
  have : a = c := by rw [← e1, ← e2, h]
  subst this
  exact ⟨rfl, by omega⟩
theorem nodup_pairs {N : Nat} {l : List (Nat × Nat)} (hn : l.Nodup) (h : ∀ p ∈ l, p.1 < N ∧ p.2 < N) : l.length ≤ N * N := by
  have q := nodup_lt (N * N) (l.map fun p => p.1 * N + p.2) ?_ ?_
  · rw [List.length_map] at q
    exact q
  · rw [List.nodup_iff_pairwise_ne, List.pairwise_map]
    refine List.Pairwise.imp_of_mem (fun {a b} ha hb hne e => hne ?_) (List.nodup_iff_pairwise_ne.mp hn)
    obtain ⟨e1, e2⟩ := pair_code (h a ha).2 (h b hb).2 e
    exact Prod.ext e1 e2
  · intro x hx
    obtain ⟨p, hp, rfl⟩ := List.mem_map.mp hx
    obtain ⟨h1, h2⟩ := h p hp
    have : (p.1 + 1) * N ≤ N * N := Nat.mul_le_mul_right N h1
    rw [Nat.succ_mul] at this
    omega
theorem nodup_snoc {α : Type} {l : List α} {a : α} (h : l.Nodup) (hn : a ∉ l) : (l ++ [a]).Nodup := by
  rw [List.nodup_append]
  exact ⟨h, by simp, fun x hx y hy e => by
    rw [List.mem_singleton.mp hy] at e
    exact hn (e ▸ hx)⟩
end K13
end
section
set_option maxHeartbeats 4000000
set_option autoImplicit false
/-! breadth first by numbers of rows: the first difference found is the least; plain Lean -/
namespace K13
/-- the rows, shortest first, then by their letters -/
def rowOf (m : Nat) : Nat → List Nat
  | 0 => []
  | n + 1 => rowOf m (n / m) ++ [n % m]
termination_by n => n
decreasing_by exact Nat.lt_succ_of_le (Nat.div_le_self n m)
structure Mach (α : Type) where
  a0 : α
  nxt : α → Nat → α
  diff : α → Nat → Bool
section
variable {α β : Type} {A : Mach α} {B : Mach β} {m n c k : Nat}
def Mach.st (A : Mach α) (m n : Nat) : α := (rowOf m n).foldl A.nxt A.a0
def Mach.pt (A : Mach α) (m : Nat) : Nat → Bool
  | 0 => false
  | n + 1 => A.diff (A.st m (n / m)) (n % m)
theorem code_div (hk : k < m) : (c * m + k) / m = c := by rw [Nat.mul_comm, Nat.mul_add_div (by omega), Nat.div_eq_of_lt hk, Nat.add_zero]
theorem code_mod (hk : k < m) : (c * m + k) % m = k := by rw [Nat.mul_comm, Nat.mul_add_mod, Nat.mod_eq_of_lt hk]
theorem row_zero : rowOf m 0 = [] := by rw [rowOf]
theorem row_snoc (hk : k < m) : rowOf m (c * m + k + 1) = rowOf m c ++ [k] := by rw [rowOf, code_div hk, code_mod hk]
theorem st_zero : A.st m 0 = A.a0 := by unfold Mach.st; rw [row_zero]; rfl
theorem st_snoc (hk : k < m) : A.st m (c * m + k + 1) = A.nxt (A.st m c) k := by
  unfold Mach.st
  rw [row_snoc hk, List.foldl_append]
  rfl
theorem pt_snoc (hk : k < m) : A.pt m (c * m + k + 1) = A.diff (A.st m c) k := by rw [Mach.pt, code_div hk, code_mod hk]
theorem code_split (hm : 0 < m) (n : Nat) : ∃ c k, k < m ∧ n + 1 = c * m + k + 1 ∧ c < n + 1 := ⟨n / m, n % m, Nat.mod_lt _ hm, by have := Nat.div_add_mod n m; rw [Nat.mul_comm] at this; omega, Nat.lt_succ_of_le (Nat.div_le_self n m)⟩
theorem row_lt (hm : 0 < m) : ∀ n, ∀ k ∈ rowOf m n, k < m := by
  intro n
  induction n using Nat.strongRecOn with
  | _ n ih =>
    cases n with
    | zero => rw [row_zero]; intro k hk; cases hk
    | succ n =>
      obtain ⟨c, j, hj, e, hc⟩ := code_split hm n
      rw [e, row_snoc hj]
      intro k hk
      rcases List.mem_append.mp hk with hk | hk
      · exact ih c hc k hk
      · rw [List.mem_singleton.mp hk]; exact hj
/-- what all states have -/
theorem st_all (hm : 0 < m) {I : α → Prop} (h0 : I A.a0) (hs : ∀ a k, I a → k < m → I (A.nxt a k)) : ∀ n, I (A.st m n) := by
  intro n
  induction n using Nat.strongRecOn with
  | _ n ih =>
    cases n with
    | zero => rw [st_zero]; exact h0
    | succ n =>
      obtain ⟨c, j, hj, e, hc⟩ := code_split hm n
      rw [e, st_snoc hj]
      exact hs _ _ (ih c hc) hj
/-- two that go side by side -/
theorem st_two (hm : 0 < m) {R : α → β → Prop} (h0 : R A.a0 B.a0) (hs : ∀ a b k, R a b → k < m → R (A.nxt a k) (B.nxt b k)) : ∀ n, R (A.st m n) (B.st m n) := by
  intro n
  induction n using Nat.strongRecOn with
  | _ n ih =>
    cases n with
    | zero => rw [st_zero, st_zero]; exact h0
    | succ n =>
      obtain ⟨c, j, hj, e, hc⟩ := code_split hm n
      rw [e, st_snoc hj, st_snoc hj]
      exact hs _ _ _ (ih c hc) hj
theorem pt_two (hm : 0 < m) {R : α → β → Prop} (h0 : R A.a0 B.a0) (hs : ∀ a b k, R a b → k < m → R (A.nxt a k) (B.nxt b k)) (hd : ∀ a b k, R a b → k < m → A.diff a k = B.diff b k) : ∀ n, A.pt m n = B.pt m n := by
  intro n
  cases n with
  | zero => rfl
  | succ n =>
    obtain ⟨c, j, hj, e, hc⟩ := code_split hm n
    rw [e, pt_snoc hj, pt_snoc hj]
    exact hd _ _ _ (st_two hm h0 hs c) hj
/-- the number of the least row that parts -/
def Mach.first (A : Mach α) (m : Nat) : Option Nat → Prop
  | none => ∀ n, A.pt m n = false
  | some n => A.pt m n = true ∧ ∀ j, j < n → A.pt m j = false
theorem first_one {r r' : Option Nat} (h : A.first m r) (h' : A.first m r') : r = r' := by
  cases r with
  | none =>
    cases r' with
    | none => rfl
    | some n =>
      have q := h n
      rw [h'.1] at q
      cases q
  | some n =>
    cases r' with
    | none =>
      have q := h' n
      rw [h.1] at q
      cases q
    | some n' =>
      congr 1
      rcases Nat.lt_trichotomy n n' with q | q | q
      · have z := h'.2 n q
        rw [h.1] at z
        cases z
      · exact q
      · have z := h.2 n' q
        rw [h'.1] at z
        cases z
theorem first_two (h : ∀ n, A.pt m n = B.pt m n) {r : Option Nat} (hr : A.first m r) : B.first m r := by
  cases r with
  | none => exact fun n => by rw [← h]; exact hr n
  | some n => exact ⟨by rw [← h]; exact hr.1, fun j hj => by rw [← h]; exact hr.2 j hj⟩
theorem first_is (A : Mach α) (m : Nat) : ∃ r, A.first m r := by
  by_cases h : ∃ n, A.pt m n = true
  · have step : ∀ n, A.pt m n = true → ∃ i, A.pt m i = true ∧ ∀ j, j < i → A.pt m j = false := by
      intro n
      induction n using Nat.strongRecOn with
      | _ n ih =>
        intro hn
        by_cases h : ∃ j, j < n ∧ A.pt m j = true
        · obtain ⟨j, hj, e⟩ := h
          exact ih j hj e
        · refine ⟨n, hn, fun j hj => ?_⟩
          cases e : A.pt m j with
          | false => rfl
          | true => exact absurd ⟨j, hj, e⟩ h
    obtain ⟨n, hn⟩ := h
    obtain ⟨i, h1, h2⟩ := step n hn
    exact ⟨some i, h1, h2⟩
  · refine ⟨none, fun n => ?_⟩
    cases e : A.pt m n with
    | false => rfl
    | true => exact absurd ⟨n, e⟩ h
/-! ### the queue -/
structure Bq (A : Mach α) (m : Nat) (qs : List (α × Nat)) (p : Nat) : Prop where
  nd : (qs.map (·.1)).Nodup
  st : ∀ e ∈ qs, e.1 = A.st m e.2
  inc : (qs.map (·.2)).Pairwise (· < ·)
  top : ∀ e ∈ qs, e.2 < p
  no : ∀ n, n < p → A.pt m n = false
  kn : ∀ n, n < p → ∃ e ∈ qs, e.1 = A.st m n ∧ e.2 ≤ n
variable {qs : List (α × Nat)} {p : Nat}
theorem Bq.start : Bq A m [(A.a0, 0)] 1 := ⟨by simp, fun e he => by rw [List.mem_singleton.mp he, st_zero], by simp, fun e he => by rw [List.mem_singleton.mp he]; exact Nat.one_pos, fun n hn => by
  obtain rfl : n = 0 := by omega
  rfl, fun n hn => by
  obtain rfl : n = 0 := by omega
  exact ⟨_, List.mem_cons_self, st_zero.symm, Nat.le_refl 0⟩⟩
theorem Bq.old (h : Bq A m qs p) (hp : A.pt m p = false) (hm : A.st m p ∈ qs.map (·.1)) : Bq A m qs (p + 1) := by
  refine ⟨h.nd, h.st, h.inc, fun e he => Nat.lt_succ_of_lt (h.top e he), fun n hn => ?_, fun n hn => ?_⟩
  · by_cases e : n = p
    · rw [e]; exact hp
    · exact h.no n (by omega)
  · by_cases e : n = p
    · rw [e]
      obtain ⟨x, hx, ex⟩ := List.mem_map.mp hm
      exact ⟨x, hx, ex, Nat.le_of_lt (h.top x hx)⟩
    · exact h.kn n (by omega)
theorem Bq.new (h : Bq A m qs p) (hp : A.pt m p = false) (hm : A.st m p ∉ qs.map (·.1)) : Bq A m (qs ++ [(A.st m p, p)]) (p + 1) := by
  refine ⟨?_, fun e he => ?_, ?_, fun e he => ?_, fun n hn => ?_, fun n hn => ?_⟩
  · rw [List.map_append]
    exact nodup_snoc h.nd hm
  · rcases List.mem_append.mp he with he | he
    · exact h.st e he
    · rw [List.mem_singleton.mp he]
  · rw [List.map_append, List.pairwise_append]
    refine ⟨h.inc, by simp, fun a ha b hb => ?_⟩
    rw [List.mem_singleton.mp (show b ∈ [p] from hb)]
    obtain ⟨x, hx, rfl⟩ := List.mem_map.mp ha
    exact h.top x hx
  · rcases List.mem_append.mp he with he | he
    · exact Nat.lt_succ_of_lt (h.top e he)
    · rw [List.mem_singleton.mp he]; exact Nat.lt_succ_self p
  · by_cases e : n = p
    · rw [e]; exact hp
    · exact h.no n (by omega)
  · by_cases e : n = p
    · rw [e]; exact ⟨_, List.mem_append_right _ List.mem_cons_self, rfl, Nat.le_refl p⟩
    · obtain ⟨x, hx, ex⟩ := h.kn n (by omega)
      exact ⟨x, List.mem_append_left _ hx, ex⟩
/-- behind the turn of the place done: all rows before those of the places that come -/
theorem Bq.far (hm : 0 < m) {done : Nat} {e : α × Nat} (h : Bq A m qs (e.2 * m + m + 1)) (he : qs[done]? = some e) : ∀ n, (∀ (i : Nat) (e' : α × Nat), done < i → qs[i]? = some e' → n < e'.2 * m + 1) → A.pt m n = false ∧ ∃ x ∈ qs, x.1 = A.st m n ∧ x.2 ≤ n := by
  intro n
  induction n using Nat.strongRecOn with
  | _ n ih =>
    intro hn
    by_cases hp : n < e.2 * m + m + 1
    · exact ⟨h.no n hp, h.kn n hp⟩
    · cases n with
      | zero => omega
      | succ n =>
        obtain ⟨w, j, hj, en, hw⟩ := code_split hm n
        have later : ∀ (i : Nat) (e' : α × Nat), done < i → qs[i]? = some e' → w < e'.2 := fun i e' hi h' => by
          have q := hn i e' hi h'
          have q : w * m + j < e'.2 * m := by omega
          have q2 : w * m < e'.2 * m := by omega
          exact Nat.lt_of_mul_lt_mul_right q2
        obtain ⟨_, x, hx, ex, lx⟩ := ih w hw fun i e' hi h' => by
          have := later i e' hi h'
          have : e'.2 ≤ e'.2 * m := Nat.le_mul_of_pos_right _ hm
          omega
        obtain ⟨i, exi⟩ := List.mem_iff_getElem?.mp hx
        have hi : i < qs.length := (List.getElem?_eq_some_iff.mp exi).1
        have hle : x.2 ≤ e.2 := by
          rcases Nat.lt_trichotomy i done with q | q | q
          · have z := List.pairwise_iff_getElem.mp h.inc i done (by rw [List.length_map]; exact hi) (by rw [List.length_map]; exact (List.getElem?_eq_some_iff.mp he).1) q
            rw [List.getElem_map, List.getElem_map, (List.getElem?_eq_some_iff.mp exi).2, (List.getElem?_eq_some_iff.mp he).2] at z
            omega
          · rw [q, he] at exi
            cases exi
            exact Nat.le_refl _
          · have := later i x q exi
            omega
        have hxm : x.2 * m ≤ e.2 * m := Nat.mul_le_mul_right m hle
        have hxw : x.2 * m ≤ w * m := Nat.mul_le_mul_right m lx
        have hlt : x.2 * m + j + 1 < e.2 * m + m + 1 := by omega
        have es : A.st m x.2 = A.st m w := by rw [← h.st x hx, ex]
        rw [en]
        refine ⟨?_, ?_⟩
        · rw [pt_snoc hj, ← es, ← pt_snoc hj]
          exact h.no _ hlt
        · obtain ⟨y, hy, ey, ly⟩ := h.kn _ hlt
          refine ⟨y, hy, ?_, by omega⟩
          rw [ey, st_snoc hj, st_snoc hj, es]
/-- at the head of the loop -/
def BqH (A : Mach α) (m : Nat) (qs : List (α × Nat)) (done : Nat) : Prop := (∃ e, qs[done]? = some e ∧ Bq A m qs (e.2 * m + 1)) ∨ (done = qs.length ∧ ∀ n, A.pt m n = false)
theorem BqH.start : BqH A m [(A.a0, 0)] 0 := .inl ⟨_, rfl, by rw [Nat.zero_mul]; exact .start⟩
theorem Bq.turn (hm : 0 < m) {done : Nat} {e : α × Nat} (h : Bq A m qs (e.2 * m + m + 1)) (he : qs[done]? = some e) : BqH A m qs (done + 1) := by
  have far := h.far hm he
  have hlt : done < qs.length := (List.getElem?_eq_some_iff.mp he).1
  cases q : qs[done + 1]? with
  | none =>
    have hl : qs.length ≤ done + 1 := List.getElem?_eq_none_iff.mp q
    refine .inr ⟨by omega, fun n => (far n fun i e' hi h' => ?_).1⟩
    have := (List.getElem?_eq_some_iff.mp h').1
    omega
  | some e' =>
    refine .inl ⟨e', q, ?_⟩
    have hmem : e' ∈ qs := List.mem_of_getElem? q
    have hl' : done + 1 < qs.length := (List.getElem?_eq_some_iff.mp q).1
    have mono : ∀ (i : Nat) (x : α × Nat), done < i → qs[i]? = some x → e'.2 ≤ x.2 := fun i x hi hx => by
      by_cases ei : i = done + 1
      · rw [ei, q] at hx
        cases hx
        exact Nat.le_refl _
      · have hix : i < qs.length := (List.getElem?_eq_some_iff.mp hx).1
        have z := List.pairwise_iff_getElem.mp h.inc (done + 1) i (by rw [List.length_map]; exact hl') (by rw [List.length_map]; exact hix) (by omega)
        rw [List.getElem_map, List.getElem_map, (List.getElem?_eq_some_iff.mp hx).2, (List.getElem?_eq_some_iff.mp q).2] at z
        omega
    have ok : ∀ n, n < e'.2 * m + 1 → A.pt m n = false ∧ ∃ x ∈ qs, x.1 = A.st m n ∧ x.2 ≤ n := fun n hn => far n fun i x hi hx => by
      have := Nat.mul_le_mul_right m (mono i x hi hx)
      omega
    refine ⟨h.nd, h.st, h.inc, fun x hx => ?_, fun n hn => (ok n hn).1, fun n hn => (ok n hn).2⟩
    have hinc : e.2 < e'.2 := by
      have z := List.pairwise_iff_getElem.mp h.inc done (done + 1) (by rw [List.length_map]; exact hlt) (by rw [List.length_map]; exact hl') (by omega)
      rw [List.getElem_map, List.getElem_map, (List.getElem?_eq_some_iff.mp he).2, (List.getElem?_eq_some_iff.mp q).2] at z
      exact z
    have h1 := h.top x hx
    have h2 : (e.2 + 1) * m ≤ e'.2 * m := Nat.mul_le_mul_right m hinc
    rw [Nat.succ_mul] at h2
    omega
/-- a list without twice the same that lies in another is no longer -/
theorem nodup_le {α : Type} : ∀ (l t : List α), l.Nodup → (∀ x ∈ l, x ∈ t) → l.length ≤ t.length
  | [], _, _, _ => Nat.zero_le _
  | a :: l, t, hn, h => by
    obtain ⟨s, r, rfl⟩ := List.append_of_mem (h a List.mem_cons_self)
    have q := nodup_le l (s ++ r) (List.nodup_cons.mp hn).2 fun x hx => by
      have hx' := h x (List.mem_cons_of_mem _ hx)
      rcases List.mem_append.mp hx' with z | z
      · exact List.mem_append_left _ z
      · rcases List.mem_cons.mp z with z | z
        · rw [z] at hx
          exact absurd hx (List.nodup_cons.mp hn).1
        · exact List.mem_append_right _ z
    rw [List.length_cons, List.length_append, List.length_cons]
    rw [List.length_append] at q
    omega
end
/-! ### rule against list, rule against rule -/
def partL (M : Moves) (L : Lots) : Mach (Nat × Lots) := ⟨(0, leastOf L), fun p k => ((mvR M p.1 k).2, if hasK p.2 k = true then leastOf (stepL p.2 k) else p.2), fun p k => (mvR M p.1 k).1 != hasK p.2 k⟩
def partR (M N : Moves) : Mach (Nat × Nat) := ⟨(0, 0), fun p k => ((mvR M p.1 k).2, (mvR N p.2 k).2), fun p k => (mvR M p.1 k).1 != (mvR N p.2 k).1⟩
/-- all that the list may come to -/
theorem partL_in {M : Moves} {m : Nat} {L : Lots} (hM : RuleOk M m) (hm : 0 < m) (hF : Full L) (n : Nat) : ((partL M L).st m n).1 < M.length ∧ ∃ S : Lots, S.Sublist L ∧ ((partL M L).st m n).2 = leastOf S :=
  st_all (A := partL M L) hm (I := fun p => p.1 < M.length ∧ ∃ S : Lots, S.Sublist L ∧ p.2 = leastOf S) ⟨hM.pos, L, List.Sublist.refl L, rfl⟩ (fun p k ⟨_, S, hS, e⟩ hk => ⟨hM.next, by
    have hFS : Full S := fun a ha => hF a (hS.subset ha)
    show ∃ S', List.Sublist S' L ∧ (if hasK p.2 k = true then leastOf (stepL p.2 k) else p.2) = leastOf S'
    rw [e, ← (alike_least S).has k]
    by_cases h : hasK S k = true
    · rw [if_pos h, least_step hFS]
      exact ⟨stepL S k, (step_sub S k).trans hS, rfl⟩
    · rw [if_neg h]
      exact ⟨S, hS, rfl⟩⟩) n
theorem subs_len {α : Type} : ∀ L : List α, ∃ t : List (List α), t.length = 2 ^ L.length ∧ ∀ S : List α, S.Sublist L → S ∈ t
  | [] => ⟨[[]], rfl, fun S h => by rw [List.sublist_nil.mp h]; exact List.mem_cons_self⟩
  | a :: L => by
    obtain ⟨t, h1, h2⟩ := subs_len L
    refine ⟨t ++ t.map (a :: ·), by rw [List.length_append, List.length_map, h1, List.length_cons, Nat.pow_succ]; omega, fun S h => ?_⟩
    cases h with
    | cons _ h => exact List.mem_append_left _ (h2 S h)
    | cons_cons _ h => exact List.mem_append_right _ (List.mem_map.mpr ⟨_, h2 _ h, rfl⟩)
theorem partL_small {M : Moves} {m : Nat} {L : Lots} (hM : RuleOk M m) (hm : 0 < m) (hF : Full L) : ∃ t : List (Nat × Lots), t.length = M.length * 2 ^ L.length ∧ ∀ n, (partL M L).st m n ∈ t := by
  obtain ⟨t, h1, h2⟩ := subs_len L
  have pl : ∀ (N : Nat), (((List.range N).flatMap fun s => t.map fun S => (s, leastOf S))).length = N * t.length := fun N => by
    induction N with
    | zero => rw [List.range_zero, List.flatMap_nil, List.length_nil, Nat.zero_mul]
    | succ N ih =>
      rw [List.range_succ, List.flatMap_append, List.length_append, ih, List.flatMap_cons, List.flatMap_nil, List.append_nil, List.length_map, Nat.succ_mul]
  refine ⟨(List.range M.length).flatMap fun s => t.map fun S => (s, leastOf S), by rw [pl, h1], fun n => ?_⟩
  obtain ⟨a, S, hS, e⟩ := partL_in hM hm hF n
  rw [List.mem_flatMap]
  exact ⟨_, List.mem_range.mpr a, List.mem_map.mpr ⟨S, h2 S hS, by rw [← e]⟩⟩
theorem partR_small {M N : Moves} {m : Nat} (hM : RuleOk M m) (hN : RuleOk N m) (hm : 0 < m) (n : Nat) : ((partR M N).st m n).1 < M.length ∧ ((partR M N).st m n).2 < N.length :=
  st_all (A := partR M N) hm (I := fun p => p.1 < M.length ∧ p.2 < N.length) ⟨hM.pos, hN.pos⟩ (fun _ _ _ _ => ⟨hM.next, hN.next⟩) n
/-- a rule that answers as the list parts from others as the list does -/
theorem part_same {M N : Moves} {m : Nat} {L : Lots} (hm : 0 < m) (hF : Full L) (h : Sim N m 0 L) (n : Nat) : (partL M L).pt m n = (partR M N).pt m n :=
  pt_two (A := partL M L) (B := partR M N) hm (R := fun p q => p.1 = q.1 ∧ Full p.2 ∧ Sim N m q.2 p.2) ⟨rfl, hF.least, h.alike (alike_least L)⟩ (fun p q k ⟨e, f, s⟩ hk => by
    refine ⟨by show (mvR M p.1 k).2 = (mvR M q.1 k).2; rw [e], ?_⟩
    show Full (if hasK p.2 k = true then leastOf (stepL p.2 k) else p.2) ∧ Sim N m (mvR N q.2 k).2 (if hasK p.2 k = true then leastOf (stepL p.2 k) else p.2)
    by_cases hh : hasK p.2 k = true
    · rw [if_pos hh]
      exact ⟨(f.step k).least, (s.step hk).alike (alike_least _)⟩
    · rw [if_neg hh]
      have e2 := s.step hk
      rw [step_no (by simpa using hh)] at e2
      exact ⟨f, e2⟩) (fun p q k ⟨e, _, s⟩ hk => by
    show ((mvR M p.1 k).1 != hasK p.2 k) = ((mvR M q.1 k).1 != (mvR N q.2 k).1)
    rw [e, s.flag hk]) n
/-- no row parts: the rule answers as the list -/
theorem none_sim {M : Moves} {m : Nat} {L : Lots} (hm : 0 < m) (hF : Full L) : (∀ n, (partL M L).pt m n = false) ↔ Sim M m 0 L := by
  constructor
  · intro h
    have key : Sim M m 0 (leastOf L) := by
      refine Sim.of (fun s C => ∃ n, Full C ∧ ((partL M L).st m n).1 = s ∧ Alike ((partL M L).st m n).2 C ∧ Full ((partL M L).st m n).2) (fun s C ⟨n, f, e1, e2, f2⟩ k hk => ?_) ⟨0, hF.least, by rw [st_zero]; rfl, by rw [st_zero]; exact .refl _, by rw [st_zero]; exact hF.least⟩
      have q := h (n * m + k + 1)
      rw [pt_snoc hk] at q
      have q : ((mvR M ((partL M L).st m n).1 k).1 != hasK ((partL M L).st m n).2 k) = false := q
      rw [e1, e2.has k] at q
      have q : (mvR M s k).1 = hasK C k := by simpa using q
      refine ⟨q, n * m + k + 1, f.step k, ?_⟩
      rw [st_snoc hk]
      show (mvR M ((partL M L).st m n).1 k).2 = (mvR M s k).2 ∧ Alike (if hasK ((partL M L).st m n).2 k = true then leastOf (stepL ((partL M L).st m n).2 k) else ((partL M L).st m n).2) (stepL C k) ∧ Full (if hasK ((partL M L).st m n).2 k = true then leastOf (stepL ((partL M L).st m n).2 k) else ((partL M L).st m n).2)
      rw [e1]
      refine ⟨rfl, ?_⟩
      have e3 := (e2.step k).2
      by_cases hh : hasK ((partL M L).st m n).2 k = true
      · rw [if_pos hh]
        exact ⟨(alike_least _).symm.trans e3, (f2.step k).least⟩
      · rw [if_neg hh]
        rw [step_no (by simpa using hh)] at e3
        exact ⟨e3, f2⟩
    exact key.alike (alike_least L).symm
  · intro h n
    rw [part_same hm hF h]
    cases n with
    | zero => rfl
    | succ n =>
      obtain ⟨c, j, hj, e, _⟩ := code_split hm n
      rw [e, pt_snoc hj]
      have q := st_all (A := partR M M) hm (I := fun p => p.1 = p.2) rfl (fun p k e hk => by show (mvR M p.1 k).2 = (mvR M p.2 k).2; rw [show p.1 = p.2 from e]) c
      show ((mvR M ((partR M M).st m c).1 j).1 != (mvR M ((partR M M).st m c).2 j).1) = false
      rw [show ((partR M M).st m c).1 = ((partR M M).st m c).2 from q]
      simp
end K13
end
section
set_option maxHeartbeats 4000000
set_option autoImplicit false
/-! a rule read off a system, stand by stand; plain Lean -/
namespace K13
structure Rof {β : Type} (flag : β → Nat → Bool) (next : β → Nat → β) (R : β → Prop) (m : Nat) (ls : List β) (rows : Moves) : Prop where
  nd : ls.Nodup
  rc : ∀ l ∈ ls, R l
  le : rows.length ≤ ls.length
  row_ : ∀ (i : Nat) (r : List (Bool × Nat)), rows[i]? = some r → ∃ l, ls[i]? = some l ∧ r.length = m ∧ ∀ k, k < m → ∃ j, r[k]? = some (flag l k, j) ∧ ls[j]? = some (next l k)
structure Mine {β : Type} (flag : β → Nat → Bool) (next : β → Nat → β) (ls : List β) (l : β) (k : Nat) (mine : List (Bool × Nat)) : Prop where
  len : mine.length = k
  at_ : ∀ j, j < k → ∃ q, mine[j]? = some (flag l j, q) ∧ ls[q]? = some (next l j)
section
variable {β : Type} {flag : β → Nat → Bool} {next : β → Nat → β} {R : β → Prop} {m k : Nat} {ls : List β} {rows : Moves} {l l0 x : β} {mine : List (Bool × Nat)}
theorem get_snoc {α : Type} {l : List α} {i : Nat} {x y : α} (h : l[i]? = some x) : (l ++ [y])[i]? = some x := by
  rw [List.getElem?_append_left (List.getElem?_eq_some_iff.mp h).1]
  exact h
theorem Mine.start : Mine flag next ls l 0 [] := ⟨rfl, fun j hj => by omega⟩
theorem Mine.ext (h : Mine flag next ls l k mine) : Mine flag next (ls ++ [x]) l k mine := ⟨h.len, fun j hj => let ⟨q, h1, h2⟩ := h.at_ j hj; ⟨q, h1, get_snoc h2⟩⟩
theorem Mine.snoc {q : Nat} (h : Mine flag next ls l k mine) (hq : ls[q]? = some (next l k)) : Mine flag next ls l (k + 1) (mine ++ [(flag l k, q)]) := by
  refine ⟨by rw [List.length_append, h.len]; rfl, fun j hj => ?_⟩
  by_cases e : j = k
  · subst e
    refine ⟨q, ?_, hq⟩
    rw [List.getElem?_append_right (by rw [h.len]; exact Nat.le_refl _), h.len, Nat.sub_self]
    rfl
  · obtain ⟨q', h1, h2⟩ := h.at_ j (by omega)
    exact ⟨q', get_snoc h1, h2⟩
theorem Rof.start (h : R l0) : Rof flag next R m [l0] [] := ⟨by simp, fun l hl => by rw [List.mem_singleton.mp hl]; exact h, Nat.zero_le _, fun i r e => by simp at e⟩
theorem Rof.ext (h : Rof flag next R m ls rows) (hx : x ∉ ls) (hR : R x) : Rof flag next R m (ls ++ [x]) rows := by
  refine ⟨nodup_snoc h.nd hx, fun l hl => ?_, by rw [List.length_append]; have := h.le; omega, fun i r e => ?_⟩
  · rcases List.mem_append.mp hl with hl | hl
    · exact h.rc l hl
    · rw [List.mem_singleton.mp hl]; exact hR
  · obtain ⟨l, h1, h2, h3⟩ := h.row_ i r e
    exact ⟨l, get_snoc h1, h2, fun k hk => let ⟨j, a, b⟩ := h3 k hk; ⟨j, a, get_snoc b⟩⟩
theorem Rof.row (h : Rof flag next R m ls rows) (hl : ls[rows.length]? = some l) (hm : Mine flag next ls l m mine) : Rof flag next R m ls (rows ++ [mine]) := by
  have hlt := (List.getElem?_eq_some_iff.mp hl).1
  refine ⟨h.nd, h.rc, by rw [List.length_append]; exact hlt, fun i r e => ?_⟩
  by_cases hi : i < rows.length
  · rw [List.getElem?_append_left hi] at e
    exact h.row_ i r e
  · rw [List.getElem?_append_right (by omega)] at e
    have e0 : i - rows.length = 0 := by
      cases q : i - rows.length with
      | zero => rfl
      | succ j => rw [q] at e; simp at e
    rw [e0] at e
    cases e
    have ei : i = rows.length := by omega
    rw [ei]
    exact ⟨l, hl, hm.len, hm.at_⟩
theorem Rof.at_ (h : Rof flag next R m ls rows) (hall : rows.length = ls.length) {s : Nat} (hs : ls[s]? = some l) (hk : k < m) : (mvR rows s k).1 = flag l k ∧ ls[(mvR rows s k).2]? = some (next l k) := by
  have hlt : s < rows.length := by rw [hall]; exact (List.getElem?_eq_some_iff.mp hs).1
  obtain ⟨l', h1, h2, h3⟩ := h.row_ s rows[s] (List.getElem?_eq_getElem hlt)
  rw [hs] at h1
  cases h1
  obtain ⟨j, a, b⟩ := h3 k hk
  have e : mvR rows s k = (flag l k, j) := by
    unfold mvR
    rw [List.getD_eq_getElem?_getD, List.getD_eq_getElem?_getD, List.getElem?_eq_getElem hlt]
    show (rows[s])[k]?.getD (false, 0) = _
    rw [a]
    rfl
  rw [e]
  exact ⟨rfl, b⟩
theorem Rof.ok (h : Rof flag next R m ls rows) (hall : rows.length = ls.length) (hpos : 0 < ls.length) : RuleOk rows m := by
  refine ⟨by omega, fun r hr => ?_⟩
  obtain ⟨i, hi⟩ := List.mem_iff_getElem?.mp hr
  obtain ⟨l, h1, h2, h3⟩ := h.row_ i r hi
  refine ⟨h2, fun p hp => ?_⟩
  obtain ⟨k, hk⟩ := List.mem_iff_getElem?.mp hp
  have hkl := (List.getElem?_eq_some_iff.mp hk).1
  obtain ⟨j, a, b⟩ := h3 k (by omega)
  rw [hk] at a
  cases a
  rw [hall]
  exact (List.getElem?_eq_some_iff.mp b).1
/-- the rule answers as the list does of which the system is a picture -/
theorem Rof.sim (h : Rof flag next R m ls rows) (hall : rows.length = ls.length) {L : Lots} (pic : β → Lots → Prop) (hp : ∀ l C k, pic l C → k < m → flag l k = hasK C k ∧ pic (next l k) (stepL C k)) (h0 : ls[0]? = some l0) (hp0 : pic l0 L) : Sim rows m 0 L := by
  refine Sim.of (fun s C => ∃ l, ls[s]? = some l ∧ pic l C) (fun s C ⟨l, h1, h2⟩ k hk => ?_) ⟨l0, h0, hp0⟩
  obtain ⟨a, b⟩ := h.at_ hall h1 hk
  obtain ⟨c, d⟩ := hp l C k h2 hk
  exact ⟨a.trans c, next l k, b, d⟩
end
/-! ### the lists of who is left -/
def behL (L : Lots) (k : Nat) : Lots := if hasK L k = true then leastOf (stepL L k) else L
inductive ReachL (m : Nat) (L : Lots) : Lots → Prop
  | base : ReachL m L (leastOf L)
  | step {C : Lots} {k : Nat} : ReachL m L C → k < m → ReachL m L (behL C k)
theorem reachL_sub {m : Nat} {L C : Lots} (hF : Full L) (h : ReachL m L C) : ∃ S, S.Sublist L ∧ C = leastOf S := by
  induction h with
  | base => exact ⟨L, List.Sublist.refl L, rfl⟩
  | @step C k _ hk ih =>
    obtain ⟨S, hS, e⟩ := ih
    have hFS : Full S := fun a ha => hF a (hS.subset ha)
    unfold behL
    rw [e, ← (alike_least S).has k]
    by_cases h : hasK S k = true
    · rw [if_pos h, least_step hFS]
      exact ⟨stepL S k, (step_sub S k).trans hS, rfl⟩
    · rw [if_neg h]
      exact ⟨S, hS, rfl⟩
/-- a rule that answers as the list: as many stands at least as there are forms of who is left -/
theorem reachL_small {M : Moves} {m : Nat} {L : Lots} (hv : ValidL m L) (hl : L.length ≤ 12) (hM : RuleOk M m) (hs : Sim M m 0 L) : ∃ t : List Lots, t.length ≤ M.length ∧ ∀ C, ReachL m L C → C ∈ t := by
  have key : ∀ C, ReachL m L C → ∃ s, s < M.length ∧ Sim M m s C ∧ leastOf C = C ∧ ValidL m C ∧ C.length ≤ 12 := fun C h => by
    induction h with
    | base => exact ⟨0, hM.pos, hs.alike (alike_least L), least_idem hv.full, hv.least, by rw [least_len]; exact hl⟩
    | @step C k hr hk ih =>
      obtain ⟨s, h1, h2, h3, h4, h5⟩ := ih
      refine ⟨(mvR M s k).2, hM.next, ?_⟩
      unfold behL
      by_cases hh : hasK C k = true
      · rw [if_pos hh]
        exact ⟨(h2.step hk).alike (alike_least _), least_idem (h4.step k).full, (h4.step k).least, by rw [least_len]; have := step_len hh; omega⟩
      · rw [if_neg hh]
        have q := h2.step hk
        rw [step_no (by simpa using hh)] at q
        exact ⟨q, h3, h4, h5⟩
  refine ⟨(List.range M.length).map fun s => (candN M m 13 s []).getD [], by rw [List.length_map, List.length_range]; exact Nat.le_refl _, fun C h => ?_⟩
  obtain ⟨s, h1, h2, h3, h4, h5⟩ := key C h
  have q := cand_sim 13 s C [] h2 h4 h5 (by omega)
  rw [List.nil_append, h3] at q
  exact List.mem_map.mpr ⟨s, List.mem_range.mpr h1, by rw [q]; rfl⟩
end K13
end
section
set_option maxHeartbeats 4000000
set_option autoImplicit false
/-! seats by their places, as the law takes them; never back; plain Lean -/
namespace K13
def fitT (L : Lots) (t : List Nat) (k : Nat) : List Nat := t.filter fun s => decide (k ∈ L.getD s [])
def flagT (L : Lots) (t : List Nat) (k : Nat) : Bool := decide (0 < (fitT L t k).length)
def nextT (L : Lots) (t : List Nat) (k : Nat) : List Nat := match fitT L t k with
  | [] => t
  | s :: _ => t.filter fun x => !decide (x = s)
def lotsT (L : Lots) (t : List Nat) : Lots := t.map fun s => L.getD s []
inductive ReachT (m : Nat) (L : Lots) : List Nat → Prop
  | base : ReachT m L (List.range L.length)
  | step {t : List Nat} {k : Nat} : ReachT m L t → k < m → ReachT m L (nextT L t k)
section
variable {m k n : Nat} {L : Lots} {t t' : List Nat}
theorem filter_all {α : Type} {p : α → Bool} {l : List α} (h : ∀ x ∈ l, p x = true) : l.filter p = l := List.filter_eq_self.mpr h
theorem next_nil (h : fitT L t k = []) : nextT L t k = t := by unfold nextT; rw [h]
theorem next_cons {s : Nat} {r : List Nat} (h : fitT L t k = s :: r) : nextT L t k = t.filter fun x => !decide (x = s) := by unfold nextT; rw [h]
theorem picT : ∀ {t : List Nat}, t.Nodup → flagT L t k = hasK (lotsT L t) k ∧ lotsT L (nextT L t k) = stepL (lotsT L t) k
  | [], _ => ⟨rfl, rfl⟩
  | s :: r, hn => by
    obtain ⟨h1, h2⟩ := List.nodup_cons.mp hn
    obtain ⟨ih1, ih2⟩ := picT (t := r) h2
    have el : lotsT L (s :: r) = L.getD s [] :: lotsT L r := rfl
    by_cases hk : k ∈ L.getD s []
    · have hf : fitT L (s :: r) k = s :: fitT L r k := by
        unfold fitT
        rw [List.filter_cons, if_pos (by simpa using hk)]
      refine ⟨?_, ?_⟩
      · rw [hasK_first, el, first_cons, if_pos hk]
        unfold flagT
        rw [hf]
        simp
      · rw [next_cons hf, el, step_cons, if_pos hk, List.filter_cons, if_neg (by simp), filter_all]
        intro x hx
        have : x ≠ s := fun e => h1 (e ▸ hx)
        simpa using this
    · have hf : fitT L (s :: r) k = fitT L r k := by
        unfold fitT
        rw [List.filter_cons, if_neg (by simpa using hk)]
      refine ⟨?_, ?_⟩
      · have e1 : flagT L (s :: r) k = flagT L r k := by unfold flagT; rw [hf]
        rw [e1, ih1, hasK_first, hasK_first, el, first_cons, if_neg hk]
      · rw [el, step_cons, if_neg hk, ← ih2]
        cases q : fitT L r k with
        | nil => rw [next_nil (hf.trans q), next_nil q, el]
        | cons x xs =>
          have hx : x ∈ r := (List.mem_filter.mp (show x ∈ fitT L r k by rw [q]; exact List.mem_cons_self)).1
          have hsx : s ≠ x := fun e => h1 (e ▸ hx)
          rw [next_cons (hf.trans q), next_cons q, List.filter_cons, if_pos (by simpa using hsx)]
          rfl
theorem next_sub : (nextT L t k).Sublist t := by
  unfold nextT
  split
  · exact List.Sublist.refl t
  · exact List.filter_sublist
theorem reachT_sub (h : ReachT m L t) : t.Sublist (List.range L.length) := by
  induction h with
  | base => exact List.Sublist.refl _
  | step _ _ ih => exact next_sub.trans ih
theorem reachT_pw (h : ReachT m L t) : t.Pairwise (· < ·) := List.pairwise_lt_range.sublist (reachT_sub h)
theorem reachT_nd (h : ReachT m L t) : t.Nodup := List.nodup_range.sublist (reachT_sub h)
theorem reachT_lt (h : ReachT m L t) : ∀ s ∈ t, s < L.length := fun s hs => List.mem_range.mp ((reachT_sub h).subset hs)
/-- of those that tell the same the earlier are taken first -/
theorem reachT_up (h : ReachT m L t) : ∀ i ∈ t, ∀ j, i < j → j < L.length → L.getD j [] = L.getD i [] → j ∈ t := by
  induction h with
  | base => exact fun i _ j _ hj _ => List.mem_range.mpr hj
  | @step t k hr hk ih =>
    intro i hi j hij hj he
    have hit := next_sub.subset hi
    have hjt := ih i hit j hij hj he
    cases q : fitT L t k with
    | nil => rw [next_nil q]; exact hjt
    | cons s r =>
      rw [next_cons q] at hi ⊢
      refine List.mem_filter.mpr ⟨hjt, ?_⟩
      have hjs : j ≠ s := fun e => by
        have hs : s ∈ fitT L t k := by rw [q]; exact List.mem_cons_self
        have hks : k ∈ L.getD s [] := by simpa using (List.mem_filter.mp hs).2
        have hif : i ∈ fitT L t k := List.mem_filter.mpr ⟨hit, by rw [← he, e]; simpa using hks⟩
        have pw : (s :: r).Pairwise (· < ·) := by rw [← q]; exact (reachT_pw hr).sublist List.filter_sublist
        rw [q] at hif
        rcases List.mem_cons.mp hif with z | z
        · omega
        · have := (List.pairwise_cons.mp pw).1 i z
          omega
      simpa using hjs
theorem perm_count (h : (lotsT L t).Perm (lotsT L t')) (a : Lot) : (t.filter fun s => decide (L.getD s [] = a)).length = (t'.filter fun s => decide (L.getD s [] = a)).length := by
  have q := (h.filter fun x => decide (x = a)).length_eq
  unfold lotsT at q
  rw [List.filter_map, List.filter_map, List.length_map, List.length_map] at q
  exact q
theorem reachT_le (h : ReachT m L t) (h' : ReachT m L t') (hp : (lotsT L t).Perm (lotsT L t')) : ∀ x ∈ t, x ∈ t' := fun x hx => by
  apply Classical.byContradiction
  intro hn
  have hc := perm_count hp (L.getD x [])
  have hxl := reachT_lt h x hx
  let W := (List.range L.length).filter fun y => decide (x < y) && decide (L.getD y [] = L.getD x [])
  have c1 : (t'.filter fun s => decide (L.getD s [] = L.getD x [])).length ≤ W.length := by
    refine nodup_le _ _ ((reachT_nd h').sublist List.filter_sublist) fun y hy => ?_
    obtain ⟨hy1, hy2⟩ := List.mem_filter.mp hy
    have hy2 : L.getD y [] = L.getD x [] := by simpa using hy2
    refine List.mem_filter.mpr ⟨List.mem_range.mpr (reachT_lt h' y hy1), ?_⟩
    rw [Bool.and_eq_true, decide_eq_true_eq, decide_eq_true_eq]
    refine ⟨?_, hy2⟩
    rcases Nat.lt_trichotomy x y with z | z | z
    · exact z
    · exact absurd (z ▸ hy1) hn
    · exact absurd (reachT_up h' y hy1 x z hxl hy2.symm) hn
  have c2 : (x :: W).length ≤ (t.filter fun s => decide (L.getD s [] = L.getD x [])).length := by
    refine nodup_le _ _ (List.nodup_cons.mpr ⟨fun z => ?_, List.nodup_range.sublist List.filter_sublist⟩) fun y hy => ?_
    · have q := (List.mem_filter.mp z).2
      rw [Bool.and_eq_true, decide_eq_true_eq] at q
      omega
    · rcases List.mem_cons.mp hy with e | hy
      · rw [e]
        exact List.mem_filter.mpr ⟨hx, by simp⟩
      · obtain ⟨z1, z2⟩ := List.mem_filter.mp hy
        rw [Bool.and_eq_true, decide_eq_true_eq, decide_eq_true_eq] at z2
        exact List.mem_filter.mpr ⟨reachT_up h x hx y z2.1 (List.mem_range.mp z1) z2.2, by simpa using z2.2⟩
  rw [List.length_cons] at c2
  omega
theorem reachT_inj (h : ReachT m L t) (h' : ReachT m L t') (hp : (lotsT L t).Perm (lotsT L t')) : t = t' := by
  rw [← filter_range (reachT_pw h) (reachT_lt h), ← filter_range (reachT_pw h') (reachT_lt h')]
  refine List.filter_congr fun x _ => ?_
  rw [Bool.eq_iff_iff, decide_eq_true_eq, decide_eq_true_eq]
  exact ⟨reachT_le h h' hp x, reachT_le h' h hp.symm x⟩
theorem lotsT_all (L : Lots) : lotsT L (List.range L.length) = L := by
  unfold lotsT
  refine List.ext_getElem (by simp) fun i h1 h2 => ?_
  rw [List.getElem_map, List.getElem_range, List.getD_eq_getElem?_getD, List.getElem?_eq_getElem h2]
  rfl
/-- as the places, so the lists -/
theorem reachT_pic {M : Moves} (hM : RuleOk M m) (hs : Sim M m 0 L) (h : ReachT m L t) : ∃ s, s < M.length ∧ Sim M m s (lotsT L t) := by
  induction h with
  | base => exact ⟨0, hM.pos, by rw [lotsT_all]; exact hs⟩
  | @step t k hr hk ih =>
    obtain ⟨s, h1, h2⟩ := ih
    refine ⟨(mvR M s k).2, hM.next, ?_⟩
    rw [(picT (reachT_nd hr)).2]
    exact h2.step hk
theorem lotsT_sub (h : ReachT m L t) : (lotsT L t).Sublist L := by
  have q := (reachT_sub h).map fun s => L.getD s []
  rw [show (List.range L.length).map (fun s => L.getD s []) = L from lotsT_all L] at q
  exact q
theorem sim_form {M : Moves} {s : Nat} {C D : Lots} (h1 : Sim M m s C) (h2 : Sim M m s D) (v1 : ValidL m C) (v2 : ValidL m D) (l1 : C.length ≤ 12) (l2 : D.length ≤ 12) : leastOf C = leastOf D := by
  have a := cand_sim 13 s C [] h1 v1 l1 (by omega)
  have b := cand_sim 13 s D [] h2 v2 l2 (by omega)
  rw [a] at b
  simpa using b
/-- not more places than a rule has stands that answers as the list -/
theorem reachT_small {M : Moves} (hv : ValidL m L) (hl : L.length ≤ 12) (hM : RuleOk M m) (hs : Sim M m 0 L) : ∃ tt : List (List Nat), tt.length ≤ M.length ∧ ∀ t, ReachT m L t → t ∈ tt := by
  classical
  refine ⟨(List.range M.length).map fun s => if h : ∃ t, ReachT m L t ∧ Sim M m s (lotsT L t) then h.choose else [], by rw [List.length_map, List.length_range]; exact Nat.le_refl _, fun t ht => ?_⟩
  obtain ⟨s, hsl, hst⟩ := reachT_pic hM hs ht
  refine List.mem_map.mpr ⟨s, List.mem_range.mpr hsl, ?_⟩
  have hex : ∃ t, ReachT m L t ∧ Sim M m s (lotsT L t) := ⟨t, ht, hst⟩
  rw [dif_pos hex]
  obtain ⟨c1, c2⟩ := hex.choose_spec
  have s1 := lotsT_sub c1
  have s2 := lotsT_sub ht
  have q := sim_form c2 hst (hv.sub s1) (hv.sub s2) (Nat.le_trans s1.length_le hl) (Nat.le_trans s2.length_le hl)
  refine reachT_inj c1 ht ?_
  have p1 := (alike_least (lotsT L hex.choose)).perm
  have p2 := (alike_least (lotsT L t)).perm
  rw [q] at p1
  exact p1.trans p2.symm
theorem reachT_few (hl : L.length ≤ 5) : ∃ tt : List (List Nat), tt.length ≤ 60 ∧ ∀ t, ReachT m L t → t ∈ tt := by
  obtain ⟨tt, h1, h2⟩ := subs_len (List.range L.length)
  rw [List.length_range] at h1
  have : 2 ^ L.length ≤ 2 ^ 5 := Nat.pow_le_pow_right (by decide) hl
  exact ⟨tt, by omega, fun t ht => h2 t (reachT_sub ht)⟩
theorem drop_range {n j : Nat} (h : j < n) : (List.range n).drop j = j :: (List.range n).drop (j + 1) := by
  rw [List.drop_eq_getElem_cons (by rw [List.length_range]; exact h), List.getElem_range]
theorem reachT_same {a : Lot} {n : Nat} (hl : n ≤ 40) : ∃ tt : List (List Nat), tt.length ≤ 60 ∧ ∀ t, ReachT m (List.replicate n a) t → t ∈ tt := by
  refine ⟨(List.range (n + 1)).map fun j => (List.range n).drop j, by rw [List.length_map, List.length_range]; omega, fun t ht => ?_⟩
  have key : ∃ j, j ≤ n ∧ t = (List.range n).drop j := by
    induction ht with
    | base => exact ⟨0, Nat.zero_le _, by rw [List.length_replicate, List.drop_zero]⟩
    | @step t k hr hk ih =>
      obtain ⟨j, hj, e⟩ := ih
      have lk : ∀ s ∈ t, (List.replicate n a).getD s [] = a := fun s hs => by
        have := reachT_lt hr s hs
        rw [List.length_replicate] at this
        rw [List.getD_eq_getElem?_getD, List.getElem?_replicate, if_pos this]
        rfl
      by_cases hka : k ∈ a
      · have hf : fitT (List.replicate n a) t k = t := filter_all fun s hs => by rw [lk s hs]; simpa using hka
        by_cases hjn : j < n
        · have ec : fitT (List.replicate n a) t k = j :: (List.range n).drop (j + 1) := by rw [hf, e, drop_range hjn]
          refine ⟨j + 1, hjn, ?_⟩
          rw [next_cons ec, e, drop_range hjn, List.filter_cons, if_neg (by simp), filter_all]
          intro x hx
          have pw : ((List.range n).drop j).Pairwise (· < ·) := List.pairwise_lt_range.sublist (List.drop_sublist j _)
          rw [drop_range hjn] at pw
          have := (List.pairwise_cons.mp pw).1 x hx
          have : x ≠ j := by omega
          simpa using this
        · have e0 : t = [] := by rw [e]; exact List.drop_eq_nil_of_le (by rw [List.length_range]; omega)
          refine ⟨j, hj, ?_⟩
          rw [next_nil (by rw [hf, e0]), ← e]
      · refine ⟨j, hj, ?_⟩
        rw [next_nil ?_, ← e]
        unfold fitT
        rw [List.filter_eq_nil_iff]
        intro s hs
        rw [lk s hs]
        simpa using hka
  obtain ⟨j, hj, e⟩ := key
  exact List.mem_map.mpr ⟨j, List.mem_range.mpr (by omega), e.symm⟩
/-! ### never back -/
inductive Sub1 : Lots → Lots → Prop
  | refl (X : Lots) : Sub1 X X
  | drop (a : Lot) (X : Lots) : Sub1 X (a :: X)
  | cons (a : Lot) {X Y : Lots} : Sub1 X Y → Sub1 (a :: X) (a :: Y)
theorem sub1_one : ∀ (Y : Lots) (k : Nat), Sub1 (stepL Y k) Y
  | [], _ => .refl _
  | a :: Y, k => by
    rw [step_cons]
    by_cases h : k ∈ a
    · rw [if_pos h]; exact .drop a Y
    · rw [if_neg h]; exact .cons a (sub1_one Y k)
theorem Sub1.step {X Y : Lots} (h : Sub1 X Y) (k : Nat) : Sub1 (stepL X k) (stepL Y k) := by
  induction h with
  | refl X => exact .refl _
  | drop a X =>
    rw [step_cons]
    by_cases h : k ∈ a
    · rw [if_pos h]; exact sub1_one X k
    · rw [if_neg h]; exact .drop a _
  | cons a _ ih =>
    rw [step_cons, step_cons]
    by_cases h : k ∈ a
    · rw [if_pos h, if_pos h]; assumption
    · rw [if_neg h, if_neg h]; exact .cons a ih
theorem Sub1.mem {X Y : Lots} (h : Sub1 X Y) : ∀ b ∈ X, b ∈ Y := by
  induction h with
  | refl X => exact fun b hb => hb
  | drop a X => exact fun b hb => List.mem_cons_of_mem a hb
  | cons a _ ih => exact fun b hb => (List.mem_cons.mp hb).elim (fun e => by rw [e]; exact List.mem_cons_self) fun z => List.mem_cons_of_mem _ (ih b z)
theorem Sub1.has {X Y : Lots} (h : Sub1 X Y) {k : Nat} (hk : hasK X k = true) : hasK Y k = true := by
  obtain ⟨b, hb, e⟩ := hasK_iff.mp hk
  exact hasK_iff.mpr ⟨b, h.mem b hb, e⟩
theorem nb_sim {M : Moves} (hs : Sim M m 0 L) : NB M m := by
  have r1 : ∀ s, Reach1 M m 0 s → ∃ C, Sim M m s C := fun s h => by
    have key : ∀ a, a = 0 → ∀ s, Reach1 M m a s → ∃ C, Sim M m s C := fun a ha s h => by
      induction h with
      | base => rw [ha]; exact ⟨L, hs⟩
      | step _ hk ih =>
        obtain ⟨C, hC⟩ := ih
        exact ⟨_, hC.step hk⟩
    exact key 0 rfl s h
  refine ⟨fun s h k hk hf p hp => ?_, fun p hp k hk hf => ?_⟩
  · obtain ⟨C, hC⟩ := r1 s h
    have hn : hasK C k = false := by rw [← hC.flag hk]; exact hf
    have key : ∃ D, Sim M m p.1 D ∧ ∀ b ∈ D, b ∈ C := by
      induction hp with
      | base e => rw [e]; exact ⟨_, hC.step hk, fun b hb => (step_sub C k).subset hb⟩
      | @step q j _ hj ih =>
        obtain ⟨D, h1, h2⟩ := ih
        exact ⟨_, h1.step hj, fun b hb => h2 b ((step_sub D j).subset hb)⟩
    obtain ⟨D, h1, h2⟩ := key
    rw [h1.flag hk]
    cases q : hasK D k with
    | false => rfl
    | true =>
      obtain ⟨b, hb, e⟩ := hasK_iff.mp q
      rw [hasK_iff.mpr ⟨b, h2 b hb, e⟩] at hn
      cases hn
  · have key : ∃ D1 D2, Sim M m p.1 D1 ∧ Sim M m p.2 D2 ∧ Sub1 D1 D2 := by
      clear hf
      induction hp with
      | base e =>
        obtain ⟨s, j, h1, h2, e⟩ := e
        obtain ⟨C, hC⟩ := r1 s h1
        rw [e]
        exact ⟨_, C, hC.step h2, hC, sub1_one C j⟩
      | @step q j _ hj ih =>
        obtain ⟨D1, D2, h1, h2, h3⟩ := ih
        exact ⟨_, _, h1.step hj, h2.step hj, h3.step j⟩
    obtain ⟨D1, D2, h1, h2, h3⟩ := key
    rw [h1.flag hk] at hf
    rw [h2.flag hk]
    exact h3.has hf
end
end K13
end
section
set_option Elab.async false
set_option linter.all false
set_option maxRecDepth 100000
set_option maxHeartbeats 4000000
set_option autoImplicit false
/-! data-level reasoning over HandS: data, environments, judgements without heaps -/
namespace K13
open PySem PySem.Spec PyProof.Rows L2
abbrev Sg := L2.St

/-! ### data -/
inductive Dt where
  | non | bl (b : Bool) | int (i : Int) | str (x : Str) | tup (ds : List Dt) | obj (C : Addr) (fs : List (Str × Dt))
  /-- what stands there, untold -/
  | adr (a : Addr)
mutual
inductive DT (H : Hp) : V → Dt → Prop
  | non : DT H .non .non
  | bl (b : Bool) : DT H (.bl b) (.bl b)
  | int (i : Int) : DT H (.int i) (.int i)
  | str (x : Str) : DT H (.str x) (.str x)
  | tup {a : Addr} {xs : List V} {ds : List Dt} : H a = some (.tup xs) → DTs H xs ds → DT H (.ref a) (.tup ds)
  | obj {a C dx : Addr} {fv : List (Str × V)} {fs : List (Str × Dt)} : H a = some (.ins C dx fv) → DTf H fv fs → DT H (.ref a) (.obj C fs)
  | adr (a : Addr) : DT H (.ref a) (.adr a)
inductive DTs (H : Hp) : List V → List Dt → Prop
  | nil : DTs H [] []
  | cons {v : V} {vs : List V} {d : Dt} {ds : List Dt} : DT H v d → DTs H vs ds → DTs H (v :: vs) (d :: ds)
inductive DTf (H : Hp) : List (Str × V) → List (Str × Dt) → Prop
  | nil : DTf H [] []
  | cons {f : Str} {v : V} {fv : List (Str × V)} {d : Dt} {fs : List (Str × Dt)} : DT H v d → DTf H fv fs → DTf H ((f, v) :: fv) ((f, d) :: fs)
end
/-- tuples and instances stay -/
def isTI : HO → Bool
  | .tup _ => true
  | .ins _ _ _ => true
  | _ => false
def Kp (H H' : Hp) : Prop := ∀ a o, H a = some o → isTI o = true → H' a = some o
theorem Kp.refl (H : Hp) : Kp H H := fun _ _ h _ => h
theorem Kp.trans {H H1 H2 : Hp} (a : Kp H H1) (b : Kp H1 H2) : Kp H H2 := fun c o h t => b c o (a c o h t) t
mutual
theorem DT.kp {H H' : Hp} (k : Kp H H') : ∀ {v : V} {d : Dt}, DT H v d → DT H' v d
  | _, _, .non => .non
  | _, _, .bl b => .bl b
  | _, _, .int i => .int i
  | _, _, .str x => .str x
  | _, _, .tup h r => .tup (k _ _ h rfl) (DTs.kp k r)
  | _, _, .obj h r => .obj (k _ _ h rfl) (DTf.kp k r)
  | _, _, .adr a => .adr a
theorem DTs.kp {H H' : Hp} (k : Kp H H') : ∀ {vs : List V} {ds : List Dt}, DTs H vs ds → DTs H' vs ds
  | _, _, .nil => .nil
  | _, _, .cons h r => .cons (DT.kp k h) (DTs.kp k r)
theorem DTf.kp {H H' : Hp} (k : Kp H H') : ∀ {vs : List (Str × V)} {ds : List (Str × Dt)}, DTf H vs ds → DTf H' vs ds
  | _, _, .nil => .nil
  | _, _, .cons h r => .cons (DT.kp k h) (DTf.kp k r)
end
theorem DTs.len {H : Hp} : ∀ {vs : List V} {ds : List Dt}, DTs H vs ds → vs.length = ds.length
  | _, _, .nil => rfl
  | _, _, .cons _ r => by rw [List.length_cons, List.length_cons, DTs.len r]
theorem DTs.get {H : Hp} : ∀ {vs : List V} {ds : List Dt} {i : Nat} {d : Dt}, DTs H vs ds → ds[i]? = some d → ∃ v, vs[i]? = some v ∧ DT H v d
  | _, _, _, _, .nil, e => by simp at e
  | _, _, 0, _, .cons h _, e => by simp at e; subst e; exact ⟨_, rfl, h⟩
  | _, _, i + 1, d, .cons _ r, e => by
    obtain ⟨v, h1, h2⟩ := DTs.get (i := i) (d := d) r (by simpa using e)
    exact ⟨v, by simpa using h1, h2⟩
theorem DTs.back {H : Hp} : ∀ {vs : List V} {ds : List Dt} {i : Nat} {v : V}, DTs H vs ds → vs[i]? = some v → ∃ d, ds[i]? = some d ∧ DT H v d
  | _, _, _, _, .nil, e => by simp at e
  | _, _, 0, _, .cons h _, e => by simp at e; subst e; exact ⟨_, rfl, h⟩
  | _, _, i + 1, v, .cons _ r, e => by
    obtain ⟨d, h1, h2⟩ := DTs.back (i := i) (v := v) r (by simpa using e)
    exact ⟨d, by simpa using h1, h2⟩
theorem DTs.app {H : Hp} : ∀ {vs ws : List V} {ds es : List Dt}, DTs H vs ds → DTs H ws es → DTs H (vs ++ ws) (ds ++ es)
  | _, _, _, _, .nil, q => q
  | _, _, _, _, .cons h r, q => .cons h (DTs.app r q)
theorem DTs.one {H : Hp} {v : V} {d : Dt} (h : DT H v d) : DTs H [v] [d] := .cons h .nil
theorem DTs.snoc {H : Hp} {vs : List V} {ds : List Dt} {v : V} {d : Dt} (r : DTs H vs ds) (h : DT H v d) : DTs H (vs ++ [v]) (ds ++ [d]) := r.app (.one h)
theorem DTs.take {H : Hp} : ∀ {vs : List V} {ds : List Dt} (n : Nat), DTs H vs ds → DTs H (vs.take n) (ds.take n)
  | _, _, 0, _ => .nil
  | _, _, _ + 1, .nil => .nil
  | _, _, n + 1, .cons h r => .cons h (DTs.take n r)
theorem DTs.drop {H : Hp} : ∀ {vs : List V} {ds : List Dt} (n : Nat), DTs H vs ds → DTs H (vs.drop n) (ds.drop n)
  | _, _, 0, r => r
  | _, _, _ + 1, .nil => .nil
  | _, _, n + 1, .cons _ r => DTs.drop n r
theorem DTs.set {H : Hp} {v : V} {d : Dt} (h : DT H v d) : ∀ {vs : List V} {ds : List Dt} (n : Nat), DTs H vs ds → DTs H (vs.set n v) (ds.set n d)
  | _, _, _, .nil => .nil
  | _, _, 0, .cons _ r => .cons h r
  | _, _, n + 1, .cons q r => .cons q (DTs.set h n r)
theorem DTs.rep {H : Hp} {v : V} {d : Dt} (h : DT H v d) : ∀ n : Nat, DTs H (List.replicate n v) (List.replicate n d)
  | 0 => .nil
  | n + 1 => .cons h (DTs.rep h n)
theorem DTf.get {H : Hp} : ∀ {fv : List (Str × V)} {fs : List (Str × Dt)} {f : Str} {d : Dt}, DTf H fv fs → fs.lookup f = some d → ∃ v, fv.lookup f = some v ∧ DT H v d
  | _, _, f, d, .nil, e => by cases e
  | _, _, f, d, .cons (f := g) h r, e => by
    rw [List.lookup_cons] at e ⊢
    cases q : f == g with
    | true =>
      rw [q] at e
      cases e
      exact ⟨_, rfl, h⟩
    | false =>
      rw [q] at e
      exact DTf.get r e
theorem DT.tup_inv {H : Hp} {v : V} {ds : List Dt} (h : DT H v (.tup ds)) : ∃ a xs, v = .ref a ∧ H a = some (.tup xs) ∧ DTs H xs ds := by
  cases h with
  | tup h r => exact ⟨_, _, rfl, h, r⟩
theorem DT.obj_inv {H : Hp} {v : V} {C : Addr} {fs : List (Str × Dt)} (h : DT H v (.obj C fs)) : ∃ a dx fv, v = .ref a ∧ H a = some (.ins C dx fv) ∧ DTf H fv fs := by
  cases h with
  | obj h r => exact ⟨_, _, _, rfl, h, r⟩
theorem DT.int_inv {H : Hp} {v : V} {i : Int} (h : DT H v (.int i)) : v = .int i := by cases h; rfl
theorem DT.bl_inv {H : Hp} {v : V} {b : Bool} (h : DT H v (.bl b)) : v = .bl b := by cases h; rfl
theorem DT.str_inv {H : Hp} {v : V} {x : Str} (h : DT H v (.str x)) : v = .str x := by cases h; rfl
theorem DT.non_inv {H : Hp} {v : V} (h : DT H v .non) : v = .non := by cases h; rfl
theorem DT.not_non {H : Hp} {v : V} {d : Dt} (h : DT H v d) (hd : d ≠ .non) : v ≠ .non := by
  intro e
  subst e
  cases h
  exact hd rfl
/-- items all of one sort -/
theorem DTs.ints {H : Hp} : ∀ {vs : List V} {ns : List Int}, DTs H vs (ns.map .int) → vs = ns.map V.int
  | _, [], h => by cases h; rfl
  | _, n :: ns, h => by
    cases h with
    | cons h r => rw [h.int_inv, DTs.ints r]; rfl
theorem DTs.of_ints {H : Hp} : ∀ (ns : List Int), DTs H (ns.map V.int) (ns.map .int)
  | [] => .nil
  | n :: ns => .cons (.int n) (DTs.of_ints ns)
theorem DTs.bls {H : Hp} : ∀ {vs : List V} {ns : List Bool}, DTs H vs (ns.map .bl) → vs = ns.map V.bl
  | _, [], h => by cases h; rfl
  | _, n :: ns, h => by
    cases h with
    | cons h r => rw [h.bl_inv, DTs.bls r]; rfl
theorem DTs.strs {H : Hp} : ∀ {vs : List V} {ns : List Str}, DTs H vs (ns.map .str) → vs = ns.map V.str
  | _, [], h => by cases h; rfl
  | _, n :: ns, h => by
    cases h with
    | cons h r => rw [h.str_inv, DTs.strs r]; rfl
theorem DTs.of_strs {H : Hp} : ∀ (ns : List Str), DTs H (ns.map V.str) (ns.map .str)
  | [] => .nil
  | n :: ns => .cons (.str n) (DTs.of_strs ns)

/-! ### what is volatile: the law's tape, a table of code objects -/
/-- no table, no code object -/
def Ord (o : HO) : Prop := (∀ ps, o ≠ .tbl ps) ∧ ∀ c q, o ≠ LamX.CodeO c q
def ordB : HO → Bool
  | .tbl _ => false
  | .ext _ => false
  | _ => true
theorem Ord.b {o : HO} (h : ordB o = true) : Ord o := ⟨(fun ps z => by rw [z] at h; cases h), (fun c q z => by rw [z] at h; cases h)⟩
structure Vol where
  w : World
  bad : Addr → HO → Prop
  inv : Hp → Prop
  nb : ∀ a o, bad a o → isTI o = false
  ex : ∀ H H', inv H → Same H H' → inv H'
  nw : ∀ H p o, inv H → H p = none → Ord o → ¬ bad p o
  st : ∀ H a o o', inv H → H a = some o → isTI o = false → ¬ bad a o → Ord o' → inv (upd H a o')
  sb : ∀ H a o o', inv H → H a = some o → ¬ bad a o → Ord o' → ¬ bad a o'
/-- nothing -/
def V0 (w : World) : Vol := ⟨w, fun _ _ => False, fun _ => True, fun _ _ h => h.elim, fun _ _ _ _ => trivial, fun _ _ _ _ _ _ h => h, fun _ _ _ _ _ _ _ _ _ => trivial, fun _ _ _ _ _ _ _ _ h => h⟩
def Xt (U : Vol) (H H' : Hp) : Prop := (∀ a o, H a = some o → ¬ U.bad a o → H' a = some o) ∧ ∀ a, H a ≠ none → H' a ≠ none
section
variable {U : Vol} {H H1 H2 H' : Hp}
theorem Xt.refl : Xt U H H := ⟨fun _ _ h _ => h, fun _ h => h⟩
theorem Xt.trans (a : Xt U H H1) (b : Xt U H1 H2) : Xt U H H2 := ⟨fun c o h n => b.1 c o (a.1 c o h n) n, fun c h => b.2 c (a.2 c h)⟩
theorem Xt.kp (a : Xt U H H') : Kp H H' := fun c o h t => a.1 c o h fun b => by
  have q := U.nb c o b
  rw [t] at q
  cases q
theorem same_some {H H' : Hp} (s : Same H H') {c : Addr} (h : H c ≠ none) : H' c ≠ none := fun e => by
  cases q : H c with
  | none => exact h q
  | some o =>
    rw [s c o q] at e
    cases e
theorem Xt.of (s : Same H H') : Xt U H H' := ⟨fun c o h _ => s c o h, fun c h => same_some s h⟩
theorem Xt.same {w : World} (a : Xt (V0 w) H H') : Same H H' := fun c o h => a.1 c o h id
theorem Xt.free (a : Xt U H H') {p : Addr} (h : H' p = none) : H p = none := by
  cases q : H p with
  | none => rfl
  | some o => exact absurd h (a.2 p (by rw [q]; exact fun z => by cases z))
theorem same_new {p : Addr} {o : HO} (h : H p = none) : Same H (upd H p o) := fun b x e => by
  rw [upd_ne (ne_of_none e h)]
  exact e
end

/-! ### dicts by tuples -/
def nkOf : Dt → NestedKey
  | .non => .none
  | .bl b => .num (if b then 1 else 0)
  | .int i => .num i
  | .str x => .text x
  | .tup ds => .tup (go ds)
  | .obj _ _ => .none
  | .adr _ => .none
where go : List Dt → List NestedKey
  | [] => []
  | d :: ds => nkOf d :: go ds
/-- a datum that may be a key, at most n deep -/
def keyB : Nat → Dt → Bool
  | _, .non => true
  | _, .bl _ => false
  | _, .int _ => true
  | _, .str _ => true
  | 0, .tup _ => false
  | n + 1, .tup ds => ds.all (keyB n)
  | _, .obj _ _ => false
  | _, .adr _ => false
/-- the dict at d: keys, where their tuples stand, values -/
abbrev NEs := List (NestedKey × Addr × V)
def nEnt (w : World) (k : NestedKey) (a : Addr) (u : Value) : DictEntry := ⟨k.hash w, .ref a, u⟩
def NDictO (w : World) (d : Addr) (xs : NEs) : HO := .ext fun h => ∃ (us : List Value) (o : Obj) (es : Array DictEntry) (ep : Nat), Vals (xs.map fun x => x.2.2) us ∧
  h.get? d = some o ∧ o.ExactDict ∧ o.data = .dict es ep ∧ es.toList = (xs.zip us).map (fun p => nEnt w p.1.1 p.1.2.1 p.2) ∧ (xs.map (·.1)).Nodup ∧ (d == sysModules) = false ∧ xs.length ≤ sizeLine

theorem ext_inj {p q : Heap → Prop} (h : HO.ext p = HO.ext q) : p = q := by cases h; rfl
theorem ord_nd {w : World} {d : Addr} {xs : NEs} : Ord (NDictO w d xs) := by
  refine ⟨(fun ps z => by cases z), fun c q z => ?_⟩
  have e := ext_inj z
  have ho : ∀ a, a < c + 1 → (⟨Array.replicate (c + 1) ⟨.none, none, .fields #[.none, .str q 0], #[]⟩, {}⟩ : Heap).get? a = some ⟨.none, none, .fields #[.none, .str q 0], #[]⟩ := fun a ha => by
    unfold Heap.get?
    rw [Array.getElem?_replicate, if_pos ha]
  have h2 := congrFun e (⟨Array.replicate (c + 1) ⟨.none, none, .fields #[.none, .str q 0], #[]⟩, {}⟩ : Heap)
  have h3 := h2.mpr ⟨_, _, 0, ho c (Nat.lt_succ_self c), rfl, rfl⟩
  obtain ⟨us, o, es, ep, _, g, _, dt, _⟩ := h3
  by_cases hd : d < c + 1
  · rw [ho d hd] at g
    cases g
    cases dt
  · unfold Heap.get? at g
    rw [Array.getElem?_replicate, if_neg hd] at g
    cases g
/-! ### slots -/
inductive Sl where
  | dat (d : Dt)
  /-- a list that is read | of one's own -/
  | rl (ds : List Dt) | ol (ds : List Dt)
  /-- a dict of one's own by ints | by tuples, its pairs in order -/
  | oi (kvs : List (Int × V)) | on (kvs : List (Dt × V))
  /-- a list that is read, its place told -/
  | ra (b : Addr) (ds : List Dt)
abbrev DEnv := List (Option Sl)
def Sl.own : Sl → Bool
  | .ol _ => true
  | .oi _ => true
  | .on _ => true
  | _ => false
def Sl.mut : Sl → Bool
  | .dat _ => false
  | _ => true
def ikeys (kvs : List (Int × V)) : List (Key × V) := kvs.map fun p => (Sum.inl p.1, p.2)
/-- the pairs of a dict by tuples, in H -/
inductive NKs (H : Hp) : List (Dt × V) → NEs → Prop
  | nil : NKs H [] []
  | cons {d : Dt} {v : V} {a : Addr} {kvs : List (Dt × V)} {xs : NEs} : keyB 8 d = true → DT H (.ref a) d → NKs H kvs xs → NKs H ((d, v) :: kvs) ((nkOf d, a, v) :: xs)
theorem NKs.kp {H H' : Hp} (k : Kp H H') {kvs : List (Dt × V)} {xs : NEs} (h : NKs H kvs xs) : NKs H' kvs xs := by
  induction h with
  | nil => exact .nil
  | cons hk h _ ih => exact .cons hk (h.kp k) ih
def Hold (U : Vol) (H : Hp) (v : V) : Sl → Prop
  | .dat d => DT H v d
  | .rl ds => ∃ a xs, v = .ref a ∧ H a = some (.lst xs) ∧ ¬ U.bad a (.lst xs) ∧ DTs H xs ds
  | .ol ds => ∃ a xs, v = .ref a ∧ H a = some (.lst xs) ∧ ¬ U.bad a (.lst xs) ∧ DTs H xs ds
  | .oi kvs => ∃ a, v = .ref a ∧ H a = some (.dK (ikeys kvs)) ∧ ¬ U.bad a (.dK (ikeys kvs))
  | .on kvs => ∃ a xs, v = .ref a ∧ H a = some (NDictO U.w a xs) ∧ ¬ U.bad a (NDictO U.w a xs) ∧ NKs H kvs xs
  | .ra b ds => ∃ a xs, v = .ref a ∧ H a = some (.lst xs) ∧ ¬ U.bad a (.lst xs) ∧ (DTs H xs ds ∧ a = b)
theorem Hold.xt {U : Vol} {H H' : Hp} (x : Xt U H H') {v : V} : ∀ {s : Sl}, Hold U H v s → Hold U H' v s
  | .dat _, h => DT.kp x.kp h
  | .rl _, h => let ⟨a, xs, e, h1, h2, h3⟩ := h; ⟨a, xs, e, x.1 a _ h1 h2, h2, h3.kp x.kp⟩
  | .ol _, h => let ⟨a, xs, e, h1, h2, h3⟩ := h; ⟨a, xs, e, x.1 a _ h1 h2, h2, h3.kp x.kp⟩
  | .oi _, h => let ⟨a, e, h1, h2⟩ := h; ⟨a, e, x.1 a _ h1 h2, h2⟩
  | .on _, h => let ⟨a, xs, e, h1, h2, h3⟩ := h; ⟨a, xs, e, x.1 a _ h1 h2, h2, h3.kp x.kp⟩
  | .ra _ _, h => let ⟨a, xs, e, h1, h2, h3⟩ := h; ⟨a, xs, e, x.1 a _ h1 h2, h2, h3.1.kp x.kp, h3.2⟩
theorem Hold.at_ {U : Vol} {H : Hp} {v : V} : ∀ {s : Sl}, Hold U H v s → s.mut = true → ∃ a o, v = .ref a ∧ H a = some o ∧ isTI o = false ∧ ¬ U.bad a o
  | .dat _, _, h => by cases h
  | .rl _, h, _ => let ⟨a, xs, e, h1, h2, _⟩ := h; ⟨a, _, e, h1, rfl, h2⟩
  | .ol _, h, _ => let ⟨a, xs, e, h1, h2, _⟩ := h; ⟨a, _, e, h1, rfl, h2⟩
  | .oi _, h, _ => let ⟨a, e, h1, h2⟩ := h; ⟨a, _, e, h1, rfl, h2⟩
  | .on _, h, _ => let ⟨a, xs, e, h1, h2, _⟩ := h; ⟨a, _, e, h1, rfl, h2⟩
  | .ra _ _, h, _ => let ⟨a, xs, e, h1, h2, _⟩ := h; ⟨a, _, e, h1, rfl, h2⟩
/-- .. and new, where it is one's own -/
def HoldN (U : Vol) (H H' : Hp) (v : V) (s : Sl) : Prop := Hold U H' v s ∧ (s.own = true → ∀ a, v = .ref a → H a = none)
structure SD (U : Vol) (H0 : Hp) (E : DEnv) (σ : Sg) (H : Hp) : Prop where
  len : E.length = σ.length
  xt : Xt U H0 H
  inv : U.inv H
  sl : ∀ (i : Nat) (s : Sl), E[i]? = some (some s) → ∃ v, σ[i]? = some (some v) ∧ HoldN U H0 H v s
  sep : ∀ (i j : Nat) (s t : Sl) (v : V), i ≠ j → E[i]? = some (some s) → E[j]? = some (some t) → s.own = true → t.mut = true → σ[i]? = some (some v) → σ[j]? ≠ some (some v)
section
variable {U : Vol} {H0 H H' : Hp} {E E' : DEnv} {σ : Sg}
theorem SD.go (S : SD U H0 E σ H) (x : Xt U H H') (i : U.inv H') : SD U H0 E σ H' :=
  ⟨S.len, S.xt.trans x, i, fun j s e => let ⟨v, h1, h2, h3⟩ := S.sl j s e; ⟨v, h1, h2.xt x, h3⟩, S.sep⟩
theorem SD.same (S : SD U H0 E σ H) (x : Same H H') : SD U H0 E σ H' := S.go (.of x) (U.ex _ _ S.inv x)
/-- what is known of a slot may be forgotten; a list of one's own may be one that is read -/
def Wk : Option Sl → Option Sl → Prop
  | _, none => True
  | some (.ol ds), some (.rl es) => ds = es
  | some s, some t => s = t
  | none, some _ => False
def Fg : DEnv → DEnv → Prop
  | [], [] => True
  | a :: r, b :: q => Wk a b ∧ Fg r q
  | _, _ => False
theorem Wk.some {a : Option Sl} {t : Sl} (h : Wk a (some t)) : ∃ s, a = some s ∧ (s = t ∨ ∃ ds, s = .ol ds ∧ t = .rl ds) := by
  cases a with
  | none => cases t <;> exact False.elim h
  | some s =>
    cases s with
    | ol ds =>
      cases t with
      | rl es => exact ⟨_, rfl, .inr ⟨ds, rfl, by rw [show ds = es from h]⟩⟩
      | _ => exact ⟨_, rfl, .inl h⟩
    | _ => exact ⟨_, rfl, .inl (by cases t <;> exact h)⟩
theorem Fg.len : ∀ {E E' : DEnv}, Fg E E' → E.length = E'.length
  | [], [], _ => rfl
  | _ :: _, [], h => False.elim h
  | [], _ :: _, h => False.elim h
  | _ :: _, _ :: _, h => by rw [List.length_cons, List.length_cons, Fg.len h.2]
theorem Fg.get : ∀ {E E' : DEnv} {i : Nat} {t : Sl}, Fg E E' → E'[i]? = some (some t) → ∃ s, E[i]? = some (some s) ∧ (s = t ∨ ∃ ds, s = .ol ds ∧ t = .rl ds)
  | [], [], _, _, _, e => by simp at e
  | _ :: _, [], _, _, h, _ => False.elim h
  | [], _ :: _, _, _, h, _ => False.elim h
  | a :: _, b :: _, 0, t, h, e => by
    simp at e
    subst e
    obtain ⟨s, h1, h2⟩ := Wk.some h.1
    exact ⟨s, by simp [h1], h2⟩
  | a :: r, b :: q, i + 1, t, h, e => by
    obtain ⟨s, h1, h2⟩ := Fg.get (i := i) (t := t) h.2 (by simpa using e)
    exact ⟨s, by simpa using h1, h2⟩
theorem SD.fg (S : SD U H0 E σ H) (f : Fg E E') : SD U H0 E' σ H := by
  have own : ∀ {s t : Sl}, (s = t ∨ ∃ ds, s = .ol ds ∧ t = .rl ds) → t.own = true → s = t := fun {s t} h o => by
    rcases h with h | ⟨ds, _, h⟩
    · exact h
    · rw [h] at o
      cases o
  have mu : ∀ {s t : Sl}, (s = t ∨ ∃ ds, s = .ol ds ∧ t = .rl ds) → t.mut = true → s.mut = true := fun {s t} h o => by
    rcases h with h | ⟨ds, h, _⟩
    · rw [h]; exact o
    · rw [h]; rfl
  refine ⟨f.len.symm.trans S.len, S.xt, S.inv, fun i t e => ?_, fun i j s t v ne e1 e2 o m => ?_⟩
  · obtain ⟨s, h1, h2⟩ := f.get e
    obtain ⟨v, hv, h3, h4⟩ := S.sl i s h1
    refine ⟨v, hv, ?_⟩
    rcases h2 with h2 | ⟨ds, h2, h5⟩
    · rw [← h2]; exact ⟨h3, h4⟩
    · rw [h5]
      rw [h2] at h3
      exact ⟨h3, fun z => by cases z⟩
  · obtain ⟨s', h1, h2⟩ := f.get e1
    obtain ⟨t', h3, h4⟩ := f.get e2
    have q := own h2 o
    subst q
    exact S.sep i j s' t' v ne h1 h3 o (mu h4 m)
theorem set_get {α : Type} {l : List α} {i j : Nat} {x y : α} (h : (l.set i x)[j]? = some y) : (j = i ∧ y = x ∧ i < l.length) ∨ (j ≠ i ∧ l[j]? = some y) := by
  by_cases e : j = i
  · subst e
    by_cases hl : j < l.length
    · rw [List.getElem?_set_self hl] at h
      exact .inl ⟨rfl, (Option.some.inj h).symm, hl⟩
    · rw [List.getElem?_eq_none (by simpa using hl)] at h
      cases h
  · rw [List.getElem?_set_ne (Ne.symm e)] at h
    exact .inr ⟨e, h⟩
/-- a slot gets a datum, or a thing that is new -/
theorem SD.set {i : Nat} {v : V} {s : Sl} (S : SD U H0 E σ H) (x : Xt U H H') (iv : U.inv H') (h : HoldN U H H' v s) (hr : s.mut = true → s.own = true) : SD U H0 (E.set i (some s)) (σ.set i (some v)) H' := by
  have S' := S.go x iv
  refine ⟨by rw [List.length_set, List.length_set]; exact S.len, S'.xt, iv, fun j t e => ?_, fun j k t u y ne e1 e2 o m e3 e4 => ?_⟩
  · rcases set_get e with ⟨rfl, e, hl⟩ | ⟨ne, e⟩
    · cases e
      refine ⟨v, by rw [List.getElem?_set_self (by rw [← S.len]; exact hl)], h.1, fun o a ea => S.xt.free (h.2 o a ea)⟩
    · obtain ⟨y, h1, h2⟩ := S'.sl j t e
      exact ⟨y, by rw [List.getElem?_set_ne (Ne.symm ne)]; exact h1, h2⟩
  · rcases set_get e1 with ⟨rfl, e1, hl⟩ | ⟨n1, e1'⟩
    · cases e1
      rcases set_get e2 with ⟨z, _, _⟩ | ⟨n2, e2⟩
      · exact ne z.symm
      · rw [List.getElem?_set_self (by rw [← S.len]; exact hl)] at e3
        cases e3
        rw [List.getElem?_set_ne (Ne.symm n2)] at e4
        obtain ⟨y, h1, h2, _⟩ := S.sl k u e2
        rw [e4] at h1
        cases h1
        obtain ⟨a, o', ea, h3, _⟩ := h2.at_ m
        have q := h.2 o a ea
        rw [h3] at q
        cases q
    · rw [List.getElem?_set_ne (Ne.symm n1)] at e3
      rcases set_get e2 with ⟨rfl, e2, hl⟩ | ⟨n2, e2⟩
      · cases e2
        rw [List.getElem?_set_self (by rw [← S.len]; exact hl)] at e4
        cases e4
        obtain ⟨y, h1, h2, _⟩ := S.sl j t e1'
        rw [e3] at h1
        cases h1
        obtain ⟨a, o', ea, h3, _⟩ := h2.at_ (by cases t <;> first | rfl | cases o)
        have q := h.2 (hr m) a ea
        rw [h3] at q
        cases q
      · rw [List.getElem?_set_ne (Ne.symm n2)] at e4
        exact S.sep j k t u y ne e1' e2 o m e3 e4
end
end K13
end
section
set_option Elab.async false
set_option linter.all false
set_option maxRecDepth 100000
set_option maxHeartbeats 4000000
set_option autoImplicit false
/-! data-level reasoning: expressions, tests, arguments, statements -/
namespace K13
open PySem PySem.Spec PyProof.Rows L2

/-- what an expression gives, behind H -/
abbrev Post (U : Vol) (H : Hp) (P : Sl → Prop) (Q : VK) : Prop := ∀ v H' s, Xt U H H' → U.inv H' → P s → HoldN U H H' v s → Q v H'
def EvP (U : Vol) (te : TE) (E : DEnv) (P : Sl → Prop) : Prop := ∀ H0 σ H, SD U H0 E σ H → ∀ Q : VK, Post U H P Q → te σ H Q
abbrev EvD (U : Vol) (te : TE) (E : DEnv) (d : Dt) : Prop := EvP U te E (· = .dat d)
def EvB (U : Vol) (tt : TT) (E : DEnv) (P : Bool → Prop) : Prop := ∀ H0 σ H, SD U H0 E σ H → ∀ Q : Bool → Hp → Prop, (∀ b H', Xt U H H' → U.inv H' → P b → Q b H') → tt σ H Q
inductive HAll (U : Vol) (H : Hp) : List V → List Sl → Prop
  | nil : HAll U H [] []
  | cons {v : V} {vs : List V} {s : Sl} {ss : List Sl} : Hold U H v s → HAll U H vs ss → HAll U H (v :: vs) (s :: ss)
def EvA (U : Vol) (ta : TA) (E : DEnv) (P : List Sl → Prop) : Prop := ∀ H0 σ H, SD U H0 E σ H → ∀ Q : List V → Hp → Prop, (∀ vs H' ss, Xt U H H' → U.inv H' → P ss → HAll U H' vs ss → Q vs H') → ta σ H Q
/-- operations by values -/
def RP (U : Vol) (r : R2) (s t : Sl) (C : Sl → Prop) : Prop := ∀ H x y, U.inv H → Hold U H x s → Hold U H y t → ∀ Q : VK, Post U H C Q → r x y H Q
def RU (U : Vol) (r : V → Hp → VK → Prop) (s : Sl) (C : Sl → Prop) : Prop := ∀ H x, U.inv H → Hold U H x s → ∀ Q : VK, Post U H C Q → r x H Q
def RC (U : Vol) (r : List V → Hp → VK → Prop) (ss : List Sl) (C : Sl → Prop) : Prop := ∀ H vs, U.inv H → HAll U H vs ss → ∀ Q : VK, Post U H C Q → r vs H Q
section
variable {U : Vol} {E : DEnv} {H H1 H' : Hp} {v : V} {s : Sl}
theorem HoldN.later (x : Xt U H H1) (h : HoldN U H1 H' v s) : HoldN U H H' v s := ⟨h.1, fun o a e => x.free (h.2 o a e)⟩
theorem HoldN.dat {d : Dt} (h : DT H' v d) : HoldN U H H' v (.dat d) := ⟨h, fun z => by cases z⟩
theorem HAll.xt {vs : List V} {ss : List Sl} (x : Xt U H H') (h : HAll U H vs ss) : HAll U H' vs ss := by
  induction h with
  | nil => exact .nil
  | cons h _ ih => exact .cons (h.xt x) ih
theorem HAll.len {vs : List V} {ss : List Sl} (h : HAll U H vs ss) : vs.length = ss.length := by
  induction h with
  | nil => rfl
  | cons _ _ ih => rw [List.length_cons, List.length_cons, ih]
theorem HAll.data : ∀ {ds : List Dt} {vs : List V}, HAll U H vs (ds.map .dat) → DTs H vs ds
  | [], _, h => by cases h; exact .nil
  | d :: ds, _, h => by
    cases h with
    | cons h r => exact .cons h (HAll.data r)
theorem Post.of {P : Sl → Prop} {Q : VK} (k : Post U H P Q) {s : Sl} (hp : P s) (iv : U.inv H) (h : HoldN U H H v s) : Q v H := k v H s .refl iv hp h
theorem Post.dat {P : Sl → Prop} {Q : VK} (k : Post U H P Q) {d : Dt} (hp : P (.dat d)) (iv : U.inv H) (h : DT H v d) : Q v H := k v H _ .refl iv hp (.dat h)
/-- a new tuple, a new list -/
theorem Post.newT {P : Sl → Prop} {Q : VK} (k : Post U H P Q) {ds : List Dt} (hp : P (.dat (.tup ds))) (iv : U.inv H) {xs : List V} (h : DTs H xs ds) {p : Addr} (np : H p = none) : Q (.ref p) (upd H p (.tup xs)) :=
  k _ _ _ (.of (same_new np)) (U.ex _ _ iv (same_new np)) hp (.dat (.tup upd_same (h.kp (Xt.of (U := U) (same_new np)).kp)))
theorem Post.newL {P : Sl → Prop} {Q : VK} (k : Post U H P Q) {ds : List Dt} (hp : P (.ol ds)) (iv : U.inv H) {xs : List V} (h : DTs H xs ds) {p : Addr} (np : H p = none) : Q (.ref p) (upd H p (.lst xs)) :=
  k _ _ _ (.of (same_new np)) (U.ex _ _ iv (same_new np)) hp ⟨⟨p, xs, rfl, upd_same, U.nw _ _ _ iv np (by first | exact .b rfl | exact ord_nd), h.kp (Xt.of (U := U) (same_new np)).kp⟩, fun _ a e => by cases e; exact np⟩
theorem EvP.imp {te : TE} {P P' : Sl → Prop} (h : EvP U te E P) (k : ∀ s, P s → P' s) : EvP U te E P' := fun H0 σ H S Q q => h H0 σ H S Q fun v H' s x i p n => q v H' s x i (k s p) n
theorem EvB.imp {tt : TT} {P P' : Bool → Prop} (h : EvB U tt E P) (k : ∀ b, P b → P' b) : EvB U tt E P' := fun H0 σ H S Q q => h H0 σ H S Q fun b H' x i p => q b H' x i (k b p)
theorem EvA.imp {ta : TA} {P P' : List Sl → Prop} (h : EvA U ta E P) (k : ∀ s, P s → P' s) : EvA U ta E P' := fun H0 σ H S Q q => h H0 σ H S Q fun v H' s x i p n => q v H' s x i (k s p) n
/-! ### names, constants -/
theorem e_var {i : Nat} {d : Dt} (h : E[i]? = some (some (.dat d))) : EvD U (tVar i) E d := fun H0 σ H S Q q => by
  obtain ⟨v, h1, h2, _⟩ := S.sl i _ h
  exact ⟨v, h1, Post.dat q rfl S.inv h2⟩
theorem e_rl {i : Nat} {ds : List Dt} (h : E[i]? = some (some (.rl ds))) : EvP U (tVar i) E (· = .rl ds) := fun H0 σ H S Q q => by
  obtain ⟨v, h1, h2, _⟩ := S.sl i _ h
  exact ⟨v, h1, Post.of q rfl S.inv ⟨h2, fun z => by cases z⟩⟩
theorem e_ol {i : Nat} {ds : List Dt} (h : E[i]? = some (some (.ol ds))) : EvP U (tVar i) E (· = .rl ds) := fun H0 σ H S Q q => by
  obtain ⟨v, h1, h2, _⟩ := S.sl i _ h
  exact ⟨v, h1, Post.of q rfl S.inv ⟨h2, fun z => by cases z⟩⟩
theorem e_int {i : Int} : EvD U (tC (.int i)) E (.int i) := fun _ _ _ S _ q => Post.dat q rfl S.inv (.int i)
theorem e_bl {i : Bool} : EvD U (tC (.bl i)) E (.bl i) := fun _ _ _ S _ q => Post.dat q rfl S.inv (.bl i)
theorem e_str {i : Str} : EvD U (tC (.str i)) E (.str i) := fun _ _ _ S _ q => Post.dat q rfl S.inv (.str i)
theorem e_non : EvD U (tC .non) E .non := fun _ _ _ S _ q => Post.dat q rfl S.inv .non
/-! ### operators -/
theorem e_op {r : R2} {ta tb : TE} {A B C : Sl → Prop} (ha : EvP U ta E A) (hb : EvP U tb E B) (hr : ∀ s t, A s → B t → RP U r s t C) : EvP U (tOp r ta tb) E C := fun H0 σ H S Q q =>
  ha H0 σ H S _ fun x H1 s x1 i1 p1 n1 => hb H0 σ H1 (S.go x1 i1) _ fun y H2 t x2 i2 p2 n2 => hr s t p1 p2 H2 x y i2 (n1.1.xt x2) n2.1 Q fun v H3 u x3 i3 p3 n3 => q v H3 u ((x1.trans x2).trans x3) i3 p3 (n3.later (x1.trans x2))
theorem e_opD {r : R2} {ta tb : TE} {a b : Sl} {C : Sl → Prop} (ha : EvP U ta E (· = a)) (hb : EvP U tb E (· = b)) (hr : RP U r a b C) : EvP U (tOp r ta tb) E C :=
  e_op ha hb fun s t h1 h2 => by rw [h1, h2]; exact hr
theorem e_un {r : V → Hp → VK → Prop} {ta : TE} {a : Sl} {C : Sl → Prop} (ha : EvP U ta E (· = a)) (hr : RU U r a C) : EvP U (tUn r ta) E C := fun H0 σ H S Q q =>
  ha H0 σ H S _ fun x H1 s x1 i1 p1 n1 => by
    subst p1
    exact hr H1 x i1 n1.1 Q fun v H3 u x3 i3 p3 n3 => q v H3 u (x1.trans x3) i3 p3 (n3.later x1)
theorem rp_I0 {g : Int → Int → V} {i j : Int} {d : Dt} (hd : ∀ H, DT H (g i j) d) : RP U (rI0 g) (.dat (.int i)) (.dat (.int j)) (· = .dat d) := fun H x y iv hx hy Q q =>
  ⟨i, j, DT.int_inv hx, DT.int_inv hy, Post.dat q rfl iv (hd H)⟩
theorem rp_I {C : Int → Int → Prop} {g : Int → Int → V} {i j : Int} {d : Dt} (hc : C i j) (hd : ∀ H, DT H (g i j) d) : RP U (rI C g) (.dat (.int i)) (.dat (.int j)) (· = .dat d) := fun H x y iv hx hy Q q =>
  ⟨i, j, DT.int_inv hx, DT.int_inv hy, hc, Post.dat q rfl iv (hd H)⟩
theorem rp_eqI {i j : Int} : RP U rEq (.dat (.int i)) (.dat (.int j)) (· = .dat (.bl (decide (i = j)))) := fun H x y iv hx hy Q q => by
  obtain rfl := DT.int_inv hx
  obtain rfl := DT.int_inv hy
  refine ⟨rfl, Post.dat q rfl iv ?_⟩
  have e : decide (V.int i = V.int j) = decide (i = j) := by simp
  rw [e]
  exact .bl _
theorem rp_neI {i j : Int} : RP U rNe (.dat (.int i)) (.dat (.int j)) (· = .dat (.bl (!decide (i = j)))) := fun H x y iv hx hy Q q => by
  obtain rfl := DT.int_inv hx
  obtain rfl := DT.int_inv hy
  refine ⟨rfl, Post.dat q rfl iv ?_⟩
  have e : decide (V.int i = V.int j) = decide (i = j) := by simp
  rw [e]
  exact .bl _
theorem rp_eqB {i j : Bool} : RP U rEq (.dat (.bl i)) (.dat (.bl j)) (· = .dat (.bl (decide (i = j)))) := fun H x y iv hx hy Q q => by
  obtain rfl := DT.bl_inv hx
  obtain rfl := DT.bl_inv hy
  refine ⟨rfl, Post.dat q rfl iv ?_⟩
  have e : decide (V.bl i = V.bl j) = decide (i = j) := by simp
  rw [e]
  exact .bl _
theorem rp_neB {i j : Bool} : RP U rNe (.dat (.bl i)) (.dat (.bl j)) (· = .dat (.bl (!decide (i = j)))) := fun H x y iv hx hy Q q => by
  obtain rfl := DT.bl_inv hx
  obtain rfl := DT.bl_inv hy
  refine ⟨rfl, Post.dat q rfl iv ?_⟩
  have e : decide (V.bl i = V.bl j) = decide (i = j) := by simp
  rw [e]
  exact .bl _
theorem rp_neS {i j : Str} : RP U rNe (.dat (.str i)) (.dat (.str j)) (· = .dat (.bl (!decide (i = j)))) := fun H x y iv hx hy Q q => by
  obtain rfl := DT.str_inv hx
  obtain rfl := DT.str_inv hy
  refine ⟨rfl, Post.dat q rfl iv ?_⟩
  have e : decide (V.str i = V.str j) = decide (i = j) := by simp
  rw [e]
  exact .bl _
theorem rp_ixT {K : PySem.W.Frag} {ds : List Dt} {j : Nat} {d : Dt} {i : Int} (h : ds[j]? = some d) (e : i = (j : Int) := by rfl) : RP U (rIxT K) (.dat (.tup ds)) (.dat (.int i)) (· = .dat d) := fun H x y iv hx hy Q q => by
  obtain ⟨a, xs, rfl, ha, hs⟩ := DT.tup_inv hx
  obtain ⟨v, h1, h2⟩ := hs.get h
  exact ⟨a, xs, i, v, rfl, DT.int_inv hy, .of ha, at_of e h1, Post.dat q rfl iv h2⟩
theorem rp_ixL {K : PySem.W.Frag} {ds : List Dt} {j : Nat} {d : Dt} {i : Int} (h : ds[j]? = some d) (e : i = (j : Int) := by rfl) : RP U (rIxL K) (.rl ds) (.dat (.int i)) (· = .dat d) := fun H x y iv hx hy Q q => by
  obtain ⟨a, xs, rfl, ha, _, hs⟩ := hx
  obtain ⟨v, h1, h2⟩ := hs.get h
  exact ⟨a, xs, i, v, rfl, DT.int_inv hy, .of ha, at_of e h1, Post.dat q rfl iv h2⟩
theorem rp_catT {K : PySem.W.Frag} {ds es : List Dt} (hl : ds.length + es.length ≤ 1000000) : RP U (rCatA K) (.dat (.tup ds)) (.dat (.tup es)) (· = .dat (.tup (ds ++ es))) := fun H x y iv hx hy Q q => by
  obtain ⟨a, xs, rfl, ha, hs⟩ := DT.tup_inv hx
  obtain ⟨b, ys, rfl, hb, ht⟩ := DT.tup_inv hy
  refine ⟨a, b, xs, ys, rfl, rfl, .of ha, .of hb, by rw [hs.len, ht.len]; exact Nat.le_trans hl (by decide), fun e => ?_, fun _ e => ?_, fun _ _ p np => ?_⟩
  · subst e
    cases hs
    exact Post.dat q rfl iv hy
  · subst e
    cases ht
    rw [List.append_nil] at q
    exact Post.dat q rfl iv hx
  · exact Post.newT q rfl iv (hs.app ht) np
theorem rp_catL {ds es : List Dt} (hl : ds.length + es.length ≤ 1000000) : RP U rCat (.rl ds) (.rl es) (· = .ol (ds ++ es)) := fun H x y iv hx hy Q q => by
  obtain ⟨a, xs, rfl, ha, _, hs⟩ := hx
  obtain ⟨b, ys, rfl, hb, _, ht⟩ := hy
  exact ⟨a, b, xs, ys, rfl, rfl, ha, hb, by rw [hs.len, ht.len]; exact Nat.le_trans hl (by decide), fun p np => Post.newL q rfl iv (hs.app ht) np⟩
/-! ### tests -/
theorem b_test {te : TE} {b : Bool} (h : EvD U te E (.bl b)) : EvB U (tTest te) E (· = b) := fun H0 σ H S Q q => h H0 σ H S _ fun v H' s x i p n => by
  subst p
  exact ⟨b, DT.bl_inv n.1, q b H' x i rfl⟩
theorem b_val {te : TE} {b : Bool} (h : EvD U te E (.bl b)) : EvB U (tB te) E (· = b) := fun H0 σ H S Q q => h H0 σ H S _ fun v H' s x i p n => by
  subst p
  exact ⟨b, DT.bl_inv n.1, q b H' x i rfl⟩
theorem b_testP {te : TE} {P : Bool → Prop} (h : EvP U te E (fun s => ∃ b, s = .dat (.bl b) ∧ P b)) : EvB U (tTest te) E P := fun H0 σ H S Q q => h H0 σ H S _ fun v H' s x i p n => by
  obtain ⟨b, rfl, p⟩ := p
  exact ⟨b, DT.bl_inv n.1, q b H' x i p⟩
theorem b_valP {te : TE} {P : Bool → Prop} (h : EvP U te E (fun s => ∃ b, s = .dat (.bl b) ∧ P b)) : EvB U (tB te) E P := fun H0 σ H S Q q => h H0 σ H S _ fun v H' s x i p n => by
  obtain ⟨b, rfl, p⟩ := p
  exact ⟨b, DT.bl_inv n.1, q b H' x i p⟩
theorem b_and {t u : TT} {P R : Bool → Prop} (h1 : EvB U t E P) (h2 : P true → EvB U u E R) (h3 : P false → R false) : EvB U (tAnd t u) E R := fun H0 σ H S Q q => h1 H0 σ H S _ fun b H1 x1 i1 p1 => by
  cases b with
  | true => exact iteT (h2 p1 H0 σ H1 (S.go x1 i1) Q fun c H2 x2 i2 p2 => q c H2 (x1.trans x2) i2 p2)
  | false => exact iteF (q false H1 x1 i1 (h3 p1))
theorem b_or {t u : TT} {P R : Bool → Prop} (h1 : EvB U t E P) (h2 : P false → EvB U u E R) (h3 : P true → R true) : EvB U (tOr t u) E R := fun H0 σ H S Q q => h1 H0 σ H S _ fun b H1 x1 i1 p1 => by
  cases b with
  | false => exact iteF (h2 p1 H0 σ H1 (S.go x1 i1) Q fun c H2 x2 i2 p2 => q c H2 (x1.trans x2) i2 p2)
  | true => exact iteT (q true H1 x1 i1 (h3 p1))
theorem b_andD {t u : TT} {a b : Bool} (h1 : EvB U t E (· = a)) (h2 : a = true → EvB U u E (· = b)) : EvB U (tAnd t u) E (· = (a && b)) :=
  b_and h1 (fun e => by subst e; simpa using h2 rfl) (fun e => by rw [← e]; rfl)
theorem b_orD {t u : TT} {a b : Bool} (h1 : EvB U t E (· = a)) (h2 : a = false → EvB U u E (· = b)) : EvB U (tOr t u) E (· = (a || b)) :=
  b_or h1 (fun e => by subst e; simpa using h2 rfl) (fun e => by rw [← e]; rfl)
theorem b_not {t : TT} {a : Bool} (h : EvB U t E (· = a)) : EvB U (tNot t) E (· = !a) := fun H0 σ H S Q q => h H0 σ H S _ fun b H1 x i p => q _ H1 x i (by rw [p])
theorem e_andV {ta tb : TE} {a b : Bool} (h1 : EvD U ta E (.bl a)) (h2 : a = true → EvD U tb E (.bl b)) : EvD U (tAndV ta tb) E (.bl (a && b)) := fun H0 σ H S Q q => h1 H0 σ H S _ fun v H1 s x1 i1 p1 n1 => by
  subst p1
  refine ⟨a, DT.bl_inv n1.1, ?_⟩
  cases a with
  | true => exact iteT (h2 rfl H0 σ H1 (S.go x1 i1) Q fun c H2 t x2 i2 p2 n2 => q c H2 t (x1.trans x2) i2 p2 (n2.later x1))
  | false => exact iteF (q _ H1 _ x1 i1 rfl (.dat (.bl _)))
theorem e_notV {ta : TE} {a : Bool} (h1 : EvD U ta E (.bl a)) : EvD U (tNotV ta) E (.bl (!a)) := fun H0 σ H S Q q => h1 H0 σ H S _ fun v H1 s x1 i1 p1 n1 => by
  subst p1
  exact ⟨a, DT.bl_inv n1.1, q _ H1 _ x1 i1 rfl (.dat (.bl _))⟩
theorem e_ifP {t : TT} {ta tb : TE} {R : Bool → Prop} {P : Sl → Prop} (h : EvB U t E R) (h1 : R true → EvP U ta E P) (h2 : R false → EvP U tb E P) : EvP U (tIf t ta tb) E P := fun H0 σ H S Q q => h H0 σ H S _ fun b H1 x1 i1 p1 => by
  cases b with
  | true => exact iteT (h1 p1 H0 σ H1 (S.go x1 i1) Q fun c H2 t x2 i2 p2 n2 => q c H2 t (x1.trans x2) i2 p2 (n2.later x1))
  | false => exact iteF (h2 p1 H0 σ H1 (S.go x1 i1) Q fun c H2 t x2 i2 p2 n2 => q c H2 t (x1.trans x2) i2 p2 (n2.later x1))
/-! ### arguments, displays, calls of built-ins -/
theorem ea_nil : EvA U tNil E (· = []) := fun _ _ H S _ q => q [] H [] .refl S.inv rfl .nil
theorem ea_consP {ta : TE} {tr : TA} {A : Sl → Prop} {B : List Sl → Prop} (h : EvP U ta E A) (hr : EvA U tr E B) : EvA U (tCons ta tr) E (fun ss => ∃ s r, ss = s :: r ∧ A s ∧ B r) := fun H0 σ H S Q q =>
  h H0 σ H S _ fun x H1 s x1 i1 p1 n1 => hr H0 σ H1 (S.go x1 i1) _ fun xs H2 ss x2 i2 p2 n2 => q _ H2 _ (x1.trans x2) i2 ⟨s, ss, rfl, p1, p2⟩ (.cons (n1.1.xt x2) n2)
theorem ea_cons {ta : TE} {tr : TA} {s : Sl} {ss : List Sl} (h : EvP U ta E (· = s)) (hr : EvA U tr E (· = ss)) : EvA U (tCons ta tr) E (· = s :: ss) :=
  (ea_consP h hr).imp fun _ ⟨_, _, e, h1, h2⟩ => by rw [e, h1, h2]
theorem e_tupP {ta : TA} {A : List Sl → Prop} {C : Sl → Prop} (h : EvA U ta E A) (hc : ∀ ss, A ss → ∃ ds : List Dt, ss = ds.map .dat ∧ ds.length ≤ 1000000 ∧ C (.dat (.tup ds))) : EvP U (tTup ta) E C := fun H0 σ H S Q q =>
  h H0 σ H S _ fun xs H1 ss x1 i1 p1 n1 => by
    obtain ⟨ds, rfl, hl, hC⟩ := hc ss p1
    have hs := n1.data
    refine ⟨by rw [hs.len]; exact Nat.le_trans hl (by decide), fun p np => ?_⟩
    exact Post.newT (P := C) (fun v H' s x i p n => q v H' s (x1.trans x) i p (n.later x1)) hC i1 hs np
theorem e_tup {ta : TA} {ds : List Dt} (h : EvA U ta E (· = ds.map .dat)) (hl : ds.length ≤ 1000000 := by exact Nat.le_of_ble_eq_true rfl) : EvD U (tTup ta) E (.tup ds) :=
  e_tupP h fun ss e => ⟨ds, e, hl, rfl⟩
theorem e_lst {ta : TA} {ds : List Dt} (h : EvA U ta E (· = ds.map .dat)) (hl : ds.length ≤ 1000000 := by exact Nat.le_of_ble_eq_true rfl) : EvP U (tLst ta) E (· = .ol ds) := fun H0 σ H S Q q =>
  h H0 σ H S _ fun xs H1 ss x1 i1 p1 n1 => by
    subst p1
    have hs := n1.data
    refine ⟨by rw [hs.len]; exact Nat.le_trans hl (by decide), fun p np => ?_⟩
    exact Post.newL (P := (· = .ol ds)) (fun v H' s x i p n => q v H' s (x1.trans x) i p (n.later x1)) rfl i1 hs np
theorem e_cbP {ta : TA} {r : List V → Hp → VK → Prop} {A : List Sl → Prop} {C : Sl → Prop} (h : EvA U ta E A) (hr : ∀ ss, A ss → RC U r ss C) : EvP U (tCB r ta) E C := fun H0 σ H S Q q =>
  h H0 σ H S _ fun xs H1 ss x1 i1 p1 n1 => hr ss p1 H1 xs i1 n1 Q fun v H' s x i p n => q v H' s (x1.trans x) i p (n.later x1)
theorem e_cb {ta : TA} {r : List V → Hp → VK → Prop} {ss : List Sl} {C : Sl → Prop} (h : EvA U ta E (· = ss)) (hr : RC U r ss C) : EvP U (tCB r ta) E C := e_cbP h fun _ e => by rw [e]; exact hr
theorem e_cb1 {ta : TE} {r : List V → Hp → VK → Prop} {s : Sl} {C : Sl → Prop} (h : EvP U ta E (· = s)) (hr : RC U r [s] C) : EvP U (tCB r (tCons ta tNil)) E C := e_cb (ea_cons h ea_nil) hr
theorem HAll.one {vs : List V} {s : Sl} (h : HAll U H vs [s]) : ∃ v, vs = [v] ∧ Hold U H v s := by
  cases h with
  | cons h r => cases r; exact ⟨_, rfl, h⟩
/-- len -/
def rLen (K : PySem.W.Frag) : List V → Hp → VK → Prop := fun xs H Q => ∃ p ys, xs = [.ref p] ∧ (SqL K H p ys ∨ SqT K H p ys) ∧ Q (.int ys.length) H
theorem rc_lenT {K : PySem.W.Frag} {ds : List Dt} : RC U (rLen K) [.dat (.tup ds)] (· = .dat (.int ds.length)) := fun H vs iv h Q q => by
  obtain ⟨v, rfl, h'⟩ := h.one
  obtain ⟨a, xs, rfl, ha, hs⟩ := DT.tup_inv h'
  refine ⟨a, xs, rfl, .inr (.of ha), Post.dat q rfl iv ?_⟩
  rw [hs.len]
  exact .int _
theorem rc_lenL {K : PySem.W.Frag} {ds : List Dt} : RC U (rLen K) [.rl ds] (· = .dat (.int ds.length)) := fun H vs iv h Q q => by
  obtain ⟨v, rfl, a, xs, rfl, ha, _, hs⟩ := h.one
  refine ⟨a, xs, rfl, .inl (.of ha), Post.dat q rfl iv ?_⟩
  rw [hs.len]
  exact .int _
def rTuple (K : PySem.W.Frag) : List V → Hp → VK → Prop := fun xs H Q => ∃ p ys, xs = [.ref p] ∧ ((SqL K H p ys ∧ ∀ l, H l = none → Q (.ref l) (upd H l (.tup ys))) ∨ (SqT K H p ys ∧ Q (.ref p) H))
theorem rc_tupleL {K : PySem.W.Frag} {ds : List Dt} : RC U (rTuple K) [.rl ds] (· = .dat (.tup ds)) := fun H vs iv h Q q => by
  obtain ⟨v, rfl, a, xs, rfl, ha, _, hs⟩ := h.one
  exact ⟨a, xs, rfl, .inl ⟨.of ha, fun p np => Post.newT q rfl iv hs np⟩⟩
/-- a list that was just made is one that is read -/
theorem EvP.rl {te : TE} {ds : List Dt} (h : EvP U te E (· = .ol ds)) : EvP U te E (· = .rl ds) := fun H0 σ H S Q q => h H0 σ H S Q fun v H' s x i p n => by
  subst p
  exact q v H' (.rl ds) x i rfl ⟨n.1, fun z => by cases z⟩
theorem EvP.rlP {te : TE} {P : List Dt → Prop} (h : EvP U te E (fun s => ∃ ds, s = .ol ds ∧ P ds)) : EvP U te E (fun s => ∃ ds, s = .rl ds ∧ P ds) := fun H0 σ H S Q q => h H0 σ H S Q fun v H' s x i p n => by
  obtain ⟨ds, rfl, p⟩ := p
  exact q v H' (.rl ds) x i ⟨ds, rfl, p⟩ ⟨n.1, fun z => by cases z⟩
/-- a field -/
theorem e_fld {K : PySem.W.Frag} {ta : TE} {f : Str} {C : Addr} {fs : List (Str × Dt)} {d : Dt} (h : EvD U ta E (.obj C fs)) (hc : Cls K C) (hn : NoAttr K C f) (hl : fs.lookup f = some d) : EvD U (tFld K ta f) E d := fun H0 σ H S Q q =>
  h H0 σ H S _ fun x H1 s x1 i1 p1 n1 => by
    subst p1
    obtain ⟨a, dx, fv, rfl, ha, hf⟩ := DT.obj_inv n1.1
    obtain ⟨v, h1, h2⟩ := hf.get hl
    exact ⟨a, C, dx, fv, v, rfl, ha, hc, hn, h1, q v H1 _ x1 i1 rfl (.dat h2)⟩
end
/-! ### promises in data -/
abbrev Ask := List Sl → (Sl → Prop) → Prop
def spD (U : Vol) (A : Ask) : Sp := fun vs H Q _ => ∃ ss P, HAll U H vs ss ∧ U.inv H ∧ A ss P ∧ Post U H P Q
section
variable {U : Vol} {E : DEnv} {H H1 H' : Hp} {v : V} {s : Sl}
/-- a call: of a def that keeps all (V0), of one that may turn what is volatile -/
theorem Hold.v0 : ∀ {s : Sl} {v : V}, Hold U H v s → Hold (V0 U.w) H v s
  | .dat _, _, h => h
  | .rl _, _, h => let ⟨a, xs, e, h1, _, h3⟩ := h; ⟨a, xs, e, h1, id, h3⟩
  | .ol _, _, h => let ⟨a, xs, e, h1, _, h3⟩ := h; ⟨a, xs, e, h1, id, h3⟩
  | .oi _, _, h => let ⟨a, e, h1, _⟩ := h; ⟨a, e, h1, id⟩
  | .on _, _, h => let ⟨a, xs, e, h1, _, h3⟩ := h; ⟨a, xs, e, h1, id, h3⟩
  | .ra _ _, _, h => let ⟨a, xs, e, h1, _, h3⟩ := h; ⟨a, xs, e, h1, id, h3⟩
theorem HAll.v0 {vs : List V} {ss : List Sl} (h : HAll U H vs ss) : HAll (V0 U.w) H vs ss := by
  induction h with
  | nil => exact .nil
  | cons h _ ih => exact .cons h.v0 ih
/-- what is new or a datum, told by V0, is so by U -/
theorem HoldN.of_v0 (iv : U.inv H) : ∀ {s : Sl} {v : V}, (s.mut = true → s.own = true) → HoldN (V0 U.w) H H' v s → HoldN U H H' v s
  | .dat _, _, _, h => .dat h.1
  | .rl _, _, z, _ => by cases z rfl
  | .ra _ _, _, z, _ => by cases z rfl
  | .ol _, v, _, ⟨⟨a, xs, e, h1, _, h3⟩, n⟩ => ⟨⟨a, xs, e, h1, U.nw _ _ _ iv (n rfl a e) (by first | exact .b rfl | exact ord_nd), h3⟩, n⟩
  | .oi _, v, _, ⟨⟨a, e, h1, _⟩, n⟩ => ⟨⟨a, e, h1, U.nw _ _ _ iv (n rfl a e) (by first | exact .b rfl | exact ord_nd)⟩, n⟩
  | .on _, v, _, ⟨⟨a, xs, e, h1, _, h3⟩, n⟩ => ⟨⟨a, xs, e, h1, U.nw _ _ _ iv (n rfl a e) (by first | exact .b rfl | exact ord_nd), h3⟩, n⟩
theorem e_callP {Ew : XK} {ta : TA} {A : Ask} {B : List Sl → Prop} {P : Sl → Prop} (h : EvA U ta E B) (ha : ∀ ss, B ss → A ss P) (hm : ∀ s, P s → s.mut = true → s.own = true) : EvP U (tCall (spD (V0 U.w) A) [] Ew ta) E P := fun H0 σ H S Q q =>
  h H0 σ H S _ fun xs H1 ss x1 i1 p1 n1 => by
    rw [List.append_nil]
    refine ⟨ss, P, n1.v0, trivial, ha ss p1, fun v H' s x i p n => ?_⟩
    have sm := x.same
    exact q v H' s (x1.trans (.of sm)) (U.ex _ _ i1 sm) p ((n.of_v0 i1 (hm s p)).later x1)
theorem e_call {Ew : XK} {ta : TA} {A : Ask} {ss : List Sl} {P : Sl → Prop} (h : EvA U ta E (· = ss)) (ha : A ss P) (hm : ∀ s, P s → s.mut = true → s.own = true) : EvP U (tCall (spD (V0 U.w) A) [] Ew ta) E P := e_callP h (fun _ e => by rw [e]; exact ha) hm
theorem own_dat {d : Dt} : ∀ s : Sl, s = .dat d → s.mut = true → s.own = true := fun s e => by rw [e]; exact fun z => by cases z
theorem own_ol {ds : List Dt} : ∀ s : Sl, s = .ol ds → s.mut = true → s.own = true := fun s e => by rw [e]; exact fun _ => rfl
theorem e_callD {Ew : XK} {ta : TA} {A : Ask} {ss : List Sl} {d : Dt} (h : EvA U ta E (· = ss)) (ha : A ss (· = .dat d)) : EvD U (tCall (spD (V0 U.w) A) [] Ew ta) E d := e_call h ha own_dat
theorem e_callN {Ew : XK} {ta : TA} {A : Ask} {ss : List Sl} {ds : List Dt} (h : EvA U ta E (· = ss)) (ha : A ss (· = .ol ds)) : EvP U (tCall (spD (V0 U.w) A) [] Ew ta) E (· = .ol ds) := e_call h ha own_ol
theorem e_callU {Ew : XK} {ta : TA} {A : Ask} {B : List Sl → Prop} {P : Sl → Prop} (h : EvA U ta E B) (ha : ∀ ss, B ss → A ss P) : EvP U (tCall (spD U A) [] Ew ta) E P := fun H0 σ H S Q q =>
  h H0 σ H S _ fun xs H1 ss x1 i1 p1 n1 => by
    rw [List.append_nil]
    exact ⟨ss, P, n1, i1, ha ss p1, fun v H' s x i p n => q v H' s (x1.trans x) i p (n.later x1)⟩
end
/-! ### statements -/
structure DE where
  nx : DEnv → Prop
  rt : Sl → Prop
  bk : DEnv → Prop := fun _ => False
  ct : DEnv → Prop := fun _ => False
structure Fit (U : Vol) (G : DE) (D : Ends) (H0 : Hp) : Prop where
  nx : ∀ E σ H, G.nx E → SD U H0 E σ H → D.nx σ H
  rt : ∀ v H s, G.rt s → Xt U H0 H → U.inv H → HoldN U H0 H v s → D.rt v H
  bk : ∀ E σ H, G.bk E → SD U H0 E σ H → D.bk σ H
  ct : ∀ E σ H, G.ct E → SD U H0 E σ H → D.ct σ H
def DS (U : Vol) (t : TS) (E : DEnv) (G : DE) : Prop := ∀ D H0 σ H, SD U H0 E σ H → Fit U G D H0 → t D σ H
section
variable {U : Vol} {E E' : DEnv} {G : DE} {t u : TS}
theorem d_next (h : G.nx E) : DS U tNext E G := fun _ _ _ _ S F => F.nx _ _ _ h S
theorem d_break (h : G.bk E) : DS U tBreak E G := fun _ _ _ _ S F => F.bk _ _ _ h S
theorem d_seq (h : DS U t E { G with nx := fun E' => DS U u E' G }) : DS U (tSeq t u) E G := fun D H0 σ H S F =>
  h { D with nx := u D } H0 σ H S ⟨fun E' σ' H' g S' => g D H0 σ' H' S' F, F.rt, F.bk, F.ct⟩
theorem d_weak (h : DS U t E' G) (f : Fg E E') : DS U t E G := fun D H0 σ H S F => h D H0 σ H (S.fg f) F
theorem d_asgP {te : TE} {i : Nat} {P : Sl → Prop} (h : EvP U te E P) (hm : ∀ s, P s → s.mut = true → s.own = true) (k : ∀ s, P s → G.nx (E.set i (some s))) : DS U (tAsg te (gName i)) E G := fun D H0 σ H S F =>
  h H0 σ H S _ fun v H' s x iv p n => F.nx _ _ _ (k s p) (S.set x iv n (hm s p))
theorem d_asg {te : TE} {i : Nat} {d : Dt} (h : EvD U te E d) (k : G.nx (E.set i (some (.dat d)))) : DS U (tAsg te (gName i)) E G := d_asgP h own_dat fun s e => by rw [e]; exact k
theorem d_asgN {te : TE} {i : Nat} {ds : List Dt} (h : EvP U te E (· = .ol ds)) (k : G.nx (E.set i (some (.ol ds)))) : DS U (tAsg te (gName i)) E G := d_asgP h own_ol fun s e => by rw [e]; exact k
theorem d_if {c : TT} {P : Bool → Prop} (h : EvB U c E P) (h1 : P true → DS U t E G) (h2 : P false → DS U u E G) : DS U (tIfS c t u) E G := fun D H0 σ H S F => h H0 σ H S _ fun b H' x iv p => by
  cases b with
  | true => exact iteT (h1 p D H0 σ H' (S.go x iv) F)
  | false => exact iteF (h2 p D H0 σ H' (S.go x iv) F)
theorem d_ifD {c : TT} {b : Bool} (h : EvB U c E (· = b)) (h1 : b = true → DS U t E G) (h2 : b = false → DS U u E G) : DS U (tIfS c t u) E G := d_if h (fun e => h1 e.symm) (fun e => h2 e.symm)
theorem d_retP {te : TE} {P : Sl → Prop} (h : EvP U te E P) (k : ∀ s, P s → G.rt s) : DS U (tRet te) E G := fun D H0 σ H S F =>
  h H0 σ H S _ fun v H' s x iv p n => F.rt v H' s (k s p) (S.xt.trans x) iv (n.later S.xt)
theorem d_ret {te : TE} {d : Dt} (h : EvD U te E d) (k : G.rt (.dat d)) : DS U (tRet te) E G := d_retP h fun s e => by rw [e]; exact k
theorem d_retN {te : TE} {ds : List Dt} (h : EvP U te E (· = .ol ds)) (k : G.rt (.ol ds)) : DS U (tRet te) E G := d_retP h fun s e => by rw [e]; exact k
/-- a list of one's own goes back -/
theorem d_retO {i : Nat} {ds : List Dt} (h : E[i]? = some (some (.ol ds))) (k : G.rt (.ol ds)) : DS U (tRet (tVar i)) E G := fun D H0 σ H S F => by
  obtain ⟨v, h1, h2⟩ := S.sl i _ h
  exact ⟨v, h1, F.rt v H _ k S.xt S.inv h2⟩
theorem d_aug {te : TE} {i : Nat} {f : Int → Int → Int} {a b : Int} (hx : E[i]? = some (some (.dat (.int a)))) (h : EvD U te E (.int b)) (k : G.nx (E.set i (some (.dat (.int (f a b)))))) : DS U (tAug i te (ipI f)) E G := fun D H0 σ H S F => by
  obtain ⟨v, h1, h2, _⟩ := S.sl i _ hx
  obtain rfl := DT.int_inv h2
  refine ⟨_, h1, h H0 σ H S _ fun y H' s x iv p n => ?_⟩
  subst p
  exact ⟨a, b, rfl, DT.int_inv n.1, F.nx _ _ _ k (S.set x iv (.dat (.int _)) (fun z => by cases z))⟩
theorem d_drop {te : TE} {P : Sl → Prop} (h : EvP U te E P) (k : G.nx E) : DS U (tDrop te) E G := fun D H0 σ H S F => h H0 σ H S _ fun v H' s x iv p n => F.nx _ _ _ k (S.go x iv)
theorem d_never {G : DE} (h : False) : DS U tNever E G := h.elim
/-! ### one's own lists -/
/-- what is kept while a list of one's own turns -/
theorem SD.turn {H0 H : Hp} {σ : Sg} {i : Nat} {ds es : List Dt} {a : Addr} {xs ys : List V} (S : SD U H0 E σ H) (h : E[i]? = some (some (.ol ds))) (hv : σ[i]? = some (some (.ref a))) (ha : H a = some (.lst xs)) (hy : DTs H ys es) :
    SD U H0 (E.set i (some (.ol es))) σ (upd H a (.lst ys)) := by
  obtain ⟨v, h1, ⟨a', xs', e', h2, h3, h4⟩, h5⟩ := S.sl i _ h
  rw [hv] at h1
  cases h1
  cases e'
  rw [ha] at h2
  cases h2
  have n0 : H0 a = none := h5 rfl a rfl
  have kp : Kp H (upd H a (.lst ys)) := fun c o e t => by
    rw [upd_ne (fun z => by rw [z, ha] at e; cases e; cases t)]
    exact e
  have hl : i < σ.length := (List.getElem?_eq_some_iff.mp hv).1
  refine ⟨by rw [List.length_set]; exact S.len, ⟨fun c o e n => ?_, fun c e => ?_⟩, U.st _ _ _ _ S.inv ha rfl h3 (by first | exact .b rfl | exact ord_nd), fun j s e => ?_, fun j k s t v ne e1 e2 o m => ?_⟩
  · rw [upd_ne (ne_of_none e n0)]
    exact S.xt.1 c o e n
  · by_cases hc : c = a
    · rw [hc, upd_same]
      exact fun z => by cases z
    · rw [upd_ne hc]
      exact S.xt.2 c e
  · rcases set_get e with ⟨rfl, e, _⟩ | ⟨ne, e⟩
    · cases e
      exact ⟨_, hv, ⟨a, ys, rfl, upd_same, U.sb _ _ _ _ S.inv ha h3 (by first | exact .b rfl | exact ord_nd), hy.kp kp⟩, fun _ b e => by cases e; exact n0⟩
    · obtain ⟨v, g1, g2, g3⟩ := S.sl j s e
      refine ⟨v, g1, ?_, g3⟩
      have off : s.mut = true → v ≠ .ref a := fun m z => by
        subst z
        exact S.sep i j _ s _ (Ne.symm ne) h e rfl m hv g1
      cases s with
      | dat d => exact DT.kp kp g2
      | rl _ =>
        obtain ⟨b, zs, eb, f1, f2, f3⟩ := g2
        have nb : b ≠ a := fun z => off rfl (by rw [eb, z])
        exact ⟨b, zs, eb, by rw [upd_ne nb]; exact f1, f2, f3.kp kp⟩
      | ra _ _ =>
        obtain ⟨b, zs, eb, f1, f2, f3⟩ := g2
        have nb : b ≠ a := fun z => off rfl (by rw [eb, z])
        exact ⟨b, zs, eb, by rw [upd_ne nb]; exact f1, f2, f3.1.kp kp, f3.2⟩
      | ol _ =>
        obtain ⟨b, zs, eb, f1, f2, f3⟩ := g2
        have nb : b ≠ a := fun z => off rfl (by rw [eb, z])
        exact ⟨b, zs, eb, by rw [upd_ne nb]; exact f1, f2, f3.kp kp⟩
      | oi _ =>
        obtain ⟨b, eb, f1, f2⟩ := g2
        have nb : b ≠ a := fun z => off rfl (by rw [eb, z])
        exact ⟨b, eb, by rw [upd_ne nb]; exact f1, f2⟩
      | on _ =>
        obtain ⟨b, zs, eb, f1, f2, f3⟩ := g2
        have nb : b ≠ a := fun z => off rfl (by rw [eb, z])
        exact ⟨b, zs, eb, by rw [upd_ne nb]; exact f1, f2, f3.kp kp⟩
  · have e1' : ∃ s', E[j]? = some (some s') ∧ s'.own = true := by
      rcases set_get e1 with ⟨rfl, z, _⟩ | ⟨_, e1⟩
      · exact ⟨_, h, rfl⟩
      · exact ⟨s, e1, o⟩
    have e2' : ∃ t', E[k]? = some (some t') ∧ t'.mut = true := by
      rcases set_get e2 with ⟨rfl, z, _⟩ | ⟨_, e2⟩
      · exact ⟨_, h, rfl⟩
      · exact ⟨t, e2, m⟩
    obtain ⟨s', e1, o'⟩ := e1'
    obtain ⟨t', e2, m'⟩ := e2'
    exact S.sep j k s' t' v ne e1 e2 o' m'
/-- x.append(e) -/
theorem d_appP {K : PySem.W.Frag} {te : TE} {i : Nat} {ds : List Dt} {P : Dt → Prop} (h : E[i]? = some (some (.ol ds))) (he : EvP U te E (fun s => ∃ d, s = .dat d ∧ P d)) (hl : ds.length < 1000000) (k : ∀ d, P d → G.nx (E.set i (some (.ol (ds ++ [d]))))) :
    DS U (tDrop (tBM K "list" rAppend (tVar i) (tCons te tNil))) E G := fun D H0 σ H S F => by
  obtain ⟨v, h1, ⟨a, xs, rfl, h2, h3, h4⟩, h5⟩ := S.sl i _ h
  refine ⟨_, h1, .inl ⟨rfl, _, .of h2⟩, he H0 σ H S _ fun y H' s x iv p n => ?_⟩
  obtain ⟨d, rfl, p⟩ := p
  have h2' := x.1 a _ h2 h3
  refine ⟨a, xs, y, rfl, rfl, h2', by rw [h4.len]; exact Nat.lt_of_lt_of_le hl (by decide), ?_⟩
  exact F.nx _ _ _ (k d p) ((S.go x iv).turn h h1 h2' ((h4.kp x.kp).snoc n.1))
theorem d_app {K : PySem.W.Frag} {te : TE} {i : Nat} {ds : List Dt} {d : Dt} (h : E[i]? = some (some (.ol ds))) (he : EvD U te E d) (hl : ds.length < 1000000) (k : G.nx (E.set i (some (.ol (ds ++ [d]))))) :
    DS U (tDrop (tBM K "list" rAppend (tVar i) (tCons te tNil))) E G :=
  d_appP (P := (· = d)) h (he.imp fun s e => ⟨d, e, rfl⟩) hl fun _ e => by rw [e]; exact k
/-- x.extend(ys) -/
theorem d_extend {K : PySem.W.Frag} {te : TE} {i : Nat} {ds es : List Dt} (h : E[i]? = some (some (.ol ds))) (he : EvP U te E (· = .rl es)) (hl : ds.length + es.length ≤ 1000000) (k : G.nx (E.set i (some (.ol (ds ++ es))))) :
    DS U (tDrop (tBM K "list" rExtend (tVar i) (tCons te tNil))) E G := fun D H0 σ H S F => by
  obtain ⟨v, h1, ⟨a, xs, rfl, h2, h3, h4⟩, h5⟩ := S.sl i _ h
  refine ⟨_, h1, .inl ⟨rfl, _, .of h2⟩, he H0 σ H S _ fun y H' s x iv p n => ?_⟩
  subst p
  have h2' := x.1 a _ h2 h3
  obtain ⟨⟨b, zs, rfl, f1, f2, f3⟩, _⟩ := n
  refine ⟨a, b, xs, zs, rfl, rfl, h2', f1, by rw [h4.len, f3.len]; exact Nat.le_trans hl (by decide), ?_⟩
  exact F.nx _ _ _ k ((S.go x iv).turn h h1 h2' ((h4.kp x.kp).app f3))
end
end K13
end
section
set_option Elab.async false
set_option linter.all false
set_option maxRecDepth 100000
set_option maxHeartbeats 4000000
set_option autoImplicit false
/-! data-level reasoning: targets, what is walked, loops, comprehensions, a def by its body -/
namespace K13
open PySem PySem.Spec PyProof.Rows L2

/-! ### targets -/
def Off (js : List Nat) (σ σ' : Sg) : Prop := σ'.length = σ.length ∧ ∀ i, i ∉ js → σ'[i]? = σ[i]?
def GD (U : Vol) (g : TG) (d : Dt) (E E' : DEnv) (js : List Nat) : Prop := ∀ H0 σ H x, SD U H0 E σ H → DT H x d → ∀ Q : Sg → Hp → Prop, (∀ σ' H', Xt U H H' → SD U H0 E' σ' H' → Off js σ σ' → Q σ' H') → g x σ H Q
def GDs (U : Vol) (g : TGs) (ds : List Dt) (E E' : DEnv) (js : List Nat) : Prop := ∀ H0 σ H xs, SD U H0 E σ H → DTs H xs ds → ∀ Q : Sg → Hp → Prop, (∀ σ' H', Xt U H H' → SD U H0 E' σ' H' → Off js σ σ' → Q σ' H') → g xs σ H Q
section
variable {U : Vol} {E E' E2 : DEnv} {d : Dt} {ds : List Dt} {js ks : List Nat}
theorem gd_name {i : Nat} : GD U (gName i) d E (E.set i (some (.dat d))) [i] := fun H0 σ H x S h Q q =>
  q _ H .refl (S.set .refl S.inv (.dat h) (fun z => by cases z)) ⟨by rw [List.length_set], fun j hj => by rw [List.getElem?_set_ne (fun z => hj (by rw [z]; exact List.mem_cons_self))]⟩
theorem gds_nil : GDs U gNil [] E E [] := fun H0 σ H xs S h Q q => by
  cases h
  exact ⟨rfl, q σ H .refl S ⟨rfl, fun _ _ => rfl⟩⟩
theorem gds_cons {g : TG} {gs : TGs} (h1 : GD U g d E E' js) (h2 : GDs U gs ds E' E2 ks) : GDs U (gCons g gs) (d :: ds) E E2 (js ++ ks) := fun H0 σ H xs S h Q q => by
  cases h with
  | cons h r =>
    refine ⟨_, _, rfl, h1 H0 σ H _ S h _ fun σ1 H1 x1 S1 o1 => h2 H0 σ1 H1 _ S1 (r.kp x1.kp) Q fun σ2 H2 x2 S2 o2 => q σ2 H2 (x1.trans x2) S2 ⟨o2.1.trans o1.1, fun i hi => ?_⟩⟩
    rw [List.mem_append, not_or] at hi
    rw [o2.2 i hi.2, o1.2 i hi.1]
theorem gd_tup {K : PySem.W.Frag} {gs : TGs} {n : Nat} (h : GDs U gs ds E E' js) (hn : ds.length = n := by rfl) : GD U (gTup K n gs) (.tup ds) E E' js := fun H0 σ H x S hd Q q => by
  obtain ⟨a, xs, rfl, ha, hs⟩ := hd.tup_inv
  exact ⟨a, xs, rfl, .of ha, by rw [hs.len, hn], h H0 σ H xs S hs Q q⟩
theorem d_asgG {te : TE} {g : TG} {P : Sl → Prop} {G : DE} (h : EvP U te E P) (k : ∀ s, P s → ∃ d E' js, s = .dat d ∧ GD U g d E E' js ∧ G.nx E') : DS U (tAsg te g) E G := fun D H0 σ H S F =>
  h H0 σ H S _ fun v H' s x iv p n => by
    obtain ⟨d, E', js, rfl, hg, hk⟩ := k s p
    exact hg H0 σ H' v (S.go x iv) n.1 _ fun σ2 H2 _ S2 _ => F.nx _ _ _ hk S2
theorem d_unp {te : TE} {g : TG} {G : DE} (h : EvD U te E d) (hg : GD U g d E E' js) (k : G.nx E') : DS U (tAsg te g) E G := d_asgG h fun s e => ⟨d, E', js, e, hg, k⟩
end
/-! ### another beginning: what stands now, but one's own -/
def NotOwn (E : DEnv) (σ : Sg) (a : Addr) : Prop := ∀ (i : Nat) (s : Sl), E[i]? = some (some s) → s.own = true → σ[i]? ≠ some (some (V.ref a))
open Classical in
noncomputable def rb (E : DEnv) (σ : Sg) (H : Hp) : Hp := fun b => if NotOwn E σ b then H b else none
section
variable {U : Vol} {E E' : DEnv} {σ σ' : Sg} {H0 H H' : Hp}
theorem rb_yes {a : Addr} (h : NotOwn E σ a) : rb E σ H a = H a := by
  unfold rb
  rw [if_pos h]
theorem rb_no {a : Addr} (h : ¬ NotOwn E σ a) : rb E σ H a = none := by
  unfold rb
  rw [if_neg h]
theorem own_not {i : Nat} {s : Sl} {a : Addr} (h : E[i]? = some (some s)) (o : s.own = true) (e : σ[i]? = some (some (.ref a))) : ¬ NotOwn E σ a := fun n => n i s h o e
theorem own_mut : ∀ {s : Sl}, s.own = true → s.mut = true
  | .dat _, h => by cases h
  | .rl _, h => by cases h
  | .ra _ _, h => by cases h
  | .ol _, _ => rfl
  | .oi _, _ => rfl
  | .on _, _ => rfl
theorem SD.rb (S : SD U H0 E σ H) : SD U (rb E σ H) E σ H := by
  refine ⟨S.len, ⟨fun a o e _ => ?_, fun a e => ?_⟩, S.inv, fun i s e => ?_, S.sep⟩
  · by_cases h : NotOwn E σ a
    · rw [rb_yes h] at e; exact e
    · rw [rb_no h] at e; cases e
  · by_cases h : NotOwn E σ a
    · rw [rb_yes h] at e; exact e
    · rw [rb_no h] at e; exact absurd rfl e
  · obtain ⟨v, h1, h2, h3⟩ := S.sl i s e
    refine ⟨v, h1, h2, fun o a ea => rb_no (own_not e o (by rw [h1, ea]))⟩
theorem SD.own0 (S : SD U H0 E σ H) {a : Addr} (h : H0 a ≠ none) : NotOwn E σ a := fun i s e o e2 => by
  obtain ⟨v, h1, h2, h3⟩ := S.sl i s e
  rw [e2] at h1
  cases h1
  exact h (h3 o a rfl)
theorem SD.xtb (S : SD U H0 E σ H) (x : Xt U (K13.rb E σ H) H') : Xt U H0 H' := ⟨fun a o e n => by
    have q := S.own0 (a := a) (by rw [e]; exact fun z => by cases z)
    exact x.1 a o (by rw [rb_yes q]; exact S.xt.1 a o e n) n, fun a e => by
    have q := S.own0 e
    exact x.2 a (by rw [rb_yes q]; exact S.xt.2 a e)⟩
theorem SD.nob (S : SD U H0 E σ H) {a : Addr} (h : K13.rb E σ H a = none) : H0 a = none := by
  cases q : H0 a with
  | none => rfl
  | some o =>
    have z : H0 a ≠ none := by rw [q]; exact fun z => by cases z
    rw [rb_yes (S.own0 z)] at h
    exact absurd h (S.xt.2 a z)
theorem SD.back (S : SD U H0 E σ H) (T : SD U (K13.rb E σ H) E' σ' H') : SD U H0 E' σ' H' :=
  ⟨T.len, S.xtb T.xt, T.inv, fun i s e => let ⟨v, h1, h2, h3⟩ := T.sl i s e; ⟨v, h1, h2, fun o a ea => S.nob (h3 o a ea)⟩, T.sep⟩
theorem SD.fit {G : DE} {D : Ends} (S : SD U H0 E σ H) (F : Fit U G D H0) : Fit U G D (K13.rb E σ H) :=
  ⟨fun E' σ' H' g T => F.nx E' σ' H' g (S.back T), fun v H' s g x i n => F.rt v H' s g (S.xtb x) i ⟨n.1, fun o a e => S.nob (n.2 o a e)⟩, fun E' σ' H' g T => F.bk E' σ' H' g (S.back T), fun E' σ' H' g T => F.ct E' σ' H' g (S.back T)⟩
end
/-! ### what is walked -/
def IterP (U : Vol) (wi : TI) (E : DEnv) (P : List Dt → Prop) : Prop := ∀ H0 σ H, SD U H0 E σ H → ∀ R : It → Hp → Prop,
  (∀ J H1 (fp : List Addr) (G : Hp → Prop) (Y : Nat → Hp → V → Hp → Prop) (ds : List Dt), P ds → Xt U H H1 → U.inv H1 → Walk J ds.length G Y → (∀ a ∈ fp, ∃ o, H1 a = some o ∧ ¬ U.bad a o ∧ NotOwn E σ a) → (∀ H', (∀ a ∈ fp, H' a = H1 a) → G H') →
    (∀ i H' x H'', G H' → Kp H1 H' → i < ds.length → Y i H' x H'' → ∃ d, ds[i]? = some d ∧ Same H' H'' ∧ DT H'' x d) → R J H1) → wi σ H R
abbrev IterD (U : Vol) (wi : TI) (E : DEnv) (ds : List Dt) : Prop := IterP U wi E (· = ds)
/-- a list that no slot owns -/
def EvL (U : Vol) (te : TE) (E : DEnv) (P : List Dt → Prop) : Prop := ∀ H0 σ H, SD U H0 E σ H → ∀ Q : VK, (∀ a xs H' ds, Xt U H H' → U.inv H' → P ds → H' a = some (.lst xs) → ¬ U.bad a (.lst xs) → DTs H' xs ds → NotOwn E σ a → Q (.ref a) H') → te σ H Q
section
variable {U : Vol} {E : DEnv} {ds es : List Dt}
theorem SD.notOwn_of {H0 H : Hp} {σ : Sg} (S : SD U H0 E σ H) {a : Addr} (h : ∀ o, H a = some o → isTI o = true) : NotOwn E σ a := fun i s e o e2 => by
  obtain ⟨v, h1, h2, _⟩ := S.sl i s e
  rw [e2] at h1
  cases h1
  obtain ⟨b, ob, eb, hb, hn, _⟩ := h2.at_ (own_mut o)
  cases eb
  have q := h ob hb
  rw [hn] at q
  cases q
theorem l_rl {i : Nat} (h : E[i]? = some (some (.rl ds))) : EvL U (tVar i) E (· = ds) := fun H0 σ H S Q q => by
  obtain ⟨v, h1, ⟨a, xs, rfl, h2, h3, h4⟩, _⟩ := S.sl i _ h
  refine ⟨_, h1, q a xs H ds .refl S.inv rfl h2 h3 h4 fun j s e o e2 => ?_⟩
  by_cases hji : j = i
  · subst hji
    rw [h] at e
    cases e
    cases o
  · exact S.sep j i s _ _ hji e h o rfl e2 h1
theorem l_new {te : TE} {P : List Dt → Prop} (h : EvP U te E (fun s => ∃ ds, s = .ol ds ∧ P ds)) : EvL U te E P := fun H0 σ H S Q q => h H0 σ H S _ fun v H' s x iv p n => by
  obtain ⟨ds, rfl, p⟩ := p
  obtain ⟨⟨a, xs, rfl, h1, h2, h3⟩, h4⟩ := n
  exact q a xs H' ds x iv p h1 h2 h3 (S.notOwn_of fun o e => by rw [h4 rfl a rfl] at e; cases e)
theorem l_newD {te : TE} (h : EvP U te E (· = .ol ds)) : EvL U te E (· = ds) := l_new (h.imp fun s e => ⟨ds, e, rfl⟩)
theorem i_list {K : PySem.W.Frag} {tl : TE} {P : List Dt → Prop} (h : EvL U tl E P) : IterP U (iList K tl) E P := fun H0 σ H S R k => h H0 σ H S _ fun a xs H1 ds x1 i1 p h1 h2 h3 no => by
  refine ⟨a, rfl, ⟨xs, .of h1⟩, ?_⟩
  have w := walk_list (K := K) (a := a) (xs := xs)
  rw [h3.len] at w
  refine k _ H1 [a] _ _ ds p x1 i1 w (fun b hb => by rw [List.mem_singleton.mp hb]; exact ⟨_, h1, h2, no⟩) (fun H' e => .of (by rw [e a List.mem_cons_self]; exact h1)) fun i H' x H'' _ kp hi y => ?_
  obtain ⟨e, y⟩ := y
  subst e
  obtain ⟨d, hd, hD⟩ := h3.back y
  exact ⟨d, hd, .refl _, hD.kp kp⟩
theorem i_tup {K : PySem.W.Frag} {tl : TE} {P : List Dt → Prop} (h : EvP U tl E (fun s => ∃ ds, s = .dat (.tup ds) ∧ P ds)) : IterP U (iTup K tl) E P := fun H0 σ H S R k => h H0 σ H S _ fun v H1 s x1 i1 p n => by
  obtain ⟨ds, rfl, p⟩ := p
  obtain ⟨a, xs, rfl, h1, h3⟩ := DT.tup_inv n.1
  refine ⟨a, rfl, ⟨xs, .of h1⟩, ?_⟩
  have w := walk_tup (K := K) (a := a) (xs := xs)
  rw [h3.len] at w
  refine k _ H1 [a] _ _ ds p x1 i1 w (fun b hb => by rw [List.mem_singleton.mp hb]; exact ⟨_, h1, (fun bad => by have q := U.nb _ _ bad; cases q), (S.go x1 i1).notOwn_of fun o e => by rw [h1] at e; cases e; rfl⟩) (fun H' e => .of (by rw [e a List.mem_cons_self]; exact h1)) fun i H' x H'' _ kp hi y => ?_
  obtain ⟨e, y⟩ := y
  subst e
  obtain ⟨d, hd, hD⟩ := h3.back y
  exact ⟨d, hd, .refl _, hD.kp kp⟩
theorem i_tupD {K : PySem.W.Frag} {tl : TE} (h : EvD U tl E (.tup ds)) : IterD U (iTup K tl) E ds := i_tup (h.imp fun s e => ⟨ds, e, rfl⟩)
def rngD (lo : Int) (n : Nat) : List Dt := (List.range n).map fun (i : Nat) => Dt.int (lo + (i : Int))
theorem rngD_len (lo : Int) (n : Nat) : (rngD lo n).length = n := by unfold rngD; rw [List.length_map, List.length_range]
theorem rngD_get {lo : Int} {n i : Nat} {d : Dt} (h : (rngD lo n)[i]? = some d) : d = .int (lo + (i : Int)) ∧ i < n := by
  unfold rngD at h
  rw [List.getElem?_map] at h
  by_cases hi : i < n
  · rw [List.getElem?_range hi] at h
    cases h
    exact ⟨rfl, hi⟩
  · rw [List.getElem?_eq_none (by rw [List.length_range]; omega)] at h
    cases h
theorem rng0_get {n i : Nat} {d : Dt} (h : (rngD 0 n)[i]? = some d) : d = .int (i : Int) ∧ i < n := by
  obtain ⟨h1, h2⟩ := rngD_get h
  rw [Int.zero_add] at h1
  exact ⟨h1, h2⟩
theorem range_k {H H1 : Hp} {σ : Sg} {R : It → Hp → Prop} {P : List Dt → Prop} {lo : Int} {n : Nat} (p : P (rngD lo n)) (x1 : Xt U H H1) (i1 : U.inv H1)
    (k : ∀ J H1 (fp : List Addr) (G : Hp → Prop) (Y : Nat → Hp → V → Hp → Prop) (ds : List Dt), P ds → Xt U H H1 → U.inv H1 → Walk J ds.length G Y → (∀ a ∈ fp, ∃ o, H1 a = some o ∧ ¬ U.bad a o ∧ NotOwn E σ a) → (∀ H', (∀ a ∈ fp, H' a = H1 a) → G H') →
    (∀ i H' x H'', G H' → Kp H1 H' → i < ds.length → Y i H' x H'' → ∃ d, ds[i]? = some d ∧ Same H' H'' ∧ DT H'' x d) → R J H1) : R (Itr lo n) H1 := by
  have w := walk_range (lo := lo) (n := n)
  rw [← rngD_len lo n] at w
  rw [rngD_len] at w
  refine k _ H1 [] _ _ (rngD lo n) p x1 i1 (by rw [rngD_len]; exact w) (fun a h => by cases h) (fun _ _ => trivial) fun i H' x H'' _ kp hi y => ?_
  obtain ⟨e, y⟩ := y
  subst e y
  rw [rngD_len] at hi
  refine ⟨.int (lo + (i : Int)), ?_, .refl _, .int _⟩
  unfold rngD
  rw [List.getElem?_map, List.getElem?_range hi]
  rfl
theorem i_range1 {ta : TA} {A : Int → Prop} {P : List Dt → Prop} (h : EvA U ta E (fun ss => ∃ n : Int, ss = [.dat (.int n)] ∧ A n)) (hb : ∀ n, A n → -(2 ^ 62) ≤ n ∧ n < 2 ^ 62 ∧ P (rngD 0 n.toNat)) : IterP U (iRng1 ta) E P := fun H0 σ H S R k =>
  h H0 σ H S _ fun vs H1 ss x1 i1 p n => by
    obtain ⟨j, rfl, p⟩ := p
    obtain ⟨v, rfl, hv⟩ := n.one
    obtain ⟨b1, b2, b3⟩ := hb j p
    refine ⟨j, by rw [DT.int_inv hv], b1, b2, range_k b3 x1 i1 k⟩
theorem i_range1D {te : TE} {n : Nat} (h : EvD U te E (.int (n : Int))) (hb : n ≤ 1000000) : IterD U (iRng1 (tCons te tNil)) E (rngD 0 n) :=
  i_range1 (A := fun m => m = (n : Int)) ((ea_cons h ea_nil).imp fun ss e => ⟨_, e, rfl⟩) fun m e => by subst e; exact ⟨by omega, by omega, rfl⟩
theorem i_range2D {ta tb : TE} {lo hi : Int} (h1 : EvD U ta E (.int lo)) (h2 : EvD U tb E (.int hi)) (hb : -1000000 ≤ lo ∧ lo ≤ 1000000 ∧ -1000000 ≤ hi ∧ hi ≤ 1000000) : IterD U (iRng2 (tCons ta (tCons tb tNil))) E (rngD lo (hi - lo).toNat) := fun H0 σ H S R k =>
  (ea_cons h1 (ea_cons h2 ea_nil)) H0 σ H S _ fun vs H1 ss x1 i1 p n => by
    subst p
    obtain ⟨v, vs', rfl, hv, n⟩ : ∃ v vs', vs = v :: vs' ∧ Hold U H1 v (.dat (.int lo)) ∧ HAll U H1 vs' [.dat (.int hi)] := by
      cases n with
      | cons h r => exact ⟨_, _, rfl, h, r⟩
    obtain ⟨u, rfl, hu⟩ := n.one
    refine ⟨lo, hi, by rw [DT.int_inv hv, DT.int_inv hu], by omega, range_k (P := (· = rngD lo (hi - lo).toNat)) rfl x1 i1 k⟩
/-- a text, sign by sign -/
def signs (z : Str) : List Dt := z.cps.toList.map fun c => .str ⟨#[c]⟩
theorem i_str {te : TE} {z : Str} (h : EvD U te E (.str z)) : IterD U (iStr te) E (signs z) := fun H0 σ H S R k => h H0 σ H S _ fun v H1 s x1 i1 p n => by
  subst p
  have hl : (signs z).length = z.cps.size := by unfold signs; rw [List.length_map, Array.length_toList]
  refine ⟨z, DT.str_inv n.1, ?_⟩
  have w := walk_str (z := z)
  refine k _ H1 [] _ _ (signs z) rfl x1 i1 (by rw [hl]; exact w) (fun a h => by cases h) (fun _ _ => trivial) fun i H' x H'' _ kp hi y => ?_
  obtain ⟨e, c, hc, y⟩ := y
  subst e y
  refine ⟨.str ⟨#[c]⟩, ?_, .refl _, .str _⟩
  unfold signs
  rw [List.getElem?_map, Array.getElem?_toList, hc]
  rfl
/-- zip of two tuples -/
def zipD (ds es : List Dt) : List Dt := List.zipWith (fun d e => .tup [d, e]) ds es
theorem i_zip {K : PySem.W.Frag} {ta : TA} (h : EvA U ta E (· = [.dat (.tup ds), .dat (.tup es)])) : IterD U (RZ.iZipA K ta) E (zipD ds es) := fun H0 σ H S R k => h H0 σ H S _ fun vs H1 ss x1 i1 p n => by
  subst p
  obtain ⟨v, vs', rfl, hv, n⟩ : ∃ v vs', vs = v :: vs' ∧ Hold U H1 v (.dat (.tup ds)) ∧ HAll U H1 vs' [.dat (.tup es)] := by
    cases n with
    | cons h r => exact ⟨_, _, rfl, h, r⟩
  obtain ⟨u, rfl, hu⟩ := n.one
  obtain ⟨a, xs, rfl, ha, hs⟩ := DT.tup_inv hv
  obtain ⟨b, ys, rfl, hb, ht⟩ := DT.tup_inv hu
  refine ⟨a, b, xs, ys, rfl, .inr ⟨.of ha, .of hb, ?_⟩⟩
  have S1 := S.go x1 i1
  have no : ∀ c zs, H1 c = some (.tup zs) → ∃ o, H1 c = some o ∧ ¬ U.bad c o ∧ NotOwn E σ c := fun c zs e => ⟨_, e, (fun bad => by have q := U.nb _ _ bad; cases q), S1.notOwn_of fun o e2 => by rw [e] at e2; cases e2; rfl⟩
  have hl : (zipD ds es).length = min xs.length ys.length := by unfold zipD; rw [List.length_zipWith, hs.len, ht.len]
  refine k _ H1 [a, b] (fun H => SqT K H a xs ∧ SqT K H b ys) (YPair (fun i => xs[i]?) (fun i => ys[i]?)) (zipD ds es) rfl x1 i1 ?_ (fun c hc => ?_) (fun H' e => ⟨.of (by rw [e a (by simp)]; exact ha), .of (by rw [e b (by simp)]; exact hb)⟩) fun i H' x H'' _ kp hi y => ?_
  · refine ⟨fun i H hi q => ?_, fun H q => ⟨xs, ys, q.1, q.2, by omega⟩, fun i H v H' _ q y => ?_⟩
    · have h1 : i < xs.length := by omega
      have h2 : i < ys.length := by omega
      exact ⟨xs, ys, xs[i], ys[i], q.1, q.2, by simp [h1], by simp [h2]⟩
    · obtain ⟨T, x, z, h1, h2, h3, h4, h5⟩ := y
      exact ⟨T, x, z, h1, h2, h3, h4 xs q.1, h5 ys q.2⟩
  · rcases List.mem_cons.mp hc with e | hc
    · rw [e]; exact no a xs ha
    · rw [List.mem_singleton.mp hc]; exact no b ys hb
  · obtain ⟨T, x1, y1, rfl, nT, rfl, f1, f2⟩ := y
    obtain ⟨d, hd, hD⟩ := hs.back f1
    obtain ⟨e, he, hE⟩ := ht.back f2
    have sm : Same H' (upd H' T (.tup [x1, y1])) := same_new nT
    refine ⟨.tup [d, e], ?_, sm, .tup upd_same (.cons ((hD.kp kp).kp (Xt.of (U := U) sm).kp) (.one ((hE.kp kp).kp (Xt.of (U := U) sm).kp)))⟩
    unfold zipD
    rw [List.getElem?_zipWith, hd, he]
end
/-! ### loops -/
section
variable {U : Vol} {E E' : DEnv} {G : DE} {t u : TS}
theorem d_forP {wi : TI} {g : TG} {tb : TS} {P : List Dt → Prop} (I : List Dt → Nat → DEnv → Prop) (hi : IterP U wi E P) (h0 : ∀ ds, P ds → I ds 0 E)
    (hs : ∀ ds i d E', P ds → ds[i]? = some d → I ds i E' → ∃ E'' js, GD U g d E' E'' js ∧ DS U tb E'' { G with nx := I ds (i + 1), ct := I ds (i + 1), bk := G.nx }) (hd : ∀ ds E', P ds → I ds ds.length E' → G.nx E') : DS U (tFor wi g tb) E G := fun D H0 σ H S F =>
  hi H0 σ H S _ fun J H1 fp Gw Y ds p x1 i1 w hfp hG hY => by
    have S1 := S.go x1 i1
    have at_ : ∀ {E' σ' H'}, SD U (rb E σ H1) E' σ' H' → ∀ a ∈ fp, H' a = H1 a := fun {E' σ' H'} T a ha => by
      obtain ⟨o, h1, h2, h3⟩ := hfp a ha
      rw [h1]
      exact T.xt.1 a o (by rw [rb_yes h3]; exact h1) h2
    have kp_ : ∀ {E' σ' H'}, SD U (rb E σ H1) E' σ' H' → Kp H1 H' := fun {E' σ' H'} T a o e ti => by
      refine T.xt.1 a o ?_ (fun b => by have q := U.nb _ _ b; rw [ti] at q; cases q)
      rw [rb_yes (S1.notOwn_of fun o' e' => by rw [e] at e'; cases e'; exact ti)]
      exact e
    refine for_it w (fun i σ' H' => ∃ E', I ds i E' ∧ SD U (rb E σ H1) E' σ' H') ⟨E, h0 ds p, S1.rb⟩ (fun i σ' H' _ ⟨E', _, T⟩ => hG H' (at_ T)) (fun i x σ' H' H'' hlt ⟨E', hI, T⟩ y => ?_) fun σ' H' ⟨E', hI, T⟩ => F.nx _ _ _ (hd ds E' p hI) (S1.back T)
    obtain ⟨d, h1, h2, h3⟩ := hY i H' x H'' (hG H' (at_ T)) (kp_ T) hlt y
    obtain ⟨E'', js, g1, g2⟩ := hs ds i d E' p h1 hI
    refine g1 _ σ' H'' x (T.same h2) h3 _ fun σ2 H2 _ T2 _ => g2 _ _ σ2 H2 T2 ⟨fun E3 σ3 H3 q T3 => ⟨E3, q, T3⟩, (S1.fit F).rt, fun E3 σ3 H3 q T3 => F.nx _ _ _ q (S1.back T3), fun E3 σ3 H3 q T3 => ⟨E3, q, T3⟩⟩
theorem d_for {wi : TI} {g : TG} {tb : TS} {ds : List Dt} (I : Nat → DEnv → Prop) (hi : IterD U wi E ds) (h0 : I 0 E)
    (hs : ∀ i d E', ds[i]? = some d → I i E' → ∃ E'' js, GD U g d E' E'' js ∧ DS U tb E'' { G with nx := I (i + 1), ct := I (i + 1), bk := G.nx }) (hd : ∀ E', I ds.length E' → G.nx E') : DS U (tFor wi g tb) E G :=
  d_forP (fun _ => I) hi (fun _ _ => h0) (fun ds' i d E' e => by subst e; exact hs i d E') (fun ds' E' e => by subst e; exact hd E')
/-- the turns lead from one environment to the next, what is not told is forgotten -/
theorem d_forE {wi : TI} {g : TG} {tb : TS} {ds : List Dt} (e : Nat → DEnv) (hi : IterD U wi E ds) (h0 : Fg E (e 0))
    (hs : ∀ i d, ds[i]? = some d → ∃ E'' js, GD U g d (e i) E'' js ∧ DS U tb E'' { G with nx := fun E' => Fg E' (e (i + 1)), ct := fun E' => Fg E' (e (i + 1)), bk := G.nx }) (hd : G.nx (e ds.length)) : DS U (tFor wi g tb) E G := fun D H0 σ H S F => by
  refine d_for (U := U) (E := E) (G := { G with nx := fun E' => Fg E' (e ds.length) ∨ G.nx E' }) (fun i E' => Fg E' (e i)) hi h0 (fun i d E' h1 h2 => ?_) (fun E' h => .inl h) D H0 σ H S ⟨fun E' σ' H' q T => ?_, F.rt, F.bk, F.ct⟩
  · obtain ⟨E'', js, g1, g2⟩ := hs i d h1
    refine ⟨E'', js, fun H0 σ H x S hx Q q => g1 H0 σ H x (S.fg h2) hx Q q, fun D H0 σ H S F => g2 D H0 σ H S ⟨F.nx, F.rt, fun E' σ' H' q T => F.bk E' σ' H' (.inr q) T, F.ct⟩⟩
  · rcases q with q | q
    · exact F.nx _ _ _ hd (T.fg q)
    · exact F.nx _ _ _ q T
/-- .. with a fact that goes along -/
theorem d_forF {wi : TI} {g : TG} {tb : TS} {ds : List Dt} (f : Nat → Prop) (e : Nat → DEnv) (hi : IterD U wi E ds) (h0 : f 0 ∧ Fg E (e 0))
    (hs : ∀ i d, ds[i]? = some d → f i → ∃ E'' js, GD U g d (e i) E'' js ∧ DS U tb E'' { G with nx := fun E' => f (i + 1) ∧ Fg E' (e (i + 1)), ct := fun E' => f (i + 1) ∧ Fg E' (e (i + 1)), bk := G.nx }) (hd : f ds.length → G.nx (e ds.length)) : DS U (tFor wi g tb) E G := fun D H0 σ H S F => by
  refine d_for (U := U) (E := E) (G := { G with nx := fun E' => (f ds.length ∧ Fg E' (e ds.length)) ∨ G.nx E' }) (fun i E' => f i ∧ Fg E' (e i)) hi h0 (fun i d E' h1 h2 => ?_) (fun E' h => .inl h) D H0 σ H S ⟨fun E' σ' H' q T => ?_, F.rt, F.bk, F.ct⟩
  · obtain ⟨E'', js, g1, g2⟩ := hs i d h1 h2.1
    refine ⟨E'', js, fun H0 σ H x S hx Q q => g1 H0 σ H x (S.fg h2.2) hx Q q, fun D H0 σ H S F => g2 D H0 σ H S ⟨F.nx, F.rt, fun E' σ' H' q T => F.bk E' σ' H' (.inr q) T, F.ct⟩⟩
  · rcases q with q | q
    · exact F.nx _ _ _ (hd q.1) (T.fg q.2)
    · exact F.nx _ _ _ q T
theorem d_while {c : TT} {tb : TS} (I : Nat → DEnv → Prop) (m0 : Nat) (h0 : I m0 E)
    (hs : ∀ m E', I m E' → ∃ b, EvB U c E' (· = b) ∧ (b = true → DS U tb E' { G with nx := fun E'' => ∃ m', m' < m ∧ I m' E'', ct := fun E'' => ∃ m', m' < m ∧ I m' E'', bk := G.nx }) ∧ (b = false → G.nx E')) : DS U (tWhile c tb) E G := fun D H0 σ H S F => by
  refine ⟨fun m σ' H' => ∃ E', I m E' ∧ SD U H0 E' σ' H', ⟨m0, E, h0, S⟩, ?_⟩
  rintro m σ' H' ⟨E', hI, T⟩
  obtain ⟨b, h1, h2, h3⟩ := hs m E' hI
  refine h1 H0 σ' H' T _ fun b' H1 x1 i1 p => ?_
  subst p
  have T1 := T.go x1 i1
  cases b' with
  | true => exact iteT ⟨fun σ2 H2 => ∃ m', m' < m ∧ ∃ E', I m' E' ∧ SD U H0 E' σ2 H2, fun σ2 H2 q => q, h2 rfl _ H0 σ' H1 T1 ⟨fun E3 σ3 H3 ⟨m', hm, q⟩ T3 => ⟨m', hm, E3, q, T3⟩, F.rt, fun E3 σ3 H3 q T3 => F.nx _ _ _ q T3, fun E3 σ3 H3 ⟨m', hm, q⟩ T3 => ⟨m', hm, E3, q, T3⟩⟩⟩
  | false => exact iteF (F.nx _ _ _ (h3 rfl) T1)
end
/-! ### comprehensions -/
def wipeE (E : DEnv) : List Nat → DEnv
  | [] => E
  | v :: vs => (wipeE E vs).set v none
section
variable {U : Vol} {E E' : DEnv} {σ σ' : Sg} {H0 H H' : Hp}
theorem wipeE_some {i : Nat} {s : Sl} : ∀ {vs : List Nat}, (wipeE E vs)[i]? = some (some s) → E[i]? = some (some s) ∧ i ∉ vs
  | [], h => ⟨h, by simp⟩
  | v :: vs, h => by
    rcases set_get (show ((wipeE E vs).set v none)[i]? = some (some s) from h) with ⟨_, z, _⟩ | ⟨ne, h⟩
    · cases z
    · obtain ⟨h1, h2⟩ := wipeE_some h
      exact ⟨h1, by simp only [List.mem_cons, not_or]; exact ⟨ne, h2⟩⟩
theorem wipeE_len : ∀ vs : List Nat, (wipeE E vs).length = E.length
  | [] => rfl
  | v :: vs => by rw [wipeE, List.length_set, wipeE_len vs]
theorem wipe_off {i : Nat} : ∀ {vs : List Nat}, i ∉ vs → (wipe σ vs)[i]? = σ[i]?
  | [], _ => rfl
  | v :: vs, h => by
    rw [List.mem_cons, not_or] at h
    show ((wipe σ vs).set v none)[i]? = _
    rw [List.getElem?_set_ne (Ne.symm h.1), wipe_off h.2]
theorem wipe_in {i : Nat} : ∀ {vs : List Nat}, i ∈ vs → i < σ.length → (wipe σ vs)[i]? = some none
  | v :: vs, h, hl => by
    show ((wipe σ vs).set v none)[i]? = _
    by_cases e : v = i
    · subst e
      rw [List.getElem?_set_self (by rw [wipe_length]; exact hl)]
    · rw [List.getElem?_set_ne e, wipe_in ((List.mem_cons.mp h).resolve_left (fun z => e z.symm)) hl]
theorem Off.wipe {js vs : List Nat} (o : Off js (wipe σ vs) σ') (h : ∀ j ∈ js, j ∈ vs) : wipe σ' vs = wipe σ vs := by
  have hl : σ'.length = σ.length := by rw [o.1, wipe_length]
  refine List.ext_getElem? fun i => ?_
  by_cases hi : i ∈ vs
  · by_cases hlt : i < σ.length
    · rw [wipe_in hi hlt, wipe_in hi (by rw [hl]; exact hlt)]
    · rw [List.getElem?_eq_none (by rw [wipe_length]; omega), List.getElem?_eq_none (by rw [wipe_length]; omega)]
  · rw [wipe_off hi, wipe_off hi, o.2 i (fun z => hi (h i z)), wipe_off hi]
theorem SD.wipe (S : SD U H0 E σ H) (vs : List Nat) : SD U H0 (wipeE E vs) (wipe σ vs) H :=
  ⟨by rw [wipeE_len, wipe_length]; exact S.len, S.xt, S.inv, fun i s e => by
    obtain ⟨h1, h2⟩ := wipeE_some e
    rw [wipe_off h2]
    exact S.sl i s h1, fun i j s t v ne e1 e2 o m e3 e4 => by
    obtain ⟨h1, h2⟩ := wipeE_some e1
    obtain ⟨h3, h4⟩ := wipeE_some e2
    rw [wipe_off h2] at e3
    rw [wipe_off h4] at e4
    exact S.sep i j s t v ne h1 h3 o m e3 e4⟩
/-- one slot more, for a list that is being made -/
theorem SD.ext {a : Addr} {ds : List Dt} {xs : List V} (S : SD U H0 E σ H) (n : H a = none) (hx : DTs H xs ds) : SD U H0 (E ++ [some (.ol ds)]) (σ ++ [some (.ref a)]) (upd H a (.lst xs)) := by
  have sm : Same H (upd H a (.lst xs)) := same_new n
  have S' := S.same sm
  have n0 := S.xt.free n
  have off : ∀ {i : Nat} {s : Sl}, E[i]? = some (some s) → s.mut = true → σ[i]? ≠ some (some (.ref a)) := fun {i s} e m z => by
    obtain ⟨v, h1, h2, _⟩ := S.sl i s e
    rw [z] at h1
    cases h1
    obtain ⟨b, o, eb, hb, _⟩ := h2.at_ m
    cases eb
    rw [n] at hb
    cases hb
  have get : ∀ {i : Nat} {s : Sl}, (E ++ [some (.ol ds)])[i]? = some (some s) → (i < E.length ∧ E[i]? = some (some s)) ∨ (i = E.length ∧ s = .ol ds) := fun {i s} e => by
    by_cases hi : i < E.length
    · rw [List.getElem?_append_left hi] at e
      exact .inl ⟨hi, e⟩
    · rw [List.getElem?_append_right (by omega)] at e
      have : i - E.length = 0 := by
        cases q : i - E.length with
        | zero => rfl
        | succ m => rw [q] at e; simp at e
      rw [this] at e
      exact .inr ⟨by omega, by simpa using e.symm⟩
  refine ⟨by rw [List.length_append, List.length_append, S.len]; rfl, S'.xt, S'.inv, fun i s e => ?_, fun i j s t v ne e1 e2 o m e3 e4 => ?_⟩
  · rcases get e with ⟨hi, e⟩ | ⟨hi, e⟩
    · obtain ⟨v, h1, h2⟩ := S'.sl i s e
      exact ⟨v, by rw [List.getElem?_append_left (by rw [← S.len]; exact hi)]; exact h1, h2⟩
    · subst e
      refine ⟨.ref a, by rw [hi, S.len, List.getElem?_append_right (Nat.le_refl _)]; simp, ⟨a, xs, rfl, upd_same, U.nw _ _ _ S.inv n (by first | exact .b rfl | exact ord_nd), hx.kp (Xt.of (U := U) sm).kp⟩, fun _ b e => by cases e; exact n0⟩
  · rcases get e1 with ⟨hi, e1⟩ | ⟨hi, e1⟩
    · rw [List.getElem?_append_left (by rw [← S.len]; exact hi)] at e3
      rcases get e2 with ⟨hj, e2⟩ | ⟨hj, e2⟩
      · rw [List.getElem?_append_left (by rw [← S.len]; exact hj)] at e4
        exact S.sep i j s t v ne e1 e2 o m e3 e4
      · rw [hj, S.len, List.getElem?_append_right (Nat.le_refl _)] at e4
        have e4 : V.ref a = v := by simpa using e4
        subst e4
        exact off e1 (own_mut o) e3
    · rw [hi, S.len, List.getElem?_append_right (Nat.le_refl _)] at e3
      have e3 : V.ref a = v := by simpa using e3
      subst e3
      rcases get e2 with ⟨hj, e2⟩ | ⟨hj, e2⟩
      · rw [List.getElem?_append_left (by rw [← S.len]; exact hj)] at e4
        exact off e2 m e4
      · exact ne (hi.trans hj.symm)
theorem SD.pre {s : Sl} {v : V} (S : SD U H0 (E ++ [some s]) (σ ++ [some v]) H) : SD U H0 E σ H := by
  have hl : E.length = σ.length := by
    have q := S.len
    rw [List.length_append, List.length_append] at q
    simpa using q
  have up : ∀ {i : Nat} {t : Sl}, E[i]? = some (some t) → i < E.length := fun {i t} e => (List.getElem?_eq_some_iff.mp e).1
  refine ⟨hl, S.xt, S.inv, fun i t e => ?_, fun i j t u y ne e1 e2 o m e3 e4 => ?_⟩
  · have hi := up e
    obtain ⟨y, h1, h2⟩ := S.sl i t (by rw [List.getElem?_append_left hi]; exact e)
    rw [List.getElem?_append_left (by omega)] at h1
    exact ⟨y, h1, h2⟩
  · have hi := up e1
    have hj := up e2
    exact S.sep i j t u y ne (by rw [List.getElem?_append_left hi]; exact e1) (by rw [List.getElem?_append_left hj]; exact e2) o m (by rw [List.getElem?_append_left (by omega)]; exact e3) (by rw [List.getElem?_append_left (by omega)]; exact e4)
end
section
variable {U : Vol} {E : DEnv}
theorem e_lcP {wi : TI} {g : TG} {tt : TT} {te : TE} {vs : List Nat} {P : List Dt → Prop} (I : List Dt → Nat → List Dt → Prop) (hi : IterP U wi E P) (h0 : ∀ ds, P ds → I ds 0 [] ∧ ds.length ≤ 1000000)
    (hs : ∀ ds i d acc, P ds → ds[i]? = some d → I ds i acc → ∃ E'' js R, GD U g d (wipeE E vs) E'' js ∧ (∀ j ∈ js, j ∈ vs) ∧ EvB U tt E'' R ∧ (R true → EvP U te E'' (fun s => ∃ e, s = .dat e ∧ I ds (i + 1) (acc ++ [e]))) ∧ (R false → I ds (i + 1) acc)) :
    EvP U (tLc wi g tt te vs) E (fun s => ∃ acc, s = .ol acc ∧ ∃ ds, P ds ∧ I ds ds.length acc) := fun H0 σ H S Q q =>
  hi H0 σ H S _ fun J H1 fp Gw Y ds p x1 i1 w hfp hG hY => fun Dl nD => by
    have S1 := S.go x1 i1
    obtain ⟨g0, hlen⟩ := h0 ds p
    have SB := (S1.rb).wipe vs
    have nDn : ∀ c o, H1 c = some o → c ≠ Dl := fun c o e => ne_of_none e nD
    refine lc_it w (fun i H' => ∃ acc ys, I ds i acc ∧ acc.length ≤ i ∧ H' Dl = some (.lst ys) ∧ SD U (rb E σ H1) (wipeE E vs ++ [some (.ol acc)]) (wipe σ vs ++ [some (.ref Dl)]) H' ∧ (∀ a o, H1 a = some o → ¬ U.bad a o → H' a = some o) ∧ (∀ a, H1 a ≠ none → H' a ≠ none) ∧ DTs H' ys acc)
      ⟨[], [], g0, Nat.le_refl _, upd_same, SB.ext nD .nil, fun a o e _ => by rw [upd_ne (nDn a o e)]; exact e, fun a e => by rw [upd_ne (fun z => e (by rw [z]; exact nD))]; exact e, .nil⟩ (fun i H' _ ⟨acc, ys, _, _, _, _, k1, _, _⟩ => ?_) (fun i x H' H'' hlt ⟨acc, ys, hI, hl, hD, T, k1, k2, hy⟩ yl => ?_) fun H' ⟨acc, ys, hI, hl, hD, T, k1, k2, hy⟩ => ?_
    · refine hG H' fun a ha => ?_
      obtain ⟨o, h1, h2, _⟩ := hfp a ha
      rw [h1]
      exact k1 a o h1 h2
    · have hG' : Gw H' := hG H' fun a ha => by
        obtain ⟨o, h1, h2, _⟩ := hfp a ha
        rw [h1]
        exact k1 a o h1 h2
      obtain ⟨d, h1, h2, h3⟩ := hY i H' x H'' hG' (fun a o e ti => k1 a o e fun b => by have q := U.nb _ _ b; rw [ti] at q; cases q) hlt yl
      obtain ⟨E'', js, Rr, g1, g2, g3, g4, g5⟩ := hs ds i d acc p h1 hI
      have T2 := T.same h2
      refine g1 _ _ H'' x T2.pre h3 _ fun σ2 H2 x2 S2 o2 => ⟨o2.wipe g2, g3 _ σ2 H2 S2 _ fun b H3 x3 i3 p3 => ?_⟩
      have x03 : Xt U H' H3 := ((Xt.of h2).trans x2).trans x3
      have nbD : ¬ U.bad Dl (.lst ys) := by
        obtain ⟨v, f1, ⟨a, zs, ea, f2, f3, _⟩, _⟩ := T.sl (wipeE E vs).length (.ol acc) (by rw [List.getElem?_append_right (Nat.le_refl _)]; simp)
        rw [T.pre.len, List.getElem?_append_right (Nat.le_refl _)] at f1
        have e : V.ref Dl = v := by simpa using f1
        rw [ea] at e
        cases e
        rw [hD] at f2
        cases f2
        exact f3
      cases b with
      | false =>
        exact iteF ⟨acc, ys, g5 p3, Nat.le_succ_of_le hl, x03.1 Dl _ hD nbD, (T2.go x2 S2.inv).go x3 i3, fun a o e n => x03.1 a o (k1 a o e n) n, fun a e => x03.2 a (k2 a e), hy.kp x03.kp⟩
      | true =>
        refine iteT (g4 p3 _ σ2 H3 (S2.go x3 i3) _ fun y H4 s x4 i4 p4 n4 => ?_)
        obtain ⟨e, rfl, hI'⟩ := p4
        have x04 := x03.trans x4
        have hD4 := x04.1 Dl _ hD nbD
        have T4 := ((T2.go x2 S2.inv).go x3 i3).go x4 i4
        have hy4 := (hy.kp x04.kp).snoc n4.1
        refine ⟨ys, hD4, by rw [hy.len]; exact Nat.lt_of_le_of_lt hl (Nat.lt_of_lt_of_le hlt (Nat.le_trans hlen (by decide))), acc ++ [e], ys ++ [y], hI', by rw [List.length_append]; exact Nat.add_le_add_right hl 1, upd_same, ?_, fun a o e n => ?_, fun a e => ?_, ?_⟩
        · have tt := T4.turn (i := (wipeE E vs).length) (ds := acc) (es := acc ++ [e]) (by rw [List.getElem?_append_right (Nat.le_refl _)]; simp) (by rw [T.pre.len, List.getElem?_append_right (Nat.le_refl _)]; simp) hD4 hy4
          have eq : (wipeE E vs ++ [some (Sl.ol acc)]).set (wipeE E vs).length (some (Sl.ol (acc ++ [e]))) = wipeE E vs ++ [some (Sl.ol (acc ++ [e]))] := by
            rw [List.set_append_right _ _ (Nat.le_refl _)]
            simp
          rw [eq] at tt
          exact tt
        · rw [upd_ne (nDn a o e)]
          exact x04.1 a o (k1 a o e n) n
        · rw [upd_ne (fun z => e (by rw [z]; exact nD))]
          exact x04.2 a (k2 a e)
        · refine hy4.kp fun c o e ti => ?_
          rw [upd_ne (fun z => by rw [z, hD4] at e; cases e; cases ti)]
          exact e
    · have nbD : ¬ U.bad Dl (.lst ys) := by
        obtain ⟨v, f1, ⟨a, zs, ea, f2, f3, _⟩, _⟩ := T.sl (wipeE E vs).length (.ol acc) (by rw [List.getElem?_append_right (Nat.le_refl _)]; simp)
        rw [T.pre.len, List.getElem?_append_right (Nat.le_refl _)] at f1
        have e : V.ref Dl = v := by simpa using f1
        rw [ea] at e
        cases e
        rw [hD] at f2
        cases f2
        exact f3
      exact q _ H' (Sl.ol acc) (x1.trans ⟨k1, k2⟩) T.inv ⟨acc, rfl, ds, p, hI⟩ ⟨⟨Dl, ys, rfl, hD, nbD, hy⟩, fun _ a e => by cases e; exact x1.free nD⟩
/-- each item gives a datum -/
theorem e_lcM {wi : TI} {g : TG} {te : TE} {vs : List Nat} {ds : List Dt} (f : Nat → Dt) (hi : IterD U wi E ds) (hl : ds.length ≤ 1000000)
    (hs : ∀ i d, ds[i]? = some d → ∃ E'' js, GD U g d (wipeE E vs) E'' js ∧ (∀ j ∈ js, j ∈ vs) ∧ EvD U te E'' (f i)) :
    EvP U (tLc wi g tYes te vs) E (· = .ol ((List.range ds.length).map f)) := by
  refine (e_lcP (fun ds' i acc => acc = (List.range i).map f) hi (fun ds' e => by subst e; exact ⟨rfl, hl⟩) fun ds' i d acc e h1 h2 => ?_).imp fun s ⟨acc, e1, ds', e2, e3⟩ => by rw [e1, e3, e2]
  subst e
  obtain ⟨E'', js, g1, g2, g3⟩ := hs i d h1
  refine ⟨E'', js, (· = true), g1, g2, fun H0 σ H S Q q => q true H .refl S.inv rfl, fun _ => g3.imp fun s e => ⟨f i, e, ?_⟩, fun z => by cases z⟩
  rw [h2, List.range_succ, List.map_append]
  rfl
/-- the items that a test lets by, each with its datum -/
theorem e_lcF {wi : TI} {g : TG} {tt : TT} {te : TE} {vs : List Nat} {ds : List Dt} (b : Nat → Bool) (f : Nat → Dt) (hi : IterD U wi E ds) (hl : ds.length ≤ 1000000)
    (hs : ∀ i d, ds[i]? = some d → ∃ E'' js, GD U g d (wipeE E vs) E'' js ∧ (∀ j ∈ js, j ∈ vs) ∧ EvB U tt E'' (· = b i) ∧ (b i = true → EvD U te E'' (f i))) :
    EvP U (tLc wi g tt te vs) E (· = .ol (((List.range ds.length).filter b).map f)) := by
  refine (e_lcP (fun ds' i acc => acc = ((List.range i).filter b).map f) hi (fun ds' e => by subst e; exact ⟨rfl, hl⟩) fun ds' i d acc e h1 h2 => ?_).imp fun s ⟨acc, e1, ds', e2, e3⟩ => by rw [e1, e3, e2]
  subst e
  obtain ⟨E'', js, g1, g2, g3, g4⟩ := hs i d h1
  refine ⟨E'', js, (· = b i), g1, g2, g3, fun z => (g4 z.symm).imp fun s e => ⟨f i, e, ?_⟩, fun z => ?_⟩
  · rw [h2, List.range_succ, List.filter_append, List.map_append, List.filter_cons, if_pos z.symm]
    rfl
  · rw [h2, List.range_succ, List.filter_append, List.filter_cons, if_neg (by rw [← z]; decide)]
    simp
end
/-! ### a def by its body -/
def startE (N : List Str) (ss : List Sl) : DEnv := ss.map some ++ List.replicate (N.length - ss.length) none
structure Fine (A : Ask) (n : Nat) : Prop where
  ok : ∀ ss P, A ss P → ss.length = n ∧ ∀ s ∈ ss, s.own = false
theorem SD.start {U : Vol} {N : List Str} {vs : List V} {ss : List Sl} {H : Hp} (h : HAll U H vs ss) (iv : U.inv H) (hn : ss.length ≤ N.length) (ho : ∀ s ∈ ss, s.own = false) : SD U H (startE N ss) (L2.start N vs) H := by
  have hl := h.len
  have get : ∀ {i : Nat} {s : Sl}, (startE N ss)[i]? = some (some s) → i < ss.length ∧ ss[i]? = some s := fun {i s} e => by
    unfold startE at e
    by_cases hi : i < ss.length
    · rw [List.getElem?_append_left (by rw [List.length_map]; exact hi), List.getElem?_map] at e
      refine ⟨hi, ?_⟩
      cases q : ss[i]? with
      | none => rw [q] at e; cases e
      | some t => rw [q] at e; cases e; rfl
    · rw [List.getElem?_append_right (by rw [List.length_map]; omega), List.getElem?_replicate] at e
      split at e <;> cases e
  have hold : ∀ {vs : List V} {ss : List Sl} {i : Nat} {s : Sl}, HAll U H vs ss → ss[i]? = some s → ∃ v, vs[i]? = some v ∧ Hold U H v s := by
    intro vs ss i s h
    induction h generalizing i with
    | nil => intro e; simp at e
    | cons h _ ih =>
      intro e
      cases i with
      | zero => simp at e; subst e; exact ⟨_, rfl, h⟩
      | succ i =>
        obtain ⟨v, h1, h2⟩ := ih (i := i) (by simpa using e)
        exact ⟨v, by simpa using h1, h2⟩
  refine ⟨?_, .refl, iv, fun i s e => ?_, fun i j s t v ne e1 e2 o => ?_⟩
  · unfold startE L2.start
    rw [List.length_append, List.length_append, List.length_map, List.length_map, List.length_replicate, List.length_replicate, hl]
  · obtain ⟨hi, e⟩ := get e
    obtain ⟨v, h1, h2⟩ := hold h e
    refine ⟨v, ?_, h2, fun z => by rw [ho s (List.mem_of_getElem? e)] at z; cases z⟩
    unfold L2.start
    rw [List.getElem?_append_left (by rw [List.length_map]; omega), List.getElem?_map, h1]
    rfl
  · obtain ⟨hi, e1⟩ := get e1
    rw [ho s (List.mem_of_getElem? e1)] at o
    cases o
/-- the promise of a def whose body keeps it -/
theorem body_of {U : Vol} {A : Ask} {N : List Str} {n : Nat} {t : TS} (hA : Fine A n) (hN : n ≤ N.length) (h : ∀ ss P, A ss P → DS U t (startE N ss) { nx := fun _ => P (.dat .non), rt := P }) {vs : List V} {H : Hp} {Q : VK} {E : XK} (q : spD U A vs H Q E) :
    t { nx := fun _ H' => Q .non H', rt := Q } (L2.start N vs) H := by
  obtain ⟨ss, P, h1, h2, h3, h4⟩ := q
  obtain ⟨a1, a2⟩ := hA.ok ss P h3
  exact h ss P h3 _ H _ H (SD.start h1 h2 (by omega) a2) ⟨fun E' σ' H' g S => h4 .non H' (.dat .non) S.xt S.inv g (.dat .non), fun v H' s g x i n => h4 v H' s x i g n, fun _ _ _ z => z.elim, fun _ _ _ z => z.elim⟩
theorem len_of {U : Vol} {A : Ask} {n : Nat} (hA : Fine A n) : ∀ vs H Q E, spD U A vs H Q E → vs.length = n := fun vs H Q E ⟨ss, P, h1, _, h3, _⟩ => by rw [h1.len]; exact (hA.ok ss P h3).1
end K13
end
section
set_option Elab.async false
set_option linter.all false
set_option maxRecDepth 100000
set_option maxHeartbeats 4000000
set_option autoImplicit false
/-! enumerate over a tuple -/
namespace K13
open PySem PySem.Spec PyProof.Rows L2

set_option maxHeartbeats 1000000 in
theorem meets_enum1 {v : Value} {o : Obj} {HH : Heap → Prop} (B : Begins v o HH) :
    Meets (Builtin.«enumerate.__new__» ⟨[.type "enumerate", v], []⟩) (fun _ R s => HH s.heap ∧
      R (.ok (.ret (.ref (s.heap.push o).objs.size))) { s with heap := (s.heap.push o).push { cls := .type "enumerate", data := .fields #[.none, .bool false, .ref s.heap.objs.size, rawInt 0, .none, .none] } }) :=
  .of_wp fun prog w A R s0 hh => by
    obtain ⟨hp, g, dr, tk, os⟩ := s0
    obtain ⟨hb, hr⟩ := hh
    have hsub := sub_enumerate
    have it1 : ∀ {A' : Around} {E : Value → Shared → Prop} {Q : Value → Shared → Prop}, Q (.ref hp.objs.size) ⟨hp.push o, g, dr, tk, os⟩ → wpAny (model prog w) A' (pyIter v) Q E ⟨hp, g, dr, tk, os⟩ := fun q => B.iter prog w _ _ ⟨hp, g, dr, tk, os⟩ _ hb q
    wp_walk using it1
    refine wpAny_stack_any fun stk => wpAny_pure ?_
    split
    · rename_i cc _ _ _ _ _
      cases (cc == Value.type "enumerate") <;> (wp_walk using it1; exact ⟨_, rfl, hr⟩)
    · wp_walk using it1
      exact ⟨_, rfl, hr⟩
theorem call_enum1 {prog : Program} {w : World} {A : Around} {E : Value → Shared → Prop} {s : Shared} {v : Value} {o : Obj} {HH : Heap → Prop} {Q : Value → Shared → Prop} (B : Begins v o HH) (hb : HH s.heap)
    (k : ∀ h', IsEnum h' (s.heap.objs.size + 1) s.heap.objs.size 0 .none → h'.get? s.heap.objs.size = some o → (∀ b ob, s.heap.get? b = some ob → h'.get? b = some ob) → Q (.ref (s.heap.objs.size + 1)) { s with heap := h' }) :
    wpAny (model prog w) A (call (.type "enumerate") [v]) Q E s := by
  refine callType_new F.called_enumerate (by decide) (F.typeCall_enumerate_1 _) (F.newCall_enumerate_1 _) (fun obj => F.args_object_init_2 obj _) F.entry_enumerate_new (meets_enum1 B) ⟨hb, ?_⟩
  have sz : (s.heap.push o).objs.size = s.heap.objs.size + 1 := Heap.size_push ..
  show _ ∧ _
  rw [sz]
  have en : IsEnum ((s.heap.push o).push { cls := .type "enumerate", data := .fields #[.none, .bool false, .ref s.heap.objs.size, rawInt 0, .none, .none] }) (s.heap.objs.size + 1) s.heap.objs.size 0 .none := by
    have q := Heap.get?_push_size (s.heap.push o) (o := { cls := .type "enumerate", data := .fields #[.none, .bool false, .ref s.heap.objs.size, rawInt 0, .none, .none] }) rfl
    rw [sz] at q
    exact q
  exact ⟨⟨_, en, rfl⟩, k _ en (Heap.get?_push_of_some _ (Heap.get?_push_size _ B.free)) fun b ob x => Heap.get?_push_of_some _ (Heap.get?_push_of_some _ x)⟩
/-- the tuple at a as it stands at each turn, each item in a new pair -/
def IteT (K : PySem.W.Frag) (a : Addr) : It :=
  ⟨fun i H => ∃ xs x, SqT K H a xs ∧ xs[i]? = some x, fun i H v H' => ∃ T x, v = .ref T ∧ H T = none ∧ H' = upd H T (.tup [.int (i : Nat), x]) ∧ ∀ ys, SqT K H a ys → ys[i]? = some x, fun i H => ∃ xs, SqT K H a xs ∧ xs.length = i⟩
/-- how the iterator's two records stand at turn i -/
def EnT (a e it : Addr) (i : Nat) (h : Heap) : Prop := (∃ old, IsEnum h e it ((i : Nat) : Int) old) ∧ h.IsTupleIter it a i ∧ e ≠ it
theorem turn_enT {P : Program} {w : World} {K : PySem.W.Frag} {elts : List Expr} {kk : Nat} {tpos : Pos} (a e it : Addr) (hae : a ≠ e) (hai : a ≠ it) : Turn P w K (.Tuple elts kk tpos) (IteT K a) [e, it] e (EnT a e it) where
  mem := List.mem_cons_self
  obj := fun i h st b hb => by
    obtain ⟨⟨old, he⟩, ⟨o, ho, hc, hd⟩, _⟩ := st
    rcases List.mem_cons.mp hb with z | hb
    · rw [z]
      exact ⟨_, he, fun v q => nomatch q⟩
    · rw [List.mem_singleton.mp hb]
      exact ⟨o, ho, fun v q => by rw [hd] at q; cases q⟩
  keep := fun i h h' ⟨⟨old, he⟩, hi, hne⟩ k => ⟨⟨old, k e List.mem_cons_self _ he⟩, hi.at fun o q => k it (List.mem_cons_of_mem _ List.mem_cons_self) o q, hne⟩
  item := by
    intro X hP hw hK hc i pins s σ H E I hf st hg
    subst hP hw hK
    obtain ⟨⟨old, he⟩, hit, hne⟩ := st
    obtain ⟨xs, x, hq, hx⟩ := hg
    obtain ⟨its, rv, tp, hz⟩ := I.tuple hq
    have tp' : s.heap.IsTuple a its.toArray := tp
    have hlt : i < its.toArray.size := by
      rw [List.size_toArray, ← rv.length]
      exact (List.getElem?_eq_some_iff.mp hx).1
    have hel : e < s.heap.objs.size := Heap.lt_size he
    have hil : it < s.heap.objs.size := by
      obtain ⟨_, q, _⟩ := hit
      exact Heap.lt_size q
    refine wpAny_pyNext_enum_itemC (Draws.tuple (A := X.A.in1) (I.ok.hd hc) it a hai its.toArray) he ⟨hit, tp'⟩ hlt hne (fun z => ?_) fun u h' tk hu ho hst hT hsz hk => ?_
    · rcases List.mem_cons.mp z with z | z
      · exact hne z
      · exact hae (List.mem_singleton.mp z).symm
    obtain ⟨u2, hu2, ru⟩ := rv.get hx
    have eu : u2 = u := by
      have q : its.toArray[i]? = some u2 := by simpa using hu2
      rw [hu] at q
      exact (Option.some.inj q).symm
    subst eu
    refine ⟨_, rfl, wpAny_letOwnedTupleGo_enum (s := { s with heap := h', toks := tk + 1 }) ho fun h'' he' sb => ?_⟩
    have hT2 : h''.get? s.heap.objs.size = some { cls := .type "tuple", data := .seq #[.int i tk, u2] } := (sb.2 _ (Nat.ne_of_gt hel)).trans hT
    have new : ObjOk X.prog X.w (upd H s.heap.objs.size (.tup [.int (i : Nat), x])) h'' s.heap.objs.size (.tup [.int (i : Nat), x]) := ⟨by show 2 ≤ sizeLine; decide, [.int i tk, u2], .cons ⟨_, rfl⟩ (.cons ru .nil), ⟨_, hT2, rfl, _, rfl⟩⟩
    have I1 : Inv X pins σ (upd H s.heap.objs.size (.tup [.int (i : Nat), x])) { s with heap := h'', toks := tk + 1 } :=
      I.turnedNew (ch := [e, it]) (fun b ob hb q => (sb.2 b (fun z => hb (by rw [z]; exact List.mem_cons_self))).trans (hk b ob (fun z => hb (by rw [z]; exact List.mem_cons_self)) (fun z => hb (by rw [z]; exact List.mem_cons_of_mem _ List.mem_cons_self)) q)) hf (Nat.le_refl _) new
    refine ⟨.ref s.heap.objs.size, _, I1, rfl, ⟨_, x, rfl, I.hok.fresh (Nat.le_refl _), rfl, fun ys hy => by rw [I.tuple_inj hy hq]; exact hx⟩, ⟨⟨u2, ?_⟩, hst.1.at fun o q => (sb.2 it (Ne.symm hne)).trans q, hne⟩, fun b hb => ?_⟩
    · have e1 : ((i + 1 : Nat) : Int) = (i : Int) + 1 := by omega
      rw [e1]
      exact he'
    · have hb' : b < s.heap.objs.size := by
        rcases List.mem_cons.mp hb with z | hb
        · rw [z]; exact hel
        · rw [List.mem_singleton.mp hb]; exact hil
      rw [upd_ne (Nat.ne_of_lt hb')]
      exact (hf b hb).1
  done := by
    intro X hP hw hK hc i pins s σ H E I hf st hg
    subst hP hw hK
    obtain ⟨⟨old, he⟩, hit, hne⟩ := st
    obtain ⟨xs, hq, hx⟩ := hg
    obtain ⟨its, rv, tp, hz⟩ := I.tuple hq
    have tp' : s.heap.IsTuple a its.toArray := tp
    obtain ⟨f0, f1, f2, f3, f4, f5⟩ := hf it (List.mem_cons_of_mem _ List.mem_cons_self)
    have hi : its.toArray.size = i := by rw [List.size_toArray, ← rv.length]; exact hx
    have D := Draws.tuple (prog := X.prog) (w := X.w) (A := X.A.in1) (I.ok.hd hc) it a hai its.toArray
    rw [hi] at D
    exact wpAny_pyNext_enum_endD D he ⟨hit, tp'⟩ fun h' eb => ⟨rfl, I.turned (t' := s.toks) (fun b o hb q => eb b o hb q) f0 f1 f3 f4 f5⟩
  self := fun A i s Q E st h => let ⟨⟨_, he⟩, _⟩ := st; wpAny_pyIter_enum he h
def iEnumT (K : PySem.W.Frag) (ta : TA) : TI := fun σ H R => ta σ H fun vs H1 => ∃ a xs, vs = [.ref a] ∧ SqT K H1 a xs ∧ R (IteT K a) H1
theorem pi_enumT {X : Cx} {e : Expr} {ta : TA} {p pos tpos : Pos} {elts : List Expr} {kk : Nat} (hg : Gl X "enumerate") (hm : X.mg "enumerate" = none) (ha : PA X [e] ta) (hs : starEach [e] X.env = [(false, eval e X.env)] := by rfl) :
    PI X (.Tuple elts kk tpos) (.Call (.Name "enumerate" p) [e] [] pos) (iEnumT X.K ta) := by
  refine ⟨fun pins s σ H R I h => Call_ (ld_blt I hg hm boot_enumerate (PyProof.Rows.callWith_type1 (thn (ha.run pos pins s σ H _ I h) ?_) hs rfl))⟩
  rintro us s1 ⟨vs, H1, I1, r1, a, xs, rfl, hq, q⟩
  cases r1 with
  | cons r rr =>
    cases rr
    cases r
    obtain ⟨its, rv, tp, hz⟩ := I1.tuple hq
    have tp' : s1.heap.IsTuple a its.toArray := tp
    have hal : a < s1.heap.objs.size := by
      obtain ⟨o, ho, _⟩ := tp'
      exact Heap.lt_size ho
    refine call_enum1 (begins_tuple a its.toArray) tp' fun h' he hit hk => wpAny_pyIter_enum he ?_
    have I2 : Inv X pins σ H1 { s1 with heap := h' } := I1.kept (t' := s1.toks) hk
    refine ⟨s1.heap.objs.size + 1, [s1.heap.objs.size + 1, s1.heap.objs.size], _, _, H1, rfl, I2, turn_enT a (s1.heap.objs.size + 1) s1.heap.objs.size (Nat.ne_of_lt (Nat.lt_succ_of_lt hal)) (Nat.ne_of_lt hal), ⟨⟨.none, he⟩, ⟨_, hit, rfl, rfl⟩, Nat.succ_ne_self _⟩, fun b hb => ?_, q⟩
    have hle : s1.heap.objs.size ≤ b := by
      rcases List.mem_cons.mp hb with z | z
      · rw [z]; exact Nat.le_succ _
      · rw [List.mem_singleton.mp z]; exact Nat.le_refl _
    exact I1.fpOk hle (I1.hok.fresh hle)
theorem walk_enT {K : PySem.W.Frag} {a : Addr} {xs : List V} : Walk (IteT K a) xs.length (fun H => SqT K H a xs) (fun i H v H' => ∃ T x, v = .ref T ∧ H T = none ∧ H' = upd H T (.tup [.int (i : Nat), x]) ∧ xs[i]? = some x) :=
  ⟨fun i H hi q => ⟨xs, xs[i], q, by simp [hi]⟩, fun H q => ⟨xs, q, rfl⟩, fun i H v H' hi q y => by
    obtain ⟨T, x, h1, h2, h3, h4⟩ := y
    exact ⟨T, x, h1, h2, h3, h4 xs q⟩⟩
def enD (ds : List Dt) : List Dt := ds.zipIdx.map fun p => .tup [.int (p.2 : Int), p.1]
theorem enD_len (ds : List Dt) : (enD ds).length = ds.length := by unfold enD; rw [List.length_map, List.length_zipIdx]
theorem enD_get {ds : List Dt} {i : Nat} {d : Dt} (h : (enD ds)[i]? = some d) : ∃ e, ds[i]? = some e ∧ d = .tup [.int (i : Int), e] := by
  unfold enD at h
  rw [List.getElem?_map, List.getElem?_zipIdx] at h
  cases q : ds[i]? with
  | none => rw [q] at h; cases h
  | some e =>
    rw [q] at h
    refine ⟨e, rfl, ?_⟩
    have h : Dt.tup [.int ((0 + i : Nat) : Int), e] = d := Option.some.inj h
    rw [← h, Nat.zero_add]
theorem i_enum {U : Vol} {E : DEnv} {K : PySem.W.Frag} {te : TE} {ds : List Dt} (h : EvD U te E (.tup ds)) : IterD U (iEnumT K (tCons te tNil)) E (enD ds) := fun H0 σ H S R k => (ea_cons h ea_nil) H0 σ H S _ fun vs H1 ss x1 i1 p n => by
  subst p
  obtain ⟨v, rfl, hv⟩ := n.one
  obtain ⟨a, xs, rfl, ha, hs⟩ := DT.tup_inv hv
  refine ⟨a, xs, rfl, .of ha, ?_⟩
  have w := walk_enT (K := K) (a := a) (xs := xs)
  rw [hs.len, ← enD_len] at w
  refine k _ H1 [a] _ _ (enD ds) rfl x1 i1 w (fun b hb => ?_) (fun H' e => .of (by rw [e a List.mem_cons_self]; exact ha)) fun i H' x H'' _ kp hi y => ?_
  · rw [List.mem_singleton.mp hb]
    exact ⟨_, ha, (fun bad => by have q := U.nb _ _ bad; cases q), (S.go x1 i1).notOwn_of fun o e => by rw [ha] at e; cases e; rfl⟩
  · obtain ⟨T, x, rfl, nT, rfl, hx⟩ := y
    obtain ⟨d, hd, hD⟩ := hs.back hx
    have sm : Same H' (upd H' T (.tup [.int (i : Nat), x])) := same_new nT
    refine ⟨.tup [.int (i : Int), d], ?_, sm, .tup upd_same (.cons (.int _) (.one ((hD.kp kp).kp (Xt.of (U := U) sm).kp)))⟩
    unfold enD
    rw [List.getElem?_map, List.getElem?_zipIdx, hd]
    simp
end K13
end
section
set_option Elab.async false
set_option linter.all false
set_option maxRecDepth 100000
set_option maxHeartbeats 4000000
set_option autoImplicit false
/-! the text's defs, and how one is proved from its body -/
namespace K13
open PySem PySem.Spec PyProof.Rows L2
/-- the def st stands under its name -/
def Dn (K : PySem.W.Frag) (mg : Str → Option Value) (x : Str) (st : Stmt) : Prop := ∃ f fd, FunD K x x (defArgs st) (defBody st) (defScope st) [] [] f fd ∧ mg x = some (.ref f)
abbrev Bd (x : Str) (st : Stmt) (ps : List Str) : Prop := ∀ (kV doc pm : Value) (an : Option Addr) (cdv ct : Value) (us : List Value), us.length = ps.length → bindArgs (PySem.W.fnOf x x (defArgs st) (defBody st) (defScope st) .none kV doc pm an cdv ct) ⟨us, []⟩ = pure (ps.zip us)
section
variable {P : Program} {w : World} {K : PySem.W.Frag} {mg : Str → Option Value} {base : Heap}
theorem cal_of {x : Str} {st : Stmt} {N ps : List Str} {k : Nat} {U : Vol} {A : Ask} (D : Dn K mg x st) (S : FnScope N ps (defScope st)) (hb : Bd x st ps) (hA : Fine A ps.length) (hN : ps.length ≤ N.length)
    (body : ∀ (f : Addr) (cdv : Value) (A' : Around) (outer : List Env) (s : Shared) (H : Hp) (E : XK), Room k (A'.deeper (envOfC x (defScope st) s.heap.objs.size f cdv)) →
      ∃ t, PSs (cxOf C8.CX0 P w K mg base N x (defScope st) f cdv A' outer s H E).nox (defBody st) t ∧ ∀ ss Pp, A ss Pp → DS U t (startE N ss) { nx := fun _ => Pp (.dat .non), rt := Pp }) : C8.Cal P w K mg base (k + 1) x (spD U A) [] := by
  obtain ⟨f, fd, F, gm⟩ := D
  refine ⟨f, fd, ps, [], F.ok (CX := C8.CX0) S (len_of hA) (fun cdv A' outer s H vs Q E hr hsp => ?_), gm, F.kp, F.bindsN hb, .nil⟩
  obtain ⟨t, h1, h2⟩ := body f cdv A' outer s H E hr
  exact ⟨t, h1.nox, body_of hA hN h2 hsp⟩
end
section
variable {U : Vol} {E : DEnv}
/-! ### in -/
theorem eqV_str (x y : Str) : eqV (V.str x) (V.str y) = decide (x = y) := by
  show (x == y) = decide (x = y)
  exact Bool.beq_eq_decide_eq x y
theorem rp_inT {K : PySem.W.Frag} {x : Str} {l : List Str} : RP U (rIn K false) (.dat (.str x)) (.dat (.tup (l.map .str))) (· = .dat (.bl (decide (x ∈ l)))) := fun H a b iv ha hb Q q => by
  obtain rfl := DT.str_inv ha
  obtain ⟨p, xs, rfl, hp, hs⟩ := DT.tup_inv hb
  have e := hs.strs
  subst e
  refine ⟨p, _, rfl, .inr (.of hp), rfl, by rw [List.all_map]; exact List.all_eq_true.mpr fun _ _ => rfl, ?_⟩
  have e2 : inV (V.str x) (l.map V.str) = decide (x ∈ l) := by
    unfold inV
    rw [List.any_map]
    have h : ((fun y => eqV y (V.str x)) ∘ V.str) = fun y => decide (y = x) := by funext y; exact eqV_str y x
    rw [h]
    by_cases hx : x ∈ l
    · rw [decide_eq_true hx]
      exact List.any_eq_true.mpr ⟨x, hx, by simp⟩
    · rw [decide_eq_false hx]
      rw [List.any_eq_false]
      intro y hy
      have : y ≠ x := fun z => hx (z ▸ hy)
      simpa using this
  show Q (.bl (if false = true then !inV (V.str x) (l.map V.str) else inV (V.str x) (l.map V.str))) H
  rw [if_neg (by decide), e2]
  exact Post.dat q rfl iv (.bl _)
/-! ### is None -/
theorem rp_isN {d : Dt} (hd : d ≠ .non) : RP U (fun x y H Q => y = .non ∧ Q (.bl (decide (x = .non))) H) (.dat d) (.dat .non) (· = .dat (.bl false)) := fun H a b iv ha hb Q q => by
  refine ⟨DT.non_inv hb, ?_⟩
  rw [decide_eq_false (DT.not_non ha hd)]
  exact Post.dat q rfl iv (.bl _)
theorem rp_isNn : RP U (fun x y H Q => y = .non ∧ Q (.bl (decide (x = .non))) H) (.dat .non) (.dat .non) (· = .dat (.bl true)) := fun H a b iv ha hb Q q => by
  refine ⟨DT.non_inv hb, ?_⟩
  rw [decide_eq_true (DT.non_inv ha)]
  exact Post.dat q rfl iv (.bl _)
theorem rp_notN {d : Dt} (hd : d ≠ .non) : RP U (fun x y H Q => y = .non ∧ Q (.bl (!decide (x = .non))) H) (.dat d) (.dat .non) (· = .dat (.bl true)) := fun H a b iv ha hb Q q => by
  refine ⟨DT.non_inv hb, ?_⟩
  rw [decide_eq_false (DT.not_non ha hd)]
  exact Post.dat q rfl iv (.bl _)
theorem rp_notNn : RP U (fun x y H Q => y = .non ∧ Q (.bl (!decide (x = .non))) H) (.dat .non) (.dat .non) (· = .dat (.bl false)) := fun H a b iv ha hb Q q => by
  refine ⟨DT.non_inv hb, ?_⟩
  rw [decide_eq_true (DT.non_inv ha)]
  exact Post.dat q rfl iv (.bl _)
end
/-! ### lots -/
/-- kinds by their numbers -/
def kd (ev : List Str) (k : Nat) : Str := ev.getD k ""
def eLot (ev : List Str) (a : List Nat) : Dt := .tup ((a.map (kd ev)).map .str)
def eLots (ev : List Str) (L : List (List Nat)) : Dt := .tup (L.map (eLot ev))
structure EvOk (ev : List Str) (m : Nat) : Prop where
  len : ev.length = m
  nd : ev.Nodup
  sm : m ≤ 16
theorem kd_inj {ev : List Str} {m i j : Nat} (h : EvOk ev m) (hi : i < m) (hj : j < m) (e : kd ev i = kd ev j) : i = j := by
  unfold kd at e
  rw [List.getD_eq_getElem?_getD, List.getD_eq_getElem?_getD, List.getElem?_eq_getElem (by rw [h.len]; exact hi), List.getElem?_eq_getElem (by rw [h.len]; exact hj)] at e
  exact (List.getElem_inj h.nd).mp e
theorem kd_mem {ev : List Str} {m k : Nat} {a : List Nat} (h : EvOk ev m) (hk : k < m) (ha : ∀ j ∈ a, j < m) : decide (kd ev k ∈ a.map (kd ev)) = decide (k ∈ a) := by
  by_cases e : k ∈ a
  · rw [decide_eq_true e, decide_eq_true (List.mem_map.mpr ⟨k, e, rfl⟩)]
  · rw [decide_eq_false e, decide_eq_false fun z => ?_]
    obtain ⟨j, hj, ej⟩ := List.mem_map.mp z
    rw [kd_inj h (ha j hj) hk ej] at hj
    exact e hj
end K13
end
section
set_option Elab.async false
set_option linter.all false
set_option maxRecDepth 100000
set_option maxHeartbeats 4000000
set_option autoImplicit false
/-! data-level reasoning: comparing data, built-ins over lists, slices -/
namespace K13
open PySem PySem.Spec PyProof.Rows L2

/-! ### data as the library's data -/
def pdOf : Dt → PyData
  | .non => .none
  | .bl b => .bool b
  | .int i => .int i
  | .str x => .str x
  | .tup ds => .tuple (go ds)
  | .obj _ _ => .none
  | .adr _ => .none
where go : List Dt → List PyData
  | [] => []
  | d :: ds => pdOf d :: go ds
theorem go_map : ∀ ds : List Dt, pdOf.go ds = ds.map pdOf
  | [] => rfl
  | d :: ds => by rw [pdOf.go, go_map ds, List.map_cons]
/-- no bools, no instances, n tuples deep at most -/
def cl : Nat → Dt → Bool
  | _, .non => true
  | _, .bl _ => false
  | _, .int _ => true
  | _, .str x => PyData.strOk x
  | 0, .tup _ => false
  | n + 1, .tup ds => ds.all (cl n)
  | _, .obj _ _ => false
  | _, .adr _ => false
theorem dpAll_of {K : PySem.W.Frag} {H : Hp} {n : Nat} (ih : ∀ {v : V} {d : Dt}, DT H v d → cl n d = true → Dp K H v (pdOf d)) : ∀ {ds : List Dt} {xs : List V}, DTs H xs ds → ds.all (cl n) = true → DpAll K H xs (pdOf.go ds)
  | [], _, h, _ => by
    cases h
    exact .nil
  | d :: ds, _, h, c => by
    rw [List.all_cons, Bool.and_eq_true] at c
    cases h with
    | cons h r => exact .cons (ih h c.1) (dpAll_of ih r c.2)
theorem dp_of {K : PySem.W.Frag} {H : Hp} : ∀ (n : Nat) {v : V} {d : Dt}, DT H v d → cl n d = true → Dp K H v (pdOf d)
  | n, _, _, .non, _ => .non
  | n, _, _, .int i, _ => .int i
  | n, _, _, .str x, _ => .str x
  | n, _, _, .bl b, c => by cases n <;> cases c
  | n, _, _, .obj _ _, c => by cases n <;> cases c
  | n, _, _, .adr _, c => by cases n <;> cases c
  | 0, _, _, .tup _ _, c => by cases c
  | n + 1, _, _, .tup ha hs, c => .tup (.of ha) (dpAll_of (fun h c => dp_of n h c) hs c)
theorem eqvAll_iff {n m : Nat} (ih : ∀ d e : Dt, cl n d = true → cl m e = true → (PyData.eqv (pdOf d) (pdOf e) = true ↔ d = e)) : ∀ ds es : List Dt, ds.all (cl n) = true → es.all (cl m) = true → (PyData.eqvAll (pdOf.go ds) (pdOf.go es) = true ↔ ds = es)
  | [], [], _, _ => by simp [pdOf.go, PyData.eqvAll]
  | [], _ :: _, _, _ => by simp [pdOf.go, PyData.eqvAll]
  | _ :: _, [], _, _ => by simp [pdOf.go, PyData.eqvAll]
  | d :: ds, e :: es, h1, h2 => by
    rw [List.all_cons, Bool.and_eq_true] at h1 h2
    rw [pdOf.go, pdOf.go, PyData.eqvAll, Bool.and_eq_true, ih d e h1.1 h2.1, eqvAll_iff ih ds es h1.2 h2.2, List.cons.injEq]
theorem eqv_iff : ∀ (n : Nat) (d : Dt) (m : Nat) (e : Dt), cl n d = true → cl m e = true → (PyData.eqv (pdOf d) (pdOf e) = true ↔ d = e)
  | n, .bl _, _, _, c, _ => by cases n <;> cases c
  | n, .obj _ _, _, _, c, _ => by cases n <;> cases c
  | n, .adr _, _, _, c, _ => by cases n <;> cases c
  | _, _, m, .bl _, _, c => by cases m <;> cases c
  | _, _, m, .obj _ _, _, c => by cases m <;> cases c
  | _, _, m, .adr _, _, c => by cases m <;> cases c
  | 0, .tup _, _, _, c, _ => by cases c
  | _, _, 0, .tup _, _, c => by cases c
  | n + 1, .tup ds, m + 1, .tup es, c1, c2 => by
    have q := eqvAll_iff (fun d e h1 h2 => eqv_iff n d m e h1 h2) ds es c1 c2
    rw [pdOf, pdOf, PyData.eqv, q, Dt.tup.injEq]
  | _, .non, _, .non, _, _ => by simp [pdOf, PyData.eqv]
  | _, .non, _, .int _, _, _ => by simp [pdOf, PyData.eqv]
  | _, .non, _, .str _, _, _ => by simp [pdOf, PyData.eqv]
  | _, .non, _ + 1, .tup _, _, _ => by simp [pdOf, PyData.eqv]
  | _, .int _, _, .non, _, _ => by simp [pdOf, PyData.eqv]
  | _, .int _, _, .int _, _, _ => by simp [pdOf, PyData.eqv]
  | _, .int _, _, .str _, _, _ => by simp [pdOf, PyData.eqv]
  | _, .int _, _ + 1, .tup _, _, _ => by simp [pdOf, PyData.eqv]
  | _, .str _, _, .non, _, _ => by simp [pdOf, PyData.eqv]
  | _, .str _, _, .int _, _, _ => by simp [pdOf, PyData.eqv]
  | _, .str _, _, .str _, _, _ => by simp [pdOf, PyData.eqv]
  | _, .str _, _ + 1, .tup _, _, _ => by simp [pdOf, PyData.eqv]
  | _ + 1, .tup _, _, .non, _, _ => by simp [pdOf, PyData.eqv]
  | _ + 1, .tup _, _, .int _, _, _ => by simp [pdOf, PyData.eqv]
  | _ + 1, .tup _, _, .str _, _, _ => by simp [pdOf, PyData.eqv]
theorem layAll_of {n : Nat} (ih : ∀ d : Dt, cl n d = true → (pdOf d).canLay0 = true ∧ (pdOf d).depth ≤ n) : ∀ ds : List Dt, ds.all (cl n) = true → PyData.canLayAll0 (pdOf.go ds) = true ∧ PyData.depthAll (pdOf.go ds) ≤ n
  | [], _ => by simp [pdOf.go, PyData.canLayAll0, PyData.depthAll]
  | d :: ds, c => by
    rw [List.all_cons, Bool.and_eq_true] at c
    obtain ⟨a1, a2⟩ := ih d c.1
    obtain ⟨b1, b2⟩ := layAll_of ih ds c.2
    rw [pdOf.go, PyData.canLayAll0, PyData.depthAll, a1, b1]
    exact ⟨rfl, by omega⟩
theorem lay_of : ∀ (n : Nat) (d : Dt), cl n d = true → (pdOf d).canLay0 = true ∧ (pdOf d).depth ≤ n
  | _, .non, _ => by simp [pdOf, PyData.canLay0, PyData.depth]
  | _, .int _, _ => by simp [pdOf, PyData.canLay0, PyData.depth]
  | n, .str x, c => by
    have c' : PyData.strOk x = true := by cases n <;> exact c
    simp [pdOf, PyData.canLay0, PyData.depth, c']
  | n, .bl _, c => by cases n <;> cases c
  | n, .obj _ _, c => by cases n <;> cases c
  | n, .adr _, c => by cases n <;> cases c
  | 0, .tup _, c => by cases c
  | n + 1, .tup ds, c => by
    obtain ⟨h1, h2⟩ := layAll_of (fun d h => lay_of n d h) ds c
    rw [pdOf, PyData.canLay0, PyData.depth]
    exact ⟨h1, by omega⟩
theorem shaped_of {n : Nat} {d : Dt} (h : cl n d = true) (hn : n ≤ 64 := by decide) : SeqAt.shaped (pdOf d) = true := by
  obtain ⟨h1, h2⟩ := lay_of n d h
  unfold SeqAt.shaped
  rw [h1, decide_eq_true (Nat.le_trans h2 hn)]
  rfl
theorem shapedL_of {n : Nat} {ds : List Dt} (h : ds.all (cl n) = true) (hn : n < 64 := by decide) : SeqAt.shaped (.list (pdOf.go ds)) = true := by
  obtain ⟨h1, h2⟩ := layAll_of (fun d h => lay_of n d h) ds h
  unfold SeqAt.shaped
  rw [PyData.canLay0, PyData.depth, h1, decide_eq_true (by omega)]
  rfl
section
variable {U : Vol} {E : DEnv} {K : PySem.W.Frag}
theorem rp_eqD {d e : Dt} {b : Bool} (hd : cl 9 d = true) (he : cl 9 e = true) (hb : b = true ↔ d = e) : RP U (rEqD K) (.dat d) (.dat e) (· = .dat (.bl b)) := fun H x y iv hx hy Q q => by
  refine ⟨_, _, dp_of 9 hx hd, dp_of 9 hy he, shaped_of hd, shaped_of he, ?_⟩
  have e2 : PyData.eqv (pdOf d) (pdOf e) = b := by rw [Bool.eq_iff_iff, eqv_iff 9 d 9 e hd he, hb]
  rw [e2]
  exact Post.dat q rfl iv (.bl _)
theorem rp_neD {d e : Dt} {b : Bool} (hd : cl 9 d = true) (he : cl 9 e = true) (hb : b = true ↔ d = e) : RP U (rNeD K) (.dat d) (.dat e) (· = .dat (.bl (!b))) := fun H x y iv hx hy Q q => by
  refine ⟨_, _, dp_of 9 hx hd, dp_of 9 hy he, shaped_of hd, shaped_of he, ?_⟩
  have e2 : PyData.eqv (pdOf d) (pdOf e) = b := by rw [Bool.eq_iff_iff, eqv_iff 9 d 9 e hd he, hb]
  rw [e2]
  exact Post.dat q rfl iv (.bl _)
theorem rp_eqL {ds es : List Dt} {b : Bool} (hd : ds.all (cl 9) = true) (he : es.all (cl 9) = true) (hb : b = true ↔ ds = es) : RP U (rEqD K) (.rl ds) (.rl es) (· = .dat (.bl b)) := fun H x y iv hx hy Q q => by
  obtain ⟨a, xs, rfl, ha, _, hs⟩ := hx
  obtain ⟨c, ys, rfl, hc, _, ht⟩ := hy
  refine ⟨.list (pdOf.go ds), .list (pdOf.go es), .lst (.of ha) (dpAll_of (fun h c => dp_of 9 h c) hs hd), .lst (.of hc) (dpAll_of (fun h c => dp_of 9 h c) ht he), shapedL_of hd, shapedL_of he, ?_⟩
  have e2 : PyData.eqv (.list (pdOf.go ds)) (.list (pdOf.go es)) = b := by rw [Bool.eq_iff_iff, PyData.eqv, eqvAll_iff (fun d e h1 h2 => eqv_iff 9 d 9 e h1 h2) ds es hd he, hb]
  rw [e2]
  exact Post.dat q rfl iv (.bl _)
theorem rp_inL {d : Dt} {ds : List Dt} {b : Bool} (hd : cl 9 d = true) (hds : ds.all (cl 9) = true) (hb : b = true ↔ d ∈ ds) : RP U (rInD K) (.dat d) (.rl ds) (· = .dat (.bl b)) := fun H x y iv hx hy Q q => by
  obtain ⟨a, xs, rfl, ha, _, hs⟩ := hy
  refine ⟨_, pdOf.go ds, dp_of 9 hx hd, .lst (.of ha) (dpAll_of (fun h c => dp_of 9 h c) hs hds), shaped_of hd, shapedL_of hds, ?_⟩
  have e2 : (pdOf.go ds).any (fun z => PyData.eqv z (pdOf d)) = b := by
    rw [Bool.eq_iff_iff, hb, go_map, List.any_map, List.any_eq_true]
    constructor
    · rintro ⟨z, hz, e⟩
      have := (eqv_iff 9 z 9 d (List.all_eq_true.mp hds z hz) hd).mp e
      rw [← this]
      exact hz
    · intro h
      exact ⟨d, h, (eqv_iff 9 d 9 d hd hd).mpr rfl⟩
  rw [e2]
  exact Post.dat q rfl iv (.bl _)
/-! ### the least of a list -/
def rMinD (K : PySem.W.Frag) : List V → Hp → VK → Prop := fun vs H Q => ∃ (a : Addr) (xs : List V) (x : PyData) (r : List PyData), vs = [V.ref a] ∧ SqL K H a xs ∧ DpAll K H xs (x :: r) ∧ PySem.W.AlikeAll (x :: r) ∧ PyData.depthAll (x :: r) ≤ 40 ∧
  ∀ (i : Nat) (v : V), xs[i]? = some v → (x :: r)[i]? = some (PySem.W.minD x r) → Q v H
theorem readsAll_get {h : Heap} : ∀ {us : List Value} {xs : List PyData} {as : List Addr}, ReadsAll h us xs as → ∀ (i : Nat) (u : Value), us[i]? = some u → ∃ z bs, xs[i]? = some z ∧ Reads h u z bs
  | _, _, _, .nil, i, u, e => by simp at e
  | _, _, _, .cons r _, 0, u, e => by
    simp at e
    subst e
    exact ⟨_, _, rfl, r⟩
  | _, _, _, .cons _ r, i + 1, u, e => by
    obtain ⟨z, bs, h1, h2⟩ := readsAll_get r i u (by simpa using e)
    exact ⟨z, bs, by simpa using h1, h2⟩
theorem minFold_mem (f : PyData → PyData → Bool) : ∀ (r : List PyData) (x : PyData), r.foldl (fun a y => if f y a then y else a) x ∈ x :: r
  | [], x => List.mem_cons_self
  | y :: r, x => by
    rw [List.foldl_cons]
    have q := minFold_mem f r (if f y x then y else x)
    rcases List.mem_cons.mp q with e | e
    · rw [e]
      by_cases h : f y x = true
      · rw [if_pos h]; exact List.mem_cons_of_mem _ List.mem_cons_self
      · rw [if_neg h]; exact List.mem_cons_self
    · exact List.mem_cons_of_mem _ (List.mem_cons_of_mem _ e)
theorem cr_minD {X : Cx} (hc : X.calm = true) (hu : X.A.units + 64 < cLine) : CallR X (.builtin "min") (rMinD X.K) := by
  intro pins s σ H vs us Q I rv h
  obtain ⟨a, xs, x, r, rfl, hs, hd, hal, hdep, q⟩ := h
  obtain ⟨its, rr, hl, hz⟩ := I.list hs
  obtain ⟨as, hr⟩ := Dp.readsAll I _ _ _ hd rr
  rw [Vals.ref1 rv]
  refine PySem.W.min_list_data (I.ok.hd hc) hl.isList (x := x) (xs := r) (as := as) hr hal (by omega) fun i v h' tk bs hv hR hk => ?_
  have hv2 : its[i]? = some v := by simpa using hv
  obtain ⟨z, bs2, hz2, hR2⟩ := readsAll_get hr i v hv2
  have hm : z ∈ x :: r := List.mem_of_getElem? hz2
  have hmm : PySem.W.minD x r ∈ x :: r := minFold_mem _ r x
  have e : PySem.W.minD x r = z := PySem.W.alike_unique _ _ v _ _ (hal.1 _ hmm _ hm) hR (PySem.W.reads_keeps hk hR2)
  obtain ⟨y, hy, ry⟩ : ∃ y, xs[i]? = some y ∧ RelV y v := by
    have hi : i < xs.length := by
      rw [rr.length]
      exact (List.getElem?_eq_some_iff.mp hv2).1
    obtain ⟨u, hu2, ru⟩ := rr.get (List.getElem?_eq_getElem hi)
    rw [hv2] at hu2
    cases hu2
    exact ⟨_, List.getElem?_eq_getElem hi, ru⟩
  exact ⟨y, H, I.kept hk, ry, q i y hy (by rw [e]; exact hz2)⟩
/-- a least one by a total order -/
theorem minFold_least {lt : Dt → Dt → Bool} (irr : ∀ d, lt d d = false) (tr : ∀ a b c, lt a b = true → lt b c = true → lt a c = true) : ∀ (r : List Dt) (x : Dt), (∀ a ∈ x :: r, ∀ b ∈ x :: r, lt a b = true ∨ a = b ∨ lt b a = true) →
    r.foldl (fun a y => if lt y a then y else a) x ∈ x :: r ∧ ∀ e ∈ x :: r, lt e (r.foldl (fun a y => if lt y a then y else a) x) = false
  | [], x, _ => ⟨List.mem_cons_self, fun e he => by rw [List.mem_singleton.mp he]; exact irr x⟩
  | y :: r, x, tri => by
    rw [List.foldl_cons]
    have step : ∀ z, z = x ∨ z = y → (∀ a ∈ z :: r, ∀ b ∈ z :: r, lt a b = true ∨ a = b ∨ lt b a = true) := fun z hz a ha b hb => tri a (by
      rcases List.mem_cons.mp ha with e | e
      · rcases hz with h | h <;> simp [e, h]
      · exact List.mem_cons_of_mem _ (List.mem_cons_of_mem _ e)) b (by
      rcases List.mem_cons.mp hb with e | e
      · rcases hz with h | h <;> simp [e, h]
      · exact List.mem_cons_of_mem _ (List.mem_cons_of_mem _ e))
    have low : ∀ (z o m : Dt), lt o z = false → lt z m = false → (lt o m = true ∨ o = m ∨ lt m o = true) → (lt z o = true ∨ z = o ∨ lt o z = true) → lt o m = false := fun z o m h1 h2 t1 t2 => by
      cases h : lt o m with
      | false => rfl
      | true =>
        rcases t2 with t | t | t
        · rw [tr _ _ _ t h] at h2; cases h2
        · rw [t, h] at h2; cases h2
        · rw [t] at h1; cases h1
    by_cases h : lt y x = true
    · rw [if_pos h]
      obtain ⟨i1, i2⟩ := minFold_least irr tr r y (step y (.inr rfl))
      refine ⟨List.mem_cons_of_mem _ i1, fun e he => ?_⟩
      rcases List.mem_cons.mp he with e1 | he
      · subst e1
        have hm := List.mem_cons_of_mem e i1
        refine low y e _ ?_ (i2 y List.mem_cons_self) (tri e List.mem_cons_self _ hm) (tri y (List.mem_cons_of_mem _ List.mem_cons_self) e List.mem_cons_self)
        cases q : lt e y with
        | false => rfl
        | true => exact absurd (tr _ _ _ q h) (by rw [irr e]; decide)
      · exact i2 e he
    · rw [if_neg h]
      have h' : lt y x = false := by simpa using h
      obtain ⟨i1, i2⟩ := minFold_least irr tr r x (step x (.inl rfl))
      have hm : r.foldl (fun a y => if lt y a then y else a) x ∈ x :: y :: r := by
        rcases List.mem_cons.mp i1 with e | e
        · rw [e]; exact List.mem_cons_self
        · exact List.mem_cons_of_mem _ (List.mem_cons_of_mem _ e)
      refine ⟨hm, fun e he => ?_⟩
      rcases List.mem_cons.mp he with e1 | he
      · rw [e1]; exact i2 x List.mem_cons_self
      · rcases List.mem_cons.mp he with e1 | he
        · rw [e1]
          exact low x y _ h' (i2 x List.mem_cons_self) (tri y (List.mem_cons_of_mem _ List.mem_cons_self) _ hm) (tri x List.mem_cons_self y (List.mem_cons_of_mem _ List.mem_cons_self))
        · exact i2 e (List.mem_cons_of_mem _ he)
theorem fold_pd {lt : Dt → Dt → Bool} : ∀ (r : List Dt) (x : Dt), (∀ a ∈ x :: r, ∀ b ∈ x :: r, PySem.W.dataLt (pdOf a) (pdOf b) = lt a b) → PySem.W.minD (pdOf x) (r.map pdOf) = pdOf (r.foldl (fun a y => if lt y a then y else a) x)
  | [], x, _ => rfl
  | y :: r, x, h => by
    unfold PySem.W.minD
    rw [List.map_cons, List.foldl_cons, List.foldl_cons, h y (List.mem_cons_of_mem _ List.mem_cons_self) x List.mem_cons_self]
    have e : (if lt y x = true then pdOf y else pdOf x) = pdOf (if lt y x = true then y else x) := by split <;> rfl
    rw [e]
    refine fold_pd r _ fun a ha b hb => h a ?_ b ?_
    · rcases List.mem_cons.mp ha with q | q
      · rw [q]; split <;> simp
      · exact List.mem_cons_of_mem _ (List.mem_cons_of_mem _ q)
    · rcases List.mem_cons.mp hb with q | q
      · rw [q]; split <;> simp
      · exact List.mem_cons_of_mem _ (List.mem_cons_of_mem _ q)
theorem rc_minD {ds : List Dt} {lt : Dt → Dt → Bool} {P : Sl → Prop} (hne : ds ≠ []) (hcl : ds.all (cl 9) = true) (hal : ∀ a ∈ ds, ∀ b ∈ ds, PySem.W.alike (pdOf a) (pdOf b) = true) (hnn : ∀ a ∈ ds, a ≠ .non)
    (hlt : ∀ a ∈ ds, ∀ b ∈ ds, PySem.W.dataLt (pdOf a) (pdOf b) = lt a b) (irr : ∀ d, lt d d = false) (tr : ∀ a b c, lt a b = true → lt b c = true → lt a c = true) (tri : ∀ a ∈ ds, ∀ b ∈ ds, lt a b = true ∨ a = b ∨ lt b a = true)
    (hP : ∀ d ∈ ds, (∀ e ∈ ds, lt e d = false) → P (.dat d)) : RC U (rMinD K) [.rl ds] P := fun H vs iv h Q q => by
  obtain ⟨v, rfl, a, xs, rfl, ha, _, hs⟩ := h.one
  cases ds with
  | nil => exact absurd rfl hne
  | cons x r =>
    have hdp := dpAll_of (K := K) (fun h c => dp_of 9 h c) hs hcl
    rw [go_map, List.map_cons] at hdp
    have hmem : ∀ z ∈ pdOf x :: r.map pdOf, ∃ d ∈ x :: r, z = pdOf d := fun z hz => by
      rw [← List.map_cons] at hz
      obtain ⟨d, hd, e⟩ := List.mem_map.mp hz
      exact ⟨d, hd, e.symm⟩
    refine ⟨a, xs, pdOf x, r.map pdOf, rfl, .of ha, hdp, ⟨fun y hy z hz => ?_, fun y hy => ?_⟩, ?_, fun i v hv he => ?_⟩
    · obtain ⟨d, hd, rfl⟩ := hmem y hy
      obtain ⟨e, he, rfl⟩ := hmem z hz
      exact hal d hd e he
    · obtain ⟨d, hd, rfl⟩ := hmem y hy
      have hn := hnn d hd
      have hc := List.all_eq_true.mp hcl d hd
      cases d with
      | non => exact absurd rfl hn
      | obj _ _ => cases hc
      | adr _ => cases hc
      | _ => rw [pdOf]; exact fun z => by cases z
    · have q := (layAll_of (fun d h => lay_of 9 d h) (x :: r) hcl).2
      rw [go_map, List.map_cons] at q
      omega
    · obtain ⟨d, hd, hD⟩ := hs.back hv
      rw [fold_pd r x hlt, ← List.map_cons, List.getElem?_map, hd] at he
      have he : pdOf d = pdOf _ := Option.some.inj he
      obtain ⟨m1, m2⟩ := minFold_least irr tr r x tri
      have hdm : d ∈ x :: r := List.mem_of_getElem? hd
      have e1 : d = r.foldl (fun a y => if lt y a then y else a) x := (eqv_iff 9 d 9 _ (List.all_eq_true.mp hcl d hdm) (List.all_eq_true.mp hcl _ m1)).mp (by rw [he]; exact (eqv_iff 9 _ 9 _ (List.all_eq_true.mp hcl _ m1) (List.all_eq_true.mp hcl _ m1)).mpr rfl)
      rw [← e1] at m2
      exact Post.dat q (hP d hdm m2) iv hD
end
end K13
end
section
set_option Elab.async false
set_option linter.all false
set_option maxRecDepth 100000
set_option maxHeartbeats 4000000
set_option autoImplicit false
/-! data-level reasoning: more built-ins -/
namespace K13
open PySem PySem.Spec PyProof.Rows L2
/-! ### texts -/
theorem ltCps_lex : ∀ a b : List Nat, ltCps a b = lexB a b
  | [], [] => rfl
  | [], _ :: _ => rfl
  | _ :: _, [] => rfl
  | a :: l, b :: m => by
    unfold ltCps lexB
    rw [ltCps_lex l m]
    rfl
theorem lt_lex : ∀ a b : List Nat, decide (a < b) = lexB a b
  | [], [] => rfl
  | [], _ :: _ => rfl
  | _ :: _, [] => rfl
  | a :: l, b :: m => by
    unfold lexB
    rw [← lt_lex l m, Bool.eq_iff_iff]
    simp [List.cons_lt_cons_iff]
def ltS (x y : Str) : Bool := lexB x.cps.toList y.cps.toList
theorem str_cps {x y : Str} (h : x.cps.toList = y.cps.toList) : x = y := by
  cases x
  cases y
  rw [Str.mk.injEq]
  exact Array.toList_inj.mp h
theorem rising_pair : ∀ (r : List Str) (p : Str), risingS p r = true → (p :: r).Pairwise (fun a b => ltS b a = false)
  | [], p, _ => by simp
  | x :: r, p, h => by
    unfold risingS at h
    rw [Bool.and_eq_true, ltCps_lex] at h
    have h1 : ltS x p = false := by
      have q := h.1
      unfold ltS
      cases e : lexB x.cps.toList p.cps.toList with
      | false => rfl
      | true => rw [e] at q; cases q
    have ih := rising_pair r x h.2
    refine List.pairwise_cons.mpr ⟨fun y hy => ?_, ih⟩
    rcases List.mem_cons.mp hy with e | hy
    · rw [e]; exact h1
    · have h2 : ltS y x = false := (List.pairwise_cons.mp ih).1 y hy
      unfold ltS at h1 h2 ⊢
      cases e : lexB y.cps.toList p.cps.toList with
      | false => rfl
      | true =>
        rcases lexB_tri p.cps.toList x.cps.toList with q | q | q
        · rw [lexB_trans e q] at h2; cases h2
        · rw [← q, e] at h2; cases h2
        · rw [q] at h1; cases h1
theorem sorted_one {xs ys zs : List Str} (h1 : zs.Perm xs) (h2 : sortedS zs = true) (h3 : ys.Perm xs) (h4 : sortedS ys = true) : zs = ys := by
  have pw : ∀ {l : List Str}, sortedS l = true → l.Pairwise (fun a b => ltS b a = false) := fun {l} h => by
    cases l with
    | nil => exact .nil
    | cons x r => exact rising_pair r x h
  refine List.Perm.eq_of_pairwise (fun a b _ _ p q => ?_) (pw h2) (pw h4) (h1.trans h3.symm)
  unfold ltS at p q
  rcases lexB_tri a.cps.toList b.cps.toList with t | t | t
  · rw [t] at q; cases q
  · exact str_cps t
  · rw [t] at p; cases p
section
variable {U : Vol} {E : DEnv} {K : PySem.W.Frag}
theorem rp_ltS {x y : Str} : RP U (fun x y H Q => ∃ i j, x = V.str i ∧ y = V.str j ∧ Q (V.bl (decide (i.cps.toList < j.cps.toList))) H) (.dat (.str x)) (.dat (.str y)) (· = .dat (.bl (ltS x y))) := fun H a b iv ha hb Q q =>
  ⟨x, y, DT.str_inv ha, DT.str_inv hb, by rw [lt_lex]; exact Post.dat q rfl iv (.bl _)⟩
theorem rp_inS {c : Nat} {z : Str} : RP U (fun x y H Q => ∃ (c : Nat) (z : Str), x = V.str ⟨#[c]⟩ ∧ y = V.str z ∧ Q (V.bl (decide (c ∈ z.cps.toList))) H) (.dat (.str ⟨#[c]⟩)) (.dat (.str z)) (· = .dat (.bl (decide (c ∈ z.cps.toList)))) := fun H a b iv ha hb Q q =>
  ⟨c, z, DT.str_inv ha, DT.str_inv hb, Post.dat q rfl iv (.bl _)⟩
theorem rp_addS {x y : Str} (h : x.length + y.length ≤ 1000000) : RP U (fun x y H Q => ∃ i j, x = V.str i ∧ y = V.str j ∧ i.length + j.length ≤ sizeLine ∧ Q (V.str (i ++ j)) H) (.dat (.str x)) (.dat (.str y)) (· = .dat (.str (x ++ y))) := fun H a b iv ha hb Q q =>
  ⟨x, y, DT.str_inv ha, DT.str_inv hb, Nat.le_trans h (by decide), Post.dat q rfl iv (.str _)⟩
theorem rp_ixS {z : Str} {j c : Nat} {i : Int} (h : z.cps.toList[j]? = some c) (e : i = (j : Int)) (hl : z.length ≤ 1000000) : RP U rIxS (.dat (.str z)) (.dat (.int i)) (· = .dat (.str ⟨#[c]⟩)) := fun H a b iv ha hb Q q =>
  ⟨z, i, c, DT.str_inv ha, DT.int_inv hb, Nat.le_trans hl (by decide), by rw [e]; exact atI_nat h, Post.dat q rfl iv (.str _)⟩
/-- len of a text -/
theorem rc_sorted {xs ys : List Str} (hl : xs.length < 64) (h1 : ys.Perm xs) (h2 : sortedS ys = true) : RC U (rSortedS K) [.rl (xs.map .str)] (· = .ol (ys.map .str)) := fun H vs iv h Q q => by
  obtain ⟨v, rfl, a, ws, rfl, ha, _, hs⟩ := h.one
  have e := hs.strs
  subst e
  refine ⟨a, xs, rfl, .of ha, hl, fun zs p hz hsz np => ?_⟩
  rw [sorted_one hz hsz h1 h2]
  exact Post.newL q rfl iv (.of_strs ys) np
/-! ### any, all, max, index -/
theorem rc_any {bs : List Bool} : RC U (rAny K) [.rl (bs.map .bl)] (· = .dat (.bl (bs.any id))) := fun H vs iv h Q q => by
  obtain ⟨v, rfl, a, ws, rfl, ha, _, hs⟩ := h.one
  have e := hs.bls
  subst e
  exact ⟨a, bs, rfl, .of ha, Post.dat q rfl iv (.bl _)⟩
theorem rc_all {bs : List Bool} : RC U (rAll K) [.rl (bs.map .bl)] (· = .dat (.bl (bs.all id))) := fun H vs iv h Q q => by
  obtain ⟨v, rfl, a, ws, rfl, ha, _, hs⟩ := h.one
  have e := hs.bls
  subst e
  exact ⟨a, bs, rfl, .of ha, Post.dat q rfl iv (.bl _)⟩
theorem rc_max {ns : List Int} {m : Int} (h1 : m ∈ ns) (h2 : ∀ y ∈ ns, y ≤ m) : RC U (rMax K) [.rl (ns.map .int)] (· = .dat (.int m)) := fun H vs iv h Q q => by
  obtain ⟨v, rfl, a, ws, rfl, ha, _, hs⟩ := h.one
  have e := hs.ints
  subst e
  refine ⟨a, ns, rfl, .of ha, by cases ns with | nil => cases h1 | cons _ _ => exact Nat.succ_pos _, fun m' h1' h2' => ?_⟩
  have e : m' = m := Int.le_antisymm (h2 m' h1') (h2' m h1)
  subst e
  exact Post.dat q rfl iv (.int _)
/-- a comprehension of bools -/
theorem map_bl (n : Nat) (b : Nat → Bool) : (List.range n).map (fun i => Dt.bl (b i)) = ((List.range n).map b).map .bl := by rw [List.map_map]; rfl
theorem e_anyM {wi : TI} {g : TG} {te : TE} {vs : List Nat} {ds : List Dt} (b : Nat → Bool) (hi : IterD U wi E ds) (hl : ds.length ≤ 1000000)
    (hs : ∀ (i : Nat) (d : Dt), ds[i]? = some d → ∃ E'' js, GD U g d (wipeE E vs) E'' js ∧ (∀ j ∈ js, j ∈ vs) ∧ EvD U te E'' (.bl (b i))) : EvD U (tCB (rAny K) (tCons (tLc wi g tYes te vs) tNil)) E (.bl ((List.range ds.length).any b)) := by
  have q := (e_lcM (fun i => .bl (b i)) hi hl hs).rl
  rw [map_bl] at q
  refine (e_cb1 q (rc_any (K := K))).imp fun s e => ?_
  rw [e, List.any_map]
  rfl
theorem e_allM {wi : TI} {g : TG} {te : TE} {vs : List Nat} {ds : List Dt} (b : Nat → Bool) (hi : IterD U wi E ds) (hl : ds.length ≤ 1000000)
    (hs : ∀ (i : Nat) (d : Dt), ds[i]? = some d → ∃ E'' js, GD U g d (wipeE E vs) E'' js ∧ (∀ j ∈ js, j ∈ vs) ∧ EvD U te E'' (.bl (b i))) : EvD U (tCB (rAll K) (tCons (tLc wi g tYes te vs) tNil)) E (.bl ((List.range ds.length).all b)) := by
  have q := (e_lcM (fun i => .bl (b i)) hi hl hs).rl
  rw [map_bl] at q
  refine (e_cb1 q (rc_all (K := K))).imp fun s e => ?_
  rw [e, List.all_map]
  rfl
/-- a comprehension, told by its list -/
theorem e_lcX {wi : TI} {g : TG} {te : TE} {vs : List Nat} {ds es : List Dt} (hi : IterD U wi E ds) (hl : ds.length ≤ 1000000) (he : es.length = ds.length)
    (hs : ∀ (i : Nat) (d e : Dt), ds[i]? = some d → es[i]? = some e → ∃ E'' js, GD U g d (wipeE E vs) E'' js ∧ (∀ j ∈ js, j ∈ vs) ∧ EvD U te E'' e) : EvP U (tLc wi g tYes te vs) E (· = .ol es) := by
  refine (e_lcM (fun i => es.getD i .non) hi hl fun i d hd => ?_).imp fun s e => ?_
  · have hi : i < es.length := by rw [he]; exact (List.getElem?_eq_some_iff.mp hd).1
    refine hs i d _ hd ?_
    rw [List.getD_eq_getElem?_getD, List.getElem?_eq_getElem hi]
    rfl
  · rw [e]
    congr 1
    refine List.ext_getElem (by simp [he]) fun i h1 h2 => ?_
    rw [List.getElem_map, List.getElem_range, List.getD_eq_getElem?_getD, List.getElem?_eq_getElem h2]
    rfl
/-- a comprehension by a test and a datum of the item -/
theorem e_lcT {wi : TI} {g : TG} {tt : TT} {te : TE} {vs : List Nat} {ds : List Dt} (b : Dt → Bool) (f : Dt → Dt) (hi : IterD U wi E ds) (hl : ds.length ≤ 1000000)
    (hs : ∀ (i : Nat) (d : Dt), ds[i]? = some d → ∃ E'' js, GD U g d (wipeE E vs) E'' js ∧ (∀ j ∈ js, j ∈ vs) ∧ EvB U tt E'' (· = b d) ∧ (b d = true → EvD U te E'' (f d))) : EvP U (tLc wi g tt te vs) E (· = .ol ((ds.filter b).map f)) := by
  refine (e_lcP (fun ds' i acc => acc = ((ds.take i).filter b).map f) hi (fun ds' e => ⟨rfl, by subst e; exact hl⟩) fun ds' i d acc e h1 h2 => ?_).imp fun s ⟨acc, e1, ds', e2, e3⟩ => by rw [e1, e3, e2, List.take_length]
  subst e
  obtain ⟨E'', js, g1, g2, g3, g4⟩ := hs i d h1
  have tk : ds'.take (i + 1) = ds'.take i ++ [d] := by rw [List.take_add_one, h1]; rfl
  refine ⟨E'', js, (· = b d), g1, g2, g3, fun z => (g4 z.symm).imp fun s e => ⟨f d, e, ?_⟩, fun z => ?_⟩
  · rw [h2, tk, List.filter_append, List.map_append, List.filter_cons, if_pos z.symm]
    rfl
  · rw [h2, tk, List.filter_append, List.filter_cons, if_neg (by rw [← z]; decide)]
    simp
theorem e_index {tl te : TE} {ev : List Str} {x : Str} {j : Nat} (h : EvP U tl E (· = .rl (ev.map .str))) (he : EvD U te E (.str x)) (hj : ev[j]? = some x) (hn : ∀ m < j, ev[m]? ≠ some x) :
    EvD U (tBM K "list" (rIndex K) tl (tCons te tNil)) E (.int (j : Int)) := fun H0 σ H S Q q => h H0 σ H S _ fun v H1 s x1 i1 p1 n1 => by
  subst p1
  obtain ⟨⟨a, xs, rfl, h1, h2, h3⟩, _⟩ := n1
  refine ⟨.inl ⟨rfl, _, .of h1⟩, he H0 σ H1 (S.go x1 i1) _ fun y H2 t x2 i2 p2 n2 => ?_⟩
  subst p2
  have e := h3.strs
  subst e
  refine ⟨a, ev.map V.str, y, j, .str x, rfl, rfl, .of (x2.1 a _ h1 h2), by rw [DT.str_inv n2.1]; rfl, by rw [List.all_map]; exact List.all_eq_true.mpr fun _ _ => rfl, by rw [List.getElem?_map, hj]; rfl, by rw [DT.str_inv n2.1]; exact beq_self_eq_true x, fun m z hm hz => ?_, q _ H2 _ (x1.trans x2) i2 rfl (.dat (.int _))⟩
  rw [List.getElem?_map] at hz
  cases e : ev[m]? with
  | none => rw [e] at hz; cases hz
  | some w =>
    rw [e] at hz
    cases hz
    rw [DT.str_inv n2.1, eqV_str]
    refine decide_eq_false fun w' => hn m hm ?_
    rw [e, w']
/-! ### lists, tuples made -/
theorem e_tupleOf {tl : TE} {P : List Dt → Prop} (h : EvP U tl E (fun s => ∃ ds, s = .rl ds ∧ P ds)) : EvP U (tThen tl (kTup K)) E (fun s => ∃ ds, s = .dat (.tup ds) ∧ P ds) := fun H0 σ H S Q q => h H0 σ H S _ fun v H1 s x1 i1 p1 n1 => by
  obtain ⟨ds, rfl, p⟩ := p1
  obtain ⟨⟨a, xs, rfl, h1, _, h3⟩, _⟩ := n1
  exact .inl ⟨a, xs, rfl, .of h1, fun p' np => Post.newT (P := fun s => ∃ ds, s = .dat (.tup ds) ∧ P ds) (fun v H' s x i p n => q v H' s (x1.trans x) i p (n.later x1)) ⟨ds, rfl, p⟩ i1 h3 np⟩
theorem e_tupleD {tl : TE} {ds : List Dt} (h : EvP U tl E (· = .rl ds)) : EvD U (tThen tl (kTup K)) E (.tup ds) := (e_tupleOf (P := (· = ds)) (h.imp fun s e => ⟨ds, e, rfl⟩)).imp fun s ⟨es, e, p⟩ => by rw [e, p]
theorem e_tupleN {tl : TE} {ds : List Dt} (h : EvP U tl E (· = .ol ds)) : EvD U (tThen tl (kTup K)) E (.tup ds) := e_tupleD h.rl
theorem rg_data {H : Hp} (n : Nat) : DTs H (rgV 0 (n : Int)) (rngD 0 n) := by
  unfold rgV rngD
  rw [show ((n : Int) - 0).toNat = n by omega]
  have e : ((List.range n).map fun (i : Nat) => Dt.int (0 + (i : Int))) = ((List.range n).map fun (i : Nat) => (0 + (i : Int))).map Dt.int := by rw [List.map_map]; rfl
  have e2 : ((List.range n).map fun (i : Nat) => V.int (0 + ((i : Nat) : Int))) = ((List.range n).map fun (i : Nat) => (0 + (i : Int))).map V.int := by rw [List.map_map]; rfl
  rw [e, e2]
  exact .of_ints _
theorem e_lstRg {te : TE} {n : Nat} (h : EvD U te E (.int (n : Int))) (hl : n ≤ 1000000) : EvP U (tLstRg (tRg1 te)) E (· = .ol (rngD 0 n)) := fun H0 σ H S Q q => h H0 σ H S _ fun v H1 s x1 i1 p1 n1 => by
  subst p1
  exact ⟨n, DT.int_inv n1.1, .of_le (Int.le_refl _) (by omega) (by omega) (by omega), fun p np => Post.newL (P := (· = .ol (rngD 0 n))) (fun v H' s x i p n => q v H' s (x1.trans x) i p (n.later x1)) rfl i1 (rg_data n) np⟩
theorem e_tupRg {te : TE} {n : Nat} (h : EvD U te E (.int (n : Int))) (hl : n ≤ 1000000) : EvD U (tTupRg (tRg1 te)) E (.tup (rngD 0 n)) := fun H0 σ H S Q q => h H0 σ H S _ fun v H1 s x1 i1 p1 n1 => by
  subst p1
  exact ⟨n, DT.int_inv n1.1, .of_le (Int.le_refl _) (by omega) (by omega) (by omega), fun p np => Post.newT (P := (· = .dat (.tup (rngD 0 n)))) (fun v H' s x i p n => q v H' s (x1.trans x) i p (n.later x1)) rfl i1 (rg_data n) np⟩
/-! ### slices -/
theorem e_slA {te : TE} {tl th : TO} {ds : List Dt} {lo hi : Option Int} {i j : Nat} (h : EvD U te E (.tup ds)) (hl : ∀ H0 σ H, SD U H0 E σ H → ∀ Q : Option Int → Hp → Prop, (∀ H', Xt U H H' → U.inv H' → Q lo H') → tl σ H Q)
    (hh : ∀ H0 σ H, SD U H0 E σ H → ∀ Q : Option Int → Hp → Prop, (∀ H', Xt U H H' → U.inv H' → Q hi H') → th σ H Q) (hi1 : HT.sIx ds.length 0 lo = i) (hj : HT.sIx ds.length ds.length hi = j) (hij : i ≤ ds.length ∧ j ≤ ds.length) :
    EvD U (tSl (rSlA K) te tl th) E (.tup ((ds.drop i).take (j - i))) := fun H0 σ H S Q q => h H0 σ H S _ fun v H1 s x1 i1 p1 n1 => hl H0 σ H1 (S.go x1 i1) _ fun H2 x2 i2 => hh H0 σ H2 ((S.go x1 i1).go x2 i2) _ fun H3 x3 i3 => by
  subst p1
  have hv : DT H3 v (.tup ds) := (n1.1 : DT H1 v (.tup ds)).kp (x2.trans x3).kp
  obtain ⟨a, xs, rfl, ha, hs⟩ := hv.tup_inv
  have xx := (x1.trans x2).trans x3
  refine ⟨a, xs, rfl, .of ha, fun hw => ?_, fun _ p np => ?_⟩
  · rw [hs.len, hi1, hj] at hw
    have e : (ds.drop i).take (j - i) = ds := by rw [hw.1, hw.2, List.drop_zero, Nat.sub_zero, List.take_length]
    rw [e] at q
    exact q _ H3 _ xx i3 rfl (.dat hv)
  · unfold cutV
    rw [hs.len, hi1, hj]
    exact Post.newT (P := (· = .dat (.tup ((ds.drop i).take (j - i))))) (fun v H' s x i p n => q v H' s (xx.trans x) i p (n.later xx)) rfl i3 ((hs.drop i).take (j - i)) np
theorem to_none {H0 : Hp} {σ : Sg} {H : Hp} (S : SD U H0 E σ H) (Q : Option Int → Hp → Prop) (q : ∀ H', Xt U H H' → U.inv H' → Q none H') : tNoPart σ H Q := q H .refl S.inv
theorem to_some {te : TE} {i : Int} (h : EvD U te E (.int i)) {H0 : Hp} {σ : Sg} {H : Hp} (S : SD U H0 E σ H) (Q : Option Int → Hp → Prop) (q : ∀ H', Xt U H H' → U.inv H' → Q (some i) H') : tPart te σ H Q :=
  h H0 σ H S _ fun v H1 s x1 i1 p1 n1 => by
    subst p1
    exact ⟨i, DT.int_inv n1.1, q H1 x1 i1⟩
theorem e_slTo {ta te : TE} {ds : List Dt} {j : Nat} (h : EvD U ta E (.tup ds)) (he : EvD U te E (.int (j : Int))) (hj : j ≤ ds.length) : EvD U (tSl (rSlA K) ta tNoPart (tPart te)) E (.tup (ds.take j)) := by
  have q := e_slA (K := K) (lo := none) (hi := some (j : Int)) (i := 0) (j := j) h (fun _ _ _ S Q q => to_none S Q q) (fun _ _ _ S Q q => to_some he S Q q) rfl (by rw [HT.sIx_nat]; omega) ⟨Nat.zero_le _, hj⟩
  rw [List.drop_zero, Nat.sub_zero] at q
  exact q
theorem e_slFrom {ta te : TE} {ds : List Dt} {j : Nat} (h : EvD U ta E (.tup ds)) (he : EvD U te E (.int (j : Int))) (hj : j ≤ ds.length) : EvD U (tSl (rSlA K) ta (tPart te) tNoPart) E (.tup (ds.drop j)) := by
  have q := e_slA (K := K) (lo := some (j : Int)) (hi := none) (i := j) (j := ds.length) h (fun _ _ _ S Q q => to_some he S Q q) (fun _ _ _ S Q q => to_none S Q q) (by rw [HT.sIx_nat]; omega) rfl ⟨hj, Nat.le_refl _⟩
  rw [show (ds.drop j).take (ds.length - j) = ds.drop j by rw [← List.length_drop, List.take_length]] at q
  exact q
/-! ### repetition -/
theorem rp_repT {d : Dt} {k : Int} {n : Nat} (hk : k = (n : Int)) (h2 : 2 ≤ n) (h3 : n ≤ 1000) : RP U (rRepT K) (.dat (.tup [d])) (.dat (.int k)) (· = .dat (.tup (List.replicate n d))) := fun H x y iv hx hy Q q => by
  obtain ⟨a, xs, rfl, ha, hs⟩ := DT.tup_inv hx
  cases hs with
  | @cons v _ _ _ h r =>
    cases r
    refine ⟨a, k, _, rfl, DT.int_inv hy, .of ha, (fun z => by cases z), by omega, by omega, (by show 1 ≤ 1000; decide), fun p np => ?_⟩
    have e : (List.replicate k.toNat [v]).flatten = List.replicate n v := by
      rw [hk, Int.toNat_natCast]
      clear hk h2 h3 ha hx q
      induction n with
      | zero => rfl
      | succ n ih => rw [List.replicate_succ, List.flatten_cons, ih, List.replicate_succ]; rfl
    rw [e]
    exact Post.newT q rfl iv (.rep h n) np
theorem rp_repL {d : Dt} {k : Int} {n : Nat} (hk : k = (n : Int)) (h3 : n ≤ 1000) : RP U rRep (.rl [d]) (.dat (.int k)) (· = .ol (List.replicate n d)) := fun H x y iv hx hy Q q => by
  obtain ⟨a, xs, rfl, ha, _, hs⟩ := hx
  cases hs with
  | @cons v _ _ _ h r =>
    cases r
    refine ⟨a, k, _, rfl, DT.int_inv hy, ha, by omega, by omega, (by rw [hk, Int.toNat_natCast]; show 1 * n ≤ sizeLine; rw [Nat.one_mul]; exact Nat.le_trans h3 (by decide)), fun p np => ?_⟩
    have e : (List.replicate k.toNat [v]).flatten = List.replicate n v := by
      rw [hk, Int.toNat_natCast]
      clear hk h3 ha q
      induction n with
      | zero => rfl
      | succ n ih => rw [List.replicate_succ, List.flatten_cons, ih, List.replicate_succ]; rfl
    rw [e]
    exact Post.newL q rfl iv (.rep h n) np
/-- x.insert(i, e) -/
theorem d_insert {r : V → List V → Hp → VK → Prop} (hr : ∀ (l : Addr) (xs : List V) (i : Int) (y : V) (H : Hp) (Q : VK), H l = some (.lst xs) → xs.length < sizeLine → 0 ≤ i → i < 2 ^ 63 → Q .non (upd H l (.lst (xs.take i.toNat ++ [y] ++ xs.drop i.toNat))) → r (.ref l) [.int i, y] H Q)
    {G : DE} {ti te : TE} {n : Nat} {ds : List Dt} {R : Nat → Prop} {d : Dt} (h : E[n]? = some (some (.ol ds))) (hi : EvP U ti E (fun s => ∃ i : Nat, s = .dat (.int (i : Int)) ∧ R i)) (he : EvD U te E d) (hR : ∀ i, R i → i ≤ 1000000) (hl : ds.length < 1000000)
    (k : ∀ i, R i → G.nx (E.set n (some (.ol (ds.take i ++ [d] ++ ds.drop i))))) : DS U (tDrop (tBM K "list" r (tVar n) (tCons ti (tCons te tNil)))) E G := fun D H0 σ H S F => by
  obtain ⟨v, h1, ⟨a, xs, rfl, h2, h3, h4⟩, h5⟩ := S.sl n _ h
  refine ⟨_, h1, .inl ⟨rfl, _, .of h2⟩, hi H0 σ H S _ fun y H1 s x1 i1 p1 n1 => he H0 σ H1 (S.go x1 i1) _ fun z H2 t x2 i2 p2 n2 => ?_⟩
  obtain ⟨i, rfl, hi⟩ := p1
  subst p2
  rw [DT.int_inv n1.1]
  have xx := x1.trans x2
  have h2' := xx.1 a _ h2 h3
  refine hr a xs _ z H2 _ h2' (by rw [h4.len]; exact Nat.lt_of_lt_of_le hl (by decide)) (by omega) (by have := hR i hi; omega) ?_
  rw [Int.toNat_natCast]
  have hy := h4.kp xx.kp
  exact F.nx _ _ _ (k i hi) ((S.go xx i2).turn h h1 h2' (((hy.take i).app (.one n2.1)).app (hy.drop i)))
/-! ### isinstance, is, chains -/
theorem rc_isi {s : Sl} {c : V} {t u : Value} {b : Bool} {cs : Sl} (hc : ∀ H v, Hold U H v cs → v = c) (k : ClsV c u) (ty : ∀ H v, Hold U H v s → TyX K H v t) (e : PySem.W.kitOne K t u = some b) : RC U (rIsi K) [s, cs] (· = .dat (.bl b)) := fun H vs iv h Q q => by
  cases h with
  | cons h1 r =>
    obtain ⟨w, rfl, h2⟩ := r.one
    exact ⟨_, _, t, u, b, by rw [hc H w h2], k, ty H _ h1, e, Post.dat q rfl iv (.bl _)⟩
theorem rp_isB {a b : Bool} : RP U rIsB (.dat (.bl a)) (.dat (.bl b)) (· = .dat (.bl (decide (a = b)))) := fun H x y iv hx hy Q q => ⟨a, b, DT.bl_inv hx, DT.bl_inv hy, Post.dat q rfl iv (.bl _)⟩
theorem rp_isnB {a b : Bool} : RP U rNotB (.dat (.bl a)) (.dat (.bl b)) (· = .dat (.bl (!decide (a = b)))) := fun H x y iv hx hy Q q => ⟨a, b, DT.bl_inv hx, DT.bl_inv hy, Post.dat q rfl iv (.bl _)⟩
theorem e_chain {r r' : R2} {ta tb tc : TE} {a b c : Dt} {p p2 : Bool} (ha : EvD U ta E a) (hb : EvD U tb E b) (hc : EvD U tc E c) (h1 : RP U r (.dat a) (.dat b) (· = .dat (.bl p))) (h2 : p = true → RP U r' (.dat b) (.dat c) (· = .dat (.bl p2))) :
    EvD U (tChain r r' ta tb tc) E (.bl (p && p2)) := fun H0 σ H S Q q => ha H0 σ H S _ fun x H1 s x1 i1 q1 n1 => hb H0 σ H1 (S.go x1 i1) _ fun y H2 t x2 i2 q2 n2 => by
  subst q1 q2
  refine h1 H2 x y i2 (n1.1.xt x2) n2.1 _ fun z H3 u x3 i3 q3 n3 => ?_
  subst q3
  have x123 := (x1.trans x2).trans x3
  refine ⟨p, DT.bl_inv n3.1, ?_⟩
  cases p with
  | false => exact iteF (q _ H3 _ x123 i3 rfl (.dat (.bl _)))
  | true =>
    exact iteT (hc H0 σ H3 (S.go x123 i3) _ fun w H4 t4 x4 i4 q4 n4 => by
      subst q4
      exact h2 rfl H4 y w i4 (n2.1.xt (x3.trans x4)) n4.1 Q fun v5 H5 s5 x5 i5 q5 n5 => q v5 H5 s5 ((x123.trans x4).trans x5) i5 q5 (n5.later (x123.trans x4)))
end
end K13
end
section
set_option Elab.async false
set_option linter.all false
set_option maxRecDepth 100000
set_option maxHeartbeats 4000000
set_option autoImplicit false
local macro_rules | `(tactic| walk_at "fg") => `(tactic| (repeat' (first | exact True.intro | exact rfl | constructor)))
namespace K13
open PySem PySem.Spec PyProof.Rows L2 C8
/-! ### first_seat -/
abbrev sFirstSeat : Stmt := topS 30
theorem scFirstSeat : FnScope ["lots", "free", "kind", "seat"] ["lots", "free", "kind"] (defScope sFirstSeat) := ⟨rfl, rfl, rfl, by decide +kernel, rfl, by decide +kernel, by decide +kernel⟩
theorem bdFirstSeat : Bd "first_seat" sFirstSeat ["lots", "free", "kind"] := fun _ _ _ _ _ _ us hl => match us, hl with | [_, _, _], _ => rfl
def seatD : Option Nat → Dt
  | none => .non
  | some i => .int (i : Int)
def seatOf (L : Lots) (k : Nat) : Option Nat := L.findIdx? fun a => decide (k ∈ a)
theorem seat_some {L : Lots} {k i : Nat} (hl : i < L.length) (h : ∀ a ∈ L.take i, k ∉ a) (hk : k ∈ L[i]) : seatOf L k = some i := by
  unfold seatOf
  rw [List.findIdx?_eq_some_iff_getElem]
  refine ⟨hl, decide_eq_true hk, fun j hj => ?_⟩
  have q := h L[j] (List.mem_iff_getElem.mpr ⟨j, by rw [List.length_take]; omega, by rw [List.getElem_take]⟩)
  simpa using q
theorem seat_none {L : Lots} {k : Nat} (h : ∀ a ∈ L, k ∉ a) : seatOf L k = none := by
  unfold seatOf
  rw [List.findIdx?_eq_none_iff]
  intro a ha
  simpa using h a ha
def aFirstSeat (ev : List Str) (m : Nat) : Ask := fun ss P => ∃ (L : Lots) (k : Nat), ValidL m L ∧ k < m ∧ ss = [.dat (eLots ev L), .rl (rngD 0 L.length), .dat (.str (kd ev k))] ∧ P (.dat (seatD (seatOf L k)))
theorem fineFirstSeat (ev : List Str) (m : Nat) : Fine (aFirstSeat ev m) 3 := ⟨fun ss P ⟨L, k, _, _, e, _⟩ => by subst e; exact ⟨rfl, fun s hs => by simp at hs; rcases hs with h | h | h <;> subst h <;> rfl⟩⟩
section
variable {P : Program} {w : World} {K : PySem.W.Frag} {mg : Str → Option Value} {base : Heap} {ev : List Str} {m : Nat}
theorem cFirstSeat (h : EvOk ev m) (D : Dn K mg "first_seat" sFirstSeat) : Cal P w K mg base 1 "first_seat" (spD (V0 w) (aFirstSeat ev m)) [] := by
  refine cal_of D scFirstSeat bdFirstSeat (fineFirstSeat ev m) (by decide) fun f cdv A' outer s H E hr => ⟨_, pss_cons (ps_for PassesOwn.never rfl (pi_list (pv 1)) (pg_name (i := 3) scFirstSeat.nd rfl (.inl rfl))
    (pss_one (ps_if (pt_cmpR op_in_seq (pv 2) (pe_ix ix_tup (pv 0) (pv 3) (fun _ _ => rfl)) (by rfl)) (pss_one (ps_ret (pv 3))) pss_nil))) (pss_one (ps_ret pe_non)), ?_⟩
  rintro ss Pp ⟨L, k, hv, hk, rfl, hP⟩
  have hlen : (rngD 0 L.length).length = L.length := rngD_len _ _
  refine d_seq (d_forF (fun i => ∀ a ∈ L.take i, k ∉ a) (fun _ => [some (.dat (eLots ev L)), some (.rl (rngD 0 L.length)), some (.dat (.str (kd ev k))), none]) (i_list (l_rl rfl)) ⟨by simp, by walk_at "fg"⟩ (fun i d hd hi => ?_) fun hi => ?_)
  · obtain ⟨rfl, hlt⟩ := rng0_get hd
    refine ⟨_, _, gd_name, d_ifD (b := decide (k ∈ L[i])) (b_test (e_opD (e_var rfl) (e_opD (e_var rfl) (e_var rfl) (rp_ixT (j := i) (d := eLot ev L[i]) ?_)) ?_)) (fun hb => ?_) fun hb => ?_⟩
    · rw [List.getElem?_map, List.getElem?_eq_getElem hlt]
      rfl
    · rw [← kd_mem h hk (hv _ (List.getElem_mem hlt)).2.2]
      exact rp_inT
    · rw [seat_some hlt hi (of_decide_eq_true hb)] at hP
      exact d_ret (e_var rfl) hP
    · refine d_next ⟨fun a ha => ?_, by walk_at "fg"⟩
      rw [List.take_add_one, List.getElem?_eq_getElem hlt] at ha
      rcases List.mem_append.mp ha with ha | ha
      · exact hi a ha
      · rw [List.mem_singleton.mp ha]
        exact of_decide_eq_false hb
  · rw [seat_none (by rw [hlen, List.take_length] at hi; exact hi)] at hP
    exact d_ret e_non hP
end
end K13
end
section
set_option Elab.async false
set_option linter.all false
set_option maxRecDepth 100000
set_option maxHeartbeats 4000000
set_option autoImplicit false
/-! dicts by tuples at any depth, over the library's nestedKind -/
namespace K13
open PySem PySem.Spec PyProof.Rows L2

/-! ### keys -/
theorem nk_inj : ∀ (n : Nat) (d : Dt) (m : Nat) (e : Dt), keyB n d = true → keyB m e = true → nkOf d = nkOf e → d = e := by
  have all : ∀ {n m : Nat}, (∀ d e, keyB n d = true → keyB m e = true → nkOf d = nkOf e → d = e) → ∀ ds es : List Dt, ds.all (keyB n) = true → es.all (keyB m) = true → nkOf.go ds = nkOf.go es → ds = es := by
    intro n m ih ds
    induction ds with
    | nil => intro es _ _ h; cases es with | nil => rfl | cons _ _ => simp [nkOf.go] at h
    | cons d ds ihd =>
      intro es h1 h2 h
      cases es with
      | nil => simp [nkOf.go] at h
      | cons e es =>
        rw [List.all_cons, Bool.and_eq_true] at h1 h2
        rw [nkOf.go, nkOf.go, List.cons.injEq] at h
        rw [ih d e h1.1 h2.1 h.1, ihd es h1.2 h2.2 h.2]
  intro n
  induction n with
  | zero =>
    intro d m e h1 h2 h
    cases d with
    | bl _ => cases h1
    | obj _ _ => cases h1
    | adr _ => cases h1
    | tup _ => cases h1
    | _ =>
      cases e with
      | bl _ => cases m <;> cases h2
      | obj _ _ => cases m <;> cases h2
      | adr _ => cases m <;> cases h2
      | _ => simp_all [nkOf]
  | succ n ih =>
    intro d m e h1 h2 h
    cases d with
    | bl _ => cases h1
    | obj _ _ => cases h1
    | adr _ => cases h1
    | tup ds =>
      cases e with
      | tup es =>
        cases m with
        | zero => cases h2
        | succ m =>
          rw [nkOf, nkOf, NestedKey.tup.injEq] at h
          rw [all (fun d e a b c => ih d m e a b c) ds es h1 h2 h]
      | bl _ => cases m <;> cases h2
      | obj _ _ => cases m <;> cases h2
      | adr _ => cases m <;> cases h2
      | _ => simp [nkOf] at h
    | _ =>
      cases e with
      | bl _ => cases m <;> cases h2
      | obj _ _ => cases m <;> cases h2
      | adr _ => cases m <;> cases h2
      | _ => simp_all [nkOf]
section
variable {X : Cx} {pins : List (Addr × Obj)} {σ : Sg} {H : Hp} {s : Shared}
theorem nkAll_is {n : Nat} (ih : ∀ (d : Dt) {v : V} {u : Value}, DT H v d → keyB n d = true → RelV v u → NestedIs s.heap (nkOf d) u ∧ (nkOf d).depth ≤ n) : ∀ {ds : List Dt} {vs : List V} {us : List Value}, DTs H vs ds → ds.all (keyB n) = true → Vals vs us → NestedAll s.heap (nkOf.go ds) us ∧ NestedKey.depthAll (nkOf.go ds) ≤ n
  | [], _, _, h, _, r => by
    cases h
    cases r
    rw [nkOf.go, NestedKey.depthAll]
    exact ⟨.nil, Nat.zero_le _⟩
  | d :: ds, _, _, h, k, r => by
    rw [List.all_cons, Bool.and_eq_true] at k
    cases h with
    | cons h1 h2 =>
      cases r with
      | cons r1 r2 =>
        obtain ⟨a1, a2⟩ := ih d h1 k.1 r1
        obtain ⟨b1, b2⟩ := nkAll_is ih h2 k.2 r2
        rw [nkOf.go, NestedKey.depthAll]
        exact ⟨.cons a1 b1, by omega⟩
theorem nk_is (I : Inv X pins σ H s) : ∀ (n : Nat) (d : Dt) {v : V} {u : Value}, DT H v d → keyB n d = true → RelV v u → NestedIs s.heap (nkOf d) u ∧ (nkOf d).depth ≤ n
  | n, .non, _, _, h, _, r => by
    cases h
    cases r
    rw [nkOf, NestedKey.depth]
    exact ⟨.none, Nat.zero_le _⟩
  | n, .int i, _, _, h, _, r => by
    cases h
    obtain ⟨t, rfl⟩ := r
    rw [nkOf, NestedKey.depth]
    exact ⟨.int i t, Nat.zero_le _⟩
  | n, .str x, _, _, h, _, r => by
    cases h
    obtain ⟨t, rfl⟩ := r
    rw [nkOf, NestedKey.depth]
    exact ⟨.text x t, Nat.zero_le _⟩
  | n, .bl _, _, _, _, k, _ => by cases n <;> cases k
  | n, .obj _ _, _, _, _, k, _ => by cases n <;> cases k
  | n, .adr _, _, _, _, k, _ => by cases n <;> cases k
  | 0, .tup _, _, _, _, k, _ => by cases k
  | n + 1, .tup ds, _, _, h, k, r => by
    obtain ⟨a, xs, rfl, ha, hs⟩ := h.tup_inv
    cases r
    obtain ⟨_, its, rv, o, h1, h2, m, h3⟩ := I.hok a _ ha
    obtain ⟨q1, q2⟩ := nkAll_is (fun d _ _ h k r => nk_is I n d h k r) hs k rv
    rw [nkOf, NestedKey.depth]
    exact ⟨.tup h1 h2 h3 (by simpa using q1), by omega⟩
end
/-! ### entries -/
def mk3 (xs : NEs) (us : List Value) : List (NestedKey × Addr × Value) := (xs.zip us).map fun p => (p.1.1, p.1.2.1, p.2)
def hasN (xs : NEs) (k : NestedKey) : Bool := xs.any fun e => decide (e.1 = k)
def putN (xs : NEs) (k : NestedKey) (b : Addr) (v : V) : NEs := if hasN xs k = true then xs else xs ++ [(k, b, v)]
theorem mk3_at {k : NestedKey} : ∀ {xs : NEs} {us : List Value}, Vals (xs.map fun e => e.2.2) us → (atKey (mk3 xs us) k).isSome = hasN xs k
  | [], _, h => by cases h; rfl
  | x :: xs, _, h => by
    cases h with
    | @cons _ u _ us r rr =>
      have ih := mk3_at (k := k) rr
      unfold hasN atKey mk3 at *
      rw [List.zip_cons_cons, List.map_cons, List.find?_cons, List.any_cons]
      by_cases e : x.1 = k
      · simp [e]
      · simp only [e, decide_false, Bool.false_or]
        exact ih
theorem mk3_snoc {xs : NEs} {us : List Value} (h : Vals (xs.map fun e => e.2.2) us) (k : NestedKey) (b : Addr) (v : V) (r : Value) : mk3 (xs ++ [(k, b, v)]) (us ++ [r]) = mk3 xs us ++ [(k, b, r)] := by
  have hl : xs.length = us.length := by
    have q := h.length
    rw [List.length_map] at q
    exact q
  unfold mk3
  rw [List.zip_append hl, List.map_append]
  rfl
theorem mk3_same {k : NestedKey} {v : V} {r : Value} (rv : RelV v r) : ∀ {xs : NEs} {us : List Value}, Vals (xs.map fun e => e.2.2) us → (∀ e ∈ xs, e.1 = k → e.2.2 = v) → ∃ us', Vals (xs.map fun e => e.2.2) us' ∧ (mk3 xs us).map (putAt k r) = mk3 xs us'
  | [], _, h, _ => by cases h; exact ⟨[], .nil, rfl⟩
  | x :: xs, _, h, hv => by
    cases h with
    | @cons _ u _ us q qq =>
      obtain ⟨us', h1, h2⟩ := mk3_same rv qq fun e he => hv e (List.mem_cons_of_mem _ he)
      by_cases e : x.1 = k
      · refine ⟨r :: us', .cons ?_ h1, ?_⟩
        · show RelV x.2.2 r
          rw [hv x List.mem_cons_self e]
          exact rv
        · show putAt k r (x.1, x.2.1, u) :: (mk3 xs us).map (putAt k r) = (x.1, x.2.1, r) :: mk3 xs us'
          rw [h2]
          unfold putAt
          rw [if_pos e]
      · refine ⟨u :: us', .cons q h1, ?_⟩
        show putAt k r (x.1, x.2.1, u) :: (mk3 xs us).map (putAt k r) = (x.1, x.2.1, u) :: mk3 xs us'
        rw [h2]
        unfold putAt
        rw [if_neg e]
theorem stored_put {k : NestedKey} {b : Addr} {v : V} {r : Value} {xs : NEs} {us : List Value} (rv : RelV v r) (h : Vals (xs.map fun e => e.2.2) us) (hv : ∀ e ∈ xs, e.1 = k → e.2.2 = v) :
    ∃ us', Vals ((putN xs k b v).map fun e => e.2.2) us' ∧ storedH (mk3 xs us) k b r = mk3 (putN xs k b v) us' := by
  unfold putN storedH
  rw [mk3_at h]
  by_cases e : hasN xs k = true
  · rw [if_pos e, if_pos e]
    exact mk3_same rv h hv
  · rw [if_neg e, if_neg e]
    refine ⟨us ++ [r], ?_, (mk3_snoc h k b v r).symm⟩
    rw [List.map_append]
    exact h.append (.cons rv .nil)
theorem putN_len (xs : NEs) (k : NestedKey) (b : Addr) (v : V) : (putN xs k b v).length ≤ xs.length + 1 := by
  unfold putN
  split
  · omega
  · rw [List.length_append]; exact Nat.le_refl _
theorem mk3_ent (w : World) (xs : NEs) (us : List Value) (f : NestedKey × Addr × Value → DictEntry) (hf : ∀ k a u, f (k, a, u) = nEnt w k a u) : (mk3 xs us).map f = (xs.zip us).map fun p => nEnt w p.1.1 p.1.2.1 p.2 := by
  unfold mk3
  rw [List.map_map]
  refine List.map_congr_left fun p _ => ?_
  exact hf _ _ _
theorem mk3_keys {us : List Value} : ∀ {xs : NEs} {us : List Value}, Vals (xs.map fun e => e.2.2) us → (mk3 xs us).map (·.1) = xs.map (·.1)
  | [], _, h => by cases h; rfl
  | x :: xs, _, h => by
    cases h with
    | @cons _ u _ us q qq =>
      show x.1 :: (mk3 xs us).map (·.1) = x.1 :: xs.map (·.1)
      rw [mk3_keys (us := us) qq]
section
variable {X : Cx} {pins : List (Addr × Obj)} {σ : Sg} {H : Hp} {s : Shared} {a b : Addr} {xs : NEs} {kvs : List (Dt × V)}
theorem NKs.is (I : Inv X pins σ H s) : ∀ {kvs : List (Dt × V)} {xs : NEs}, NKs H kvs xs → ∀ e ∈ xs, (nestedKind X.prog X.w).is s.heap e.1 e.2.1
  | _, _, .nil, _, h => by cases h
  | _, _, .cons hk h r, e, he => by
    rcases List.mem_cons.mp he with q | he
    · rw [q]
      exact nk_is I 8 _ h hk rfl
    · exact NKs.is I r e he
theorem nd_of (I : Inv X pins σ H s) (h : H a = some (NDictO X.w a xs)) (nk : NKs H kvs xs) : ∃ us, Vals (xs.map fun e => e.2.2) us ∧ (a == sysModules) = false ∧ xs.length ≤ sizeLine ∧ s.heap.DictOfH (nestedKind X.prog X.w) a (mk3 xs us) := by
  obtain ⟨⟨us, o, es, ep, h1, h2, h3, h4, h5, h6, h7, h8⟩, _⟩ := I.hok a _ h
  refine ⟨us, h1, h7, h8, o, es, ep, h2, h3, h4, ?_, fun x hx => ?_, by rw [mk3_keys (us := us) h1]; exact h6⟩
  · rw [h5, mk3_ent X.w xs us _ fun _ _ _ => rfl]
  · unfold mk3 at hx
    obtain ⟨p, hp, rfl⟩ := List.mem_map.mp hx
    exact nk.is I p.1 (List.of_mem_zip hp).1
theorem nd_new {us : List Value} {h : Heap} (hv : Vals (xs.map fun e => e.2.2) us) (hs : (a == sysModules) = false) (hl : xs.length ≤ sizeLine) (hm : h.DictOfH (nestedKind X.prog X.w) a (mk3 xs us)) : ObjOk X.prog X.w H h a (NDictO X.w a xs) := by
  obtain ⟨o, es, ep, h2, h3, h4, h5, _, h6⟩ := hm
  refine ⟨⟨us, o, es, ep, hv, h2, h3, h4, ?_, by rw [mk3_keys (us := us) hv] at h6; exact h6, hs, hl⟩, ⟨o, h2⟩, ?_⟩
  · rw [h5, mk3_ent X.w xs us _ fun _ _ _ => rfl]
  · rintro h1 h2 ⟨us, o, es, ep, q1, q2, q3⟩ k
    exact ⟨us, o, es, ep, q1, k o q2, q3⟩
theorem nd_empty (h : Heap) (hb : sysModules < h.objs.size) : ObjOk X.prog X.w H (h.push { cls := .type "dict", data := .dict #[] }) h.objs.size (NDictO X.w h.objs.size []) :=
  nd_new (us := []) .nil (beq_eq_false_iff_ne.mpr (Ne.symm (Nat.ne_of_lt hb))) (Nat.zero_le _) (Heap.DictOfH.new h)
/-- in, not in -/
def rNIn (w : World) (neg : Bool) : R2 := fun x y H Q => ∃ (b a : Addr) (d : Dt) (xs : NEs) (kvs : List (Dt × V)), x = .ref b ∧ y = .ref a ∧ DT H (.ref b) d ∧ keyB 8 d = true ∧ H a = some (NDictO w a xs) ∧ NKs H kvs xs ∧ Q (.bl (if neg = true then !hasN xs (nkOf d) else hasN xs (nkOf d))) H
theorem room_n {A : Around} (hu : A.units + 64 < cLine) : (nestedKind X.prog X.w).room A.in1 := by
  show A.units + 1 + 8 < cLine
  omega
theorem op_inN (hu : X.A.units + 64 < cLine) : OpR X (compareOp .In) (rNIn X.w false) := by
  intro pins s σ H x y v u Q I rx ry h
  obtain ⟨b, a, d, xs, kvs, rfl, rfl, hd, hk, ha, nk, q⟩ := h
  cases rx
  cases ry
  obtain ⟨us, h1, h2, h3, h4⟩ := nd_of I ha nk
  refine wpAny_in_heap (room_n hu) (nk_is I 8 d hd hk rfl) h2 h4 ⟨.bl _, H, I.tok _, rfl, ?_⟩
  rw [mk3_at h1]
  exact q
theorem op_notInN (hu : X.A.units + 64 < cLine) : OpR X (compareOp .NotIn) (rNIn X.w true) := by
  intro pins s σ H x y v u Q I rx ry h
  obtain ⟨b, a, d, xs, kvs, rfl, rfl, hd, hk, ha, nk, q⟩ := h
  cases rx
  cases ry
  obtain ⟨us, h1, h2, h3, h4⟩ := nd_of I ha nk
  refine wpAny_notIn_heap (room_n hu) (nk_is I 8 d hd hk rfl) h2 h4 ⟨.bl _, H, I.tok _, rfl, ?_⟩
  rw [mk3_at h1]
  exact q
/-- d[y] -/
def rNGet (w : World) : R2 := fun x y H Q => ∃ (a b : Addr) (d : Dt) (xs : NEs) (kvs : List (Dt × V)) (v : V), x = .ref a ∧ y = .ref b ∧ DT H (.ref b) d ∧ keyB 8 d = true ∧ H a = some (NDictO w a xs) ∧ NKs H kvs xs ∧ (∃ c, (nkOf d, c, v) ∈ xs) ∧ Q v H
theorem mk3_get {k : NestedKey} {v : V} : ∀ {xs : NEs} {us : List Value}, Vals (xs.map fun e => e.2.2) us → (xs.map (·.1)).Nodup → (∃ c, (k, c, v) ∈ xs) → ∃ p, atKey (mk3 xs us) k = some p ∧ RelV v p.2
  | [], _, _, _, ⟨_, h⟩ => by cases h
  | x :: xs, _, h, hn, ⟨c, hc⟩ => by
    cases h with
    | @cons _ u _ us q qq =>
      rw [List.map_cons, List.nodup_cons] at hn
      by_cases e : x.1 = k
      · refine ⟨(x.2.1, u), ?_, ?_⟩
        · show (List.find? _ ((x.1, x.2.1, u) :: mk3 xs us)).map _ = _
          rw [List.find?_cons_of_pos (by simpa using e)]
          rfl
        · rcases List.mem_cons.mp hc with z | z
          · rw [← z] at q
            exact q
          · exact absurd (List.mem_map.mpr ⟨_, z, e.symm⟩) hn.1
      · have hc' : (k, c, v) ∈ xs := by
          rcases List.mem_cons.mp hc with z | z
          · exact absurd (by rw [← z]) e
          · exact z
        obtain ⟨p, h1, h2⟩ := mk3_get qq hn.2 ⟨c, hc'⟩
        refine ⟨p, ?_, h2⟩
        show (List.find? _ ((x.1, x.2.1, u) :: mk3 xs us)).map _ = _
        rw [List.find?_cons_of_neg (by simpa using e)]
        exact h1
theorem pe_nget {o i : Expr} {pos : Pos} {td ty : TE} (hu : X.A.units + 64 < cLine) (ho : PE X o td) (hi : PE X i ty) (hs : NoSl i) : PE X (.Subscript o i pos) (tOp (rNGet X.w) td ty) := by
  refine ⟨fun pins s σ H Q I h => subD_of PySem.F.slot_dict_getitem.lookup hs (thn (ho.run pins s σ H _ I h) ?_)⟩
  rintro u s1 ⟨x, H1, I1, rx, q1⟩
  refine thn (hi.run pins s1 σ H1 _ I1 q1) ?_
  rintro iv s2 ⟨y, H2, I2, ry, a, b, d, xs, kvs, v, rfl, rfl, hd, hk, ha, nk, hc, q⟩
  cases rx
  cases ry
  obtain ⟨us, h1, h2, h3, h4⟩ := nd_of I2 ha nk
  have hn : (xs.map (·.1)).Nodup := by
    have z := h4.nodup
    rw [mk3_keys (us := us) h1] at z
    exact z
  obtain ⟨p, hp, rp⟩ := mk3_get h1 hn hc
  exact ⟨h4.typeIs, wpAny_getItem_heap (room_n hu) (nk_is I2 8 d hd hk rfl) h4 hp ⟨v, H2, I2.tok _, rp, q⟩⟩
/-- d[y] = v -/
def sNPut (w : World) (td ty tv : TE) : TS := fun D σ H => tv σ H fun v H1 => td σ H1 fun x H2 => ty σ H2 fun y H3 => ∃ (a b : Addr) (d : Dt) (xs : NEs) (kvs : List (Dt × V)), x = .ref a ∧ y = .ref b ∧ DT H3 (.ref b) d ∧ keyB 8 d = true ∧ H3 a = some (NDictO w a xs) ∧ NKs H3 kvs xs ∧
  (∀ e ∈ xs, e.1 = nkOf d → e.2.2 = v) ∧ xs.length < sizeLine ∧ D.nx σ (upd H3 a (NDictO w a (putN xs (nkOf d) b v)))
theorem nd_write {v : V} {r : Value} {d : Dt} {E : Value → Shared → Prop} {Q : Unit → Shared → Prop} {A : Around} (hu : (nestedKind X.prog X.w).room A) (I : Inv X pins σ H s) (hd : DT H (.ref b) d) (hk : keyB 8 d = true) (ha : H a = some (NDictO X.w a xs)) (nk : NKs H kvs xs) (same : ∀ e ∈ xs, e.1 = nkOf d → e.2.2 = v) (hl : xs.length < sizeLine) (rv : RelV v r)
    (q : ∀ s', Inv X pins σ (upd H a (NDictO X.w a (putN xs (nkOf d) b v))) s' → Q () s') : wpAny (model X.prog X.w) A (dictSet a (.ref b) r) Q E s := by
  obtain ⟨us, h1, h2, h3, h4⟩ := nd_of I ha nk
  have hz : (mk3 xs us).length ≤ sizeLine := by
    unfold mk3
    rw [List.length_map, List.length_zip]
    omega
  refine wpAny_dictSet_heap (hsz := hz) hu (nk_is I 8 d hd hk rfl) h4 fun h' hm hs => q _ ?_
  obtain ⟨us', g1, g2⟩ := stored_put (b := b) rv h1 same
  rw [g2] at hm
  obtain ⟨o, es, ep, ho, _⟩ := id hm
  exact d_write I (by rw [ha]; exact True.intro) hs ⟨o, ho⟩ (nd_new g1 h2 (Nat.le_trans (putN_len _ _ _ _) hl) hm)
theorem ps_nput {o i value : Expr} {pos pos' : Pos} {td ty tv : TE} (hu : X.A.units + 64 < cLine) (ho : PE X o td) (hi : PE X i ty) (hv : PE X value tv) (hs : swapsWith value (some (.Subscript o i pos')) pos.line X.env = pure false) :
    PS X (.Assign [.Subscript o i pos'] value pos) (sNPut X.w td ty tv) := by
  refine ⟨fun pins s σ H D I h => wpAny_Assign_Subscript (thn (hv.run pins s σ H _ I h) ?_) hs⟩
  rintro r s1 ⟨v, H1, I1, rv, q1⟩
  refine thn (ho.run pins s1 σ H1 _ I1 q1) ?_
  rintro u s2 ⟨x, H2, I2, rx, q2⟩
  refine thn (hi.run pins s2 σ H2 _ I2 q2) ?_
  rintro iv s3 ⟨y, H3, I3, ry, a, b, d, xs, kvs, rfl, rfl, hd, hk, ha, nk, same, hl, q⟩
  cases rx
  cases ry
  obtain ⟨us, h1, h2, h3, h4⟩ := nd_of I3 ha nk
  have hz : (mk3 xs us).length ≤ sizeLine := by
    unfold mk3
    rw [List.length_map, List.length_zip]
    omega
  refine wpAny_setItem_heap (hsz := hz) (room_n hu) (nk_is I3 8 d hd hk rfl) h4 fun h' hm hs => ?_
  obtain ⟨us', g1, g2⟩ := stored_put (b := b) rv h1 same
  rw [g2] at hm
  obtain ⟨ob, es, ep, hob, _⟩ := id hm
  exact ⟨σ, _, d_write I3 (by rw [ha]; exact True.intro) hs ⟨ob, hob⟩ (nd_new g1 h2 (Nat.le_trans (putN_len _ _ _ _) hl) hm), q⟩
/-- {} -/
def tNNew (w : World) : TE := fun _ H Q => ∀ p, H p = none → Q (.ref p) (upd H p (NDictO w p []))
theorem pe_nnew {pos : Pos} : PE X (.Dict [] [] pos) (tNNew X.w) := ⟨fun pins s σ H Q I h =>
  wpAny_Dict_empty ⟨.ref s.heap.objs.size, _, I.laid (o := NDictO X.w s.heap.objs.size []) (t' := s.toks) (fun _ _ q => Heap.get?_push_of_some _ q) (Nat.le_refl _) (nd_empty s.heap I.big), rfl, h _ (I.hok.fresh (Nat.le_refl _))⟩⟩
/-- {k: v} -/
def tNOne (w : World) (tk tv : TE) : TE := fun σ H Q => ∀ p, H p = none → tk σ (upd H p (NDictO w p [])) fun x H1 => tv σ H1 fun v H2 => ∃ (b : Addr) (d : Dt), x = .ref b ∧ DT H2 (.ref b) d ∧ keyB 8 d = true ∧ H2 p = some (NDictO w p []) ∧ Q (.ref p) (upd H2 p (NDictO w p [(nkOf d, b, v)]))
theorem pe_none_ {k v : Expr} {tk tv : TE} {pos : Pos} (hu : X.A.units + 64 < cLine) (hk : PE X k tk) (hv : PE X v tv) : PE X (.Dict [some k] [v] pos) (tNOne X.w tk tv) := by
  refine ⟨fun pins s σ H Q I h => ?_⟩
  have hn := I.hok.fresh (Nat.le_refl s.heap.objs.size)
  have I1 := I.laid (a := s.heap.objs.size) (o := NDictO X.w s.heap.objs.size []) (h' := s.heap.push { cls := .type "dict", data := .dict #[] }) (t' := s.toks) (fun _ _ q => Heap.get?_push_of_some _ q) (Nat.le_refl _) (nd_empty s.heap I.big)
  have e0 : (evalEachOpt [some k] X.env).zip ((evalEach [v] X.env).map fun v => do let x ← v; standAt pos; pure x) = (pairTrees [some k] [v] X.env pos).map fun p => (some p.1, p.2) := zip_pairTrees [some k] [v] X.env pos rfl rfl
  show wpAny _ _ (eval (.Dict [some k] [v] pos) X.env) _ _ _
  rw [arm_eval_Dict, e0, dictDisplay_pairs (pairTrees [some k] [v] X.env pos) (fun z => by cases z) (by show 1 < 17; decide)]
  refine wpAny_bind (wpAny_standAt (wpAny_bind (wpAny_subDictH (knd := nestedKind X.prog X.w) (show X.A.units + 8 < cLine by omega) (by show 1 ≤ 15; decide) ?_)))
  refine pairTrees_cons_walk (thn (hk.run pins _ σ _ _ I1 (h _ hn)) ?_)
  rintro u s1 ⟨x, H1, I2, rx, q1⟩
  refine thn (hv.run pins s1 σ H1 _ I2 q1) ?_
  rintro r s2 ⟨z, H2, I3, rz, b, d, rfl, hd, hkb, hp, q⟩
  cases rx
  refine pairTrees_nil_walk ?_
  obtain ⟨us, h1, h2, h3, h4⟩ := nd_of I3 hp .nil
  cases h1
  refine ⟨[(nkOf d, b, r)], ⟨rfl, rfl, nk_is I3 8 d hd hkb rfl, trivial⟩, h4, fun h' tk hm hs => wpAny_pure ?_⟩
  have hm2 : h'.DictOfH (nestedKind X.prog X.w) s.heap.objs.size (mk3 [(nkOf d, b, z)] [r]) := hm
  obtain ⟨ob, es, ep, hob, _⟩ := id hm2
  exact ⟨.ref s.heap.objs.size, _, d_write I3 (by rw [hp]; exact True.intro) hs ⟨ob, hob⟩ (nd_new (xs := [(nkOf d, b, z)]) (us := [r]) (.cons rz .nil) h2 (by show 1 ≤ sizeLine; decide) hm2), rfl, q⟩
end
end K13
end
section
set_option Elab.async false
set_option linter.all false
set_option maxRecDepth 100000
set_option maxHeartbeats 4000000
set_option autoImplicit false
/-! dicts by tuples: comprehension, list of the keys -/
namespace K13
open PySem PySem.Spec PyProof.Rows L2
section
variable {X : Cx}
/-- {k: v for target in iter}, keys tuples: D the new dict -/
def tDcN (w : World) (wi : TI) (g : TG) (tk tv : TE) (vs : List Nat) : TE := fun σ H Q => wi σ H fun J H1 => ∀ D, H1 D = none → ∃ W : Nat → Nat → Hp → Prop, (∃ m, W 0 m (upd H1 D (NDictO w D []))) ∧ ∀ i m H2, W i m H2 →
  (J.stop i H2 ∧ Q (.ref D) H2) ∨ (J.go i H2 ∧ ∃ Nx : Hp → Prop, (∀ H', Nx H' → ∃ m', m' < m ∧ W (i + 1) m' H') ∧ ∀ x H', J.yld i H2 x H' → g x (wipe σ vs) H' fun σ2 H3 => wipe σ2 vs = wipe σ vs ∧ tk σ2 H3 fun y H4 => tv σ2 H4 fun z H5 =>
    ∃ (b : Addr) (d : Dt) (xs : NEs) (kvs : List (Dt × V)), y = .ref b ∧ DT H5 (.ref b) d ∧ keyB 8 d = true ∧ H5 D = some (NDictO w D xs) ∧ NKs H5 kvs xs ∧ (∀ e ∈ xs, e.1 = nkOf d → e.2.2 = z) ∧ xs.length < sizeLine ∧ Nx (upd H5 D (NDictO w D (putN xs (nkOf d) b z))))
/-- the footprint of an iterator inside a block -/
theorem blk_fp {sB : Shared} {HB : Hp} {scope : Scope} {ce : Env} {fp : List Addr} {τ : Sg} {Hh : Hp} {t : Shared} (J : Inv (X.blk sB HB scope ce fp) [] τ Hh t) (free : ∀ c ∈ fp, Hh c = none) : ∀ c ∈ fp, FpOk (X.blk sB HB scope ce fp) [] Hh c := fun c hc =>
  ⟨free c hc, (J.ok.exf c hc).1, J.ok.exfs c hc, .inl hc, fun x a e => (J.ok.exf c hc).2 x a e, fun p hp => nomatch (show p ∈ ([] : List (Addr × Obj)) from hp)⟩
theorem dcN_core {pins : List (Addr × Obj)} {t : Shared} {σ : Sg} {H : Hp} {Q : VK} {kx vx tg iter : Expr} {scope : Scope} {own : List (Str × Nat)} {pos ps2 : Pos} {wi : TI} {g : TG} {tk tv : TE} {useV : Option (Value → Sem Unit)} {Qz : Value → Shared → Prop} (hc : X.calm = true) (hu : X.A.units + 64 < cLine) (hN : X.N.Nodup) (I : Inv X pins σ H t) (hi : PI X tg iter wi) (ok : BlkOk X.N X.env.scope scope own)
    (hg : ∀ (t : Shared) (Hh : Hp) (C : Addr) (cs : List (Str × Addr)) (fp : List Addr), PG (X.blk t Hh scope (compEnvC scope cs C X.env) fp) tg g)
    (hk : ∀ (t : Shared) (Hh : Hp) (C : Addr) (cs : List (Str × Addr)) (fp : List Addr), PE (X.blk t Hh scope (compEnvC scope cs C X.env) fp) kx tk)
    (hv : ∀ (t : Shared) (Hh : Hp) (C : Addr) (cs : List (Str × Addr)) (fp : List Addr), PE (X.blk t Hh scope (compEnvC scope cs C X.env) fp) vx tv) (fold : ∀ x, foldedSetIterable iter X.env x = pure x) (q0 : tDcN X.w wi g tk tv (own.map (·.2)) σ H Q)
    (ends : ∀ D C t' mm Hh, Inv X pins σ Hh t' → Q (.ref D) Hh → t'.heap.Ns C mm → FpOk X pins Hh C → compPost (model X.prog X.w) X.A X.xe useV Qz (.ref D) C (.ok .next) t') :
    wpAny (model X.prog X.w) X.A (comprehension (.DictComp kx vx [⟨tg, iter, [], 0⟩] scope pos) scope X.env ps2 newDict false (eval iter X.env) useV) Qz X.xe t := by
  have caught : ∀ y ∈ scope.names, y.2 = .free → ∃ c, X.env.cells.lookup y.1 = some c := fun y hy e => (ok.free y hy e).elim (fun k => I.ok.has _ (.inl k)) fun k => I.ok.has _ (.inr k)
  refine wpAny_comprehension_free (use := useV) rfl fold (closure_ok caught) ok.kind (fun y hy e => by rw [ok.uniq y hy, e]) (thn (hi.run pins t σ H _ I q0) fun _ t1 hx => thn hx ?_)
  rintro _ t2 ⟨it, fp, tn, J, H2, rfl, I2, T, at2, fp2, q1⟩
  refine wpAny_newObj_type (newEnv_comp ?_)
  obtain ⟨W, ⟨m0, w0⟩, turn⟩ := q1 t2.heap.objs.size (I2.hok.fresh (Nat.le_refl _))
  have IL : Inv X pins σ (upd H2 t2.heap.objs.size (NDictO X.w t2.heap.objs.size [])) { t2 with heap := t2.heap.push { cls := .type "dict", data := .dict #[] } } := I2.laid (t' := t2.toks) (fun b o e => Heap.get?_push_of_some _ e) (Nat.le_refl _) (nd_empty t2.heap I2.big)
  have low : ∀ b ∈ fp, b < t2.heap.objs.size := fun b hb => let ⟨o, e, _⟩ := T.obj _ _ at2 b hb; Heap.lt_size e
  have fpL : ∀ b ∈ fp, FpOk X pins (upd H2 t2.heap.objs.size (NDictO X.w t2.heap.objs.size [])) b ∧ b < (t2.heap.push { cls := .type "dict", data := .dict #[] }).objs.size := fun b hb =>
    ⟨⟨by rw [upd_ne (Nat.ne_of_lt (low b hb))]; exact (fp2 b hb).1, (fp2 b hb).2⟩, by rw [Heap.size_push]; exact Nat.lt_succ_of_lt (low b hb)⟩
  have atL : tn 0 (t2.heap.push { cls := .type "dict", data := .dict #[] }) := T.keep _ _ _ at2 fun b _ o e => Heap.get?_push_of_some _ e
  generalize eD : t2.heap.objs.size = D at q1 w0 turn IL low fpL
  generalize eT : ({ t2 with heap := t2.heap.push { cls := .type "dict", data := .dict #[] } } : Shared) = tL at IL ⊢
  have hL : tL.heap = t2.heap.push { cls := .type "dict", data := .dict #[] } := by rw [← eT]
  rw [← hL] at fpL atL
  have IB := block_start IL ok hN fpL
  have g1 := hg tL (upd H2 D (NDictO X.w D [])) tL.heap.objs.size (cellsFrom (tL.heap.objs.size + 1) scope.names (cloFrom X.env.cells scope.names [])) fp
  have k1 := hk tL (upd H2 D (NDictO X.w D [])) tL.heap.objs.size (cellsFrom (tL.heap.objs.size + 1) scope.names (cloFrom X.env.cells scope.names [])) fp
  have v1 := hv tL (upd H2 D (NDictO X.w D [])) tL.heap.objs.size (cellsFrom (tL.heap.objs.size + 1) scope.names (cloFrom X.env.cells scope.names [])) fp
  have none0 : ∀ b ∈ fp, (upd H2 D (NDictO X.w D [])) b = none := fun b hb => (fpL b hb).1.1
  show codeAny (model X.prog X.w) X.A (.compStart (.DictComp kx vx [⟨tg, iter, [], 0⟩] scope pos) 0 (.ref it) (.ref D) (compEnvC scope (cellsFrom (tL.heap.objs.size + 1) scope.names (cloFrom X.env.cells scope.names [])) tL.heap.objs.size X.env)) (compPost (model X.prog X.w) X.A X.xe useV Qz (.ref D) tL.heap.objs.size) { tL with heap := pushCells (tL.heap.push { cls := .type "dict", data := .dict #[] }) scope.names }
  generalize eE : compEnvC scope (cellsFrom (tL.heap.objs.size + 1) scope.names (cloFrom X.env.cells scope.names [])) tL.heap.objs.size X.env = ce at IB g1 k1 v1 ⊢
  have locE : ce.locals = tL.heap.objs.size := by rw [← eE]; rfl
  generalize eH : upd H2 D (NDictO X.w D []) = HL at IL IB g1 k1 v1 w0 none0 fpL
  generalize eB : ({ tL with heap := pushCells (tL.heap.push { cls := .type "dict", data := .dict #[] }) scope.names } : Shared) = tB at IB ⊢
  have atB : tn 0 tB.heap := by
    rw [← eB]
    exact T.keep _ _ _ atL fun b _ o e => pushCells_keeps _ _ _ _ (Heap.get?_push_of_some _ e)
  have go : codeAny (model X.prog X.w) X.A (.compLoop (.DictComp kx vx [⟨tg, iter, [], 0⟩] scope pos) 0 (.ref it) (.ref D) ce) (compPost (model X.prog X.w) X.A X.xe useV Qz (.ref D) tL.heap.objs.size) tB := by
    refine compLoop_anyD (fun n t' => ∃ i Hh, Inv (X.blk tL HL scope ce fp) [] (wipe σ (own.map (·.2))) Hh t' ∧ tn i t'.heap ∧ (∀ b ∈ fp, Hh b = none) ∧ W i n Hh) (fun n t5 ⟨i, H5, I5, at5, no5, w5⟩ => ?_) m0 ⟨0, HL, IB, atB, none0, w0⟩
    rcases turn i n H5 w5 with ⟨stop, fin⟩ | ⟨more, Nx, down, step⟩
    · refine thnF (T.done (X.blk tL HL scope ce fp) rfl rfl rfl hc i [] t5 _ H5 (fun _ _ => False) I5 (blk_fp I5 no5) at5 stop) ?_
      rintro _ t6 ⟨rfl, I6⟩
      have back : Inv X pins σ H5 t6 := IL.call' (ch := fp) I6.os I6.base I6.hok I6.bare fun b hb => let f := (fpL b hb).1.2; ⟨f.2.2.1, f.1, f.2.2.2.1, f.2.2.2.2⟩
      have free6 : H5 tL.heap.objs.size = none := by rw [← locE]; exact I6.free
      obtain ⟨mm, ns, _⟩ := I6.loc
      exact ends D tL.heap.objs.size t6 mm H5 back fin (by rw [← locE]; exact ns) (IL.fpOk (Nat.le_refl tL.heap.objs.size) free6)
    · refine thnF (T.item (X.blk tL HL scope ce fp) rfl rfl rfl hc i [] t5 _ H5 (fun _ _ => False) I5 (blk_fp I5 no5) at5 more) ?_
      rintro _ t6 ⟨u, rfl, h6⟩
      refine thnF h6 ?_
      rintro _ t7 ⟨x, H7, I7, r7, y7, at7, no7⟩
      refine thnF (g1.run _ t7 _ H7 x u _ (I7.pinned (blk_fp I7 no7) (T.obj _ _ at7)) r7 (step x H7 y7)) ?_
      rintro _ t8 ⟨τ, H8, I8, same8, q8⟩
      refine wpAny_tests_nil ?_
      rw [if_pos rfl]
      refine thnF (k1.run _ t8 τ H8 _ I8 q8) ?_
      rintro ku t9 ⟨kk, H9, I9, r9, q9⟩
      refine thnF (v1.run _ t9 τ H9 _ I9 q9) ?_
      rintro vu tt ⟨z, HT, IT, rT, b, d, xs, kvs, rfl, hd, hkb, hDT, nk, same, room, nx⟩
      cases r9
      refine nd_write (X := X.blk tL HL scope ce fp) (show X.A.units + 8 < cLine by omega) IT hd hkb hDT nk same room rT fun te Ie => ?_
      obtain ⟨m', hm, w'⟩ := down _ nx
      have pinned : ∀ c ∈ fp, ∀ o, t7.heap.get? c = some o → te.heap.get? c = some o ∧ (upd HT D (NDictO X.w D (putN xs (nkOf d) b z))) c = none := fun c hc o e =>
        have p := Ie.pin (c, o) (List.mem_append_right _ (List.mem_append_right _ (mem_pinsAt hc e)))
        ⟨p.1, p.2.1⟩
      refine ⟨m', hm, i + 1, _, (Ie.unpinned (pins := [])).weak (by rw [← same8, wipe_length]) (fun j v e => (wipe_some (same8 ▸ e)).1), T.keep _ _ _ at7 fun c hc o e => (pinned c hc o e).1, fun c hc => ?_, w'⟩
      obtain ⟨o, e, _⟩ := T.obj _ _ at7 c hc
      exact (pinned c hc o e).2
  exact codeAny_compStart_dict go (T.self X.A 0 _ _ _ atB go)
theorem pe_dcN {kx vx tg iter : Expr} {scope : Scope} {own : List (Str × Nat)} {pos : Pos} {wi : TI} {g : TG} {tk tv : TE} (hc : X.calm = true) (hu : X.A.units + 64 < cLine) (hN : X.N.Nodup) (hi : PI X tg iter wi) (ok : BlkOk X.N X.env.scope scope own)
    (hg : ∀ (t : Shared) (Hh : Hp) (C : Addr) (cs : List (Str × Addr)) (fp : List Addr), PG (X.blk t Hh scope (compEnvC scope cs C X.env) fp) tg g)
    (hk : ∀ (t : Shared) (Hh : Hp) (C : Addr) (cs : List (Str × Addr)) (fp : List Addr), PE (X.blk t Hh scope (compEnvC scope cs C X.env) fp) kx tk)
    (hv : ∀ (t : Shared) (Hh : Hp) (C : Addr) (cs : List (Str × Addr)) (fp : List Addr), PE (X.blk t Hh scope (compEnvC scope cs C X.env) fp) vx tv) (fold : ∀ x, foldedSetIterable iter X.env x = pure x := by intro _; rfl) :
    PE X (.DictComp kx vx [⟨tg, iter, [], 0⟩] scope pos) (tDcN X.w wi g tk tv (own.map (·.2))) := by
  refine ⟨fun pins t σ H Q I q0 => ?_⟩
  rw [arm_eval_DictComp]
  refine dcN_core hc hu hN I hi ok hg hk hv fold q0 fun D C t' mm Hh I' fin ns f => ⟨mm, ns, fun h2 sb => ?_⟩
  exact ⟨.ref D, Hh, I'.turned (t' := t'.toks) (fun b o hb e => (sb.2 b hb).trans e) f.1 f.2.1 f.2.2.2.1 f.2.2.2.2.1 f.2.2.2.2.2, rfl, fin⟩
/-- a local name that takes such a dict -/
theorem ps_setDcN {i : Nat} {y : Str} {py : Pos} {kx vx tg iter : Expr} {scope : Scope} {own : List (Str × Nat)} {pos spos : Pos} {wi : TI} {g : TG} {tk tv : TE} (hc : X.calm = true) (hu : X.A.units + 64 < cLine) (hN : X.N.Nodup) (hy : X.N[i]? = some y) (hyl : X.env.scope.names.lookup y = some .local)
    (hsw : swapsWith (.DictComp kx vx [⟨tg, iter, [], 0⟩] scope pos) (some (.Name y py)) spos.line X.env = pure true) (hi : PI X tg iter wi) (ok : BlkOk X.N X.env.scope scope own)
    (hg : ∀ (t : Shared) (Hh : Hp) (C : Addr) (cs : List (Str × Addr)) (fp : List Addr), PG (X.blk t Hh scope (compEnvC scope cs C X.env) fp) tg g)
    (hk : ∀ (t : Shared) (Hh : Hp) (C : Addr) (cs : List (Str × Addr)) (fp : List Addr), PE (X.blk t Hh scope (compEnvC scope cs C X.env) fp) kx tk)
    (hv : ∀ (t : Shared) (Hh : Hp) (C : Addr) (cs : List (Str × Addr)) (fp : List Addr), PE (X.blk t Hh scope (compEnvC scope cs C X.env) fp) vx tv) (fold : ∀ x, foldedSetIterable iter X.env x = pure x := by intro _; rfl) :
    PS X (.Assign [.Name y py] (.DictComp kx vx [⟨tg, iter, [], 0⟩] scope pos) spos) (tAsg (tDcN X.w wi g tk tv (own.map (·.2))) (gName i)) := by
  refine ⟨fun pins t σ H D I h => ?_⟩
  rw [exec_Assign_Name_used _ _ _ _ hsw]
  refine wpAny_bind (wpAny_standAt (wpAny_bind ?_))
  show wpAny _ X.A (do let _ ← comprehension (.DictComp kx vx [⟨tg, iter, [], 0⟩] scope pos) scope X.env (firstIterPos [⟨tg, iter, [], 0⟩] pos) newDict false (eval iter X.env) (some (assign (.Name y py) X.env))) _ _ t
  have q0 : tDcN X.w wi g tk tv (own.map (·.2)) σ H (fun x H1 => gName i x σ H1 D.nx) := h
  refine wpAny_bind (thn (dcN_core (Qz := fun _ t' => SP X pins D .next t') hc hu hN I hi ok hg hk hv fold q0 fun L C t' mm Hh I' fin ns f => ?_) fun _ t' hq => wpAny_pure (wpAny_pure hq))
  show wpAny _ _ (assign (.Name y py) X.env (.ref L)) _ _ _
  refine wpAny_assign_Name (store_ok2 (v := V.ref L) I' hN hy (.inl hyl) rfl (fun t2 I2 ⟨a, sb, ha⟩ => ?_) (.inr hyl))
  have far : C ≠ a := ha.elim (fun z => by rw [z]; exact f.2.1) fun z e => f.2.2.2.2.1 y a z e.symm
  exact ⟨mm, ns.sameBut sb far, fun h3 sb3 => ⟨_, Hh, I2.turned (t' := t2.toks) (fun b o hb e => (sb3.2 b hb).trans e) f.1 f.2.1 f.2.2.2.1 f.2.2.2.2.1 f.2.2.2.2.2, fin⟩⟩
theorem refs_rel : ∀ xs : NEs, Vals (xs.map fun e => V.ref e.2.1) (xs.map fun e => Value.ref e.2.1)
  | [] => .nil
  | _ :: xs => .cons rfl (refs_rel xs)
/-- list(d): the keys in order -/
def rKeysN (w : World) : List V → Hp → VK → Prop := fun vs H Q => ∃ (a : Addr) (xs : NEs) (kvs : List (Dt × V)), vs = [.ref a] ∧ H a = some (NDictO w a xs) ∧ NKs H kvs xs ∧ ∀ p, H p = none → Q (.ref p) (upd H p (.lst (xs.map fun e => V.ref e.2.1)))
theorem cr_keysN (hc : X.calm = true) : CallR X (.type "list") (rKeysN X.w) := by
  intro pins s σ H vs us Q I r h
  obtain ⟨a, xs, kvs, rfl, ha, nk, q⟩ := h
  obtain ⟨u, rfl, rx⟩ := r.one
  cases rx
  obtain ⟨ws, h1, h2, h3, o, es, ep, ho, hx, hd, he, _, _⟩ := nd_of I ha nk
  have lw : xs.length = ws.length := by
    have z := h1.length
    rw [List.length_map] at z
    exact z
  have l1 : es.size = xs.length := by
    have z := congrArg List.length he
    rw [List.length_map, Array.length_toList] at z
    rw [z]
    unfold mk3
    rw [List.length_map, List.length_zip]
    omega
  refine PySem.W.kdl_call (kdl_raw h2 hx hd) (I.ok.hd hc) ho (by omega) fun h' tk acc cp kp e it => ?_
  have ea : acc.toList = xs.map fun e => Value.ref e.2.1 := by
    refine List.ext_getElem (by rw [Array.length_toList, it.1, List.length_map, l1]) fun j j1 j2 => ?_
    rw [List.length_map] at j2
    obtain ⟨en, hen, hv⟩ := it.2 j acc.toList[j] (by rw [← Array.getElem?_toList, List.getElem?_eq_getElem j1])
    rw [hv, List.getElem_map]
    have q1 : es.toList[j]? = some en := by rw [Array.getElem?_toList]; exact hen
    rw [he] at q1
    unfold mk3 at q1
    have j3 : j < ws.length := by omega
    have q3 : (xs.zip ws)[j]? = some (xs[j], ws[j]) := List.getElem?_zip_eq_some.mpr ⟨List.getElem?_eq_getElem j2, List.getElem?_eq_getElem j3⟩
    rw [List.map_map, List.getElem?_map, q3] at q1
    have q2 := Option.some.inj q1
    rw [← q2]
    rfl
  have rv : Vals (xs.map fun e => V.ref e.2.1) acc.toList := by
    rw [ea]
    exact refs_rel xs
  exact ⟨.ref s.heap.objs.size, _, I.laid (t' := tk) kp (Nat.le_refl _) (show ObjOk X.prog X.w _ _ _ (.lst (xs.map fun e => V.ref e.2.1)) from ⟨by rw [List.length_map]; exact h3, acc.toList, cp, rv, by rw [Array.toArray_toList]; exact e⟩), rfl, q _ (I.hok.fresh (Nat.le_refl _))⟩
end
end K13
end
section
set_option Elab.async false
set_option linter.all false
set_option maxRecDepth 100000
set_option maxHeartbeats 4000000
set_option autoImplicit false
/-! data-level reasoning: dicts -/
namespace K13
open PySem PySem.Spec PyProof.Rows L2
section
variable {U : Vol} {E : DEnv} {G : DE}
theorem SD.turnO {H0 H : Hp} {σ : Sg} {i : Nat} {s s' : Sl} {a : Addr} {o o' : HO} (S : SD U H0 E σ H) (h : E[i]? = some (some s)) (os : s.own = true) (os' : s'.own = true) (hv : σ[i]? = some (some (.ref a))) (ha : H a = some o) (nti : isTI o = false) (nb : ¬ U.bad a o)
    (ntb : Ord o') (hold : ∀ H', Kp H H' → H' a = some o' → ¬ U.bad a o' → Hold U H' (.ref a) s') : SD U H0 (E.set i (some s')) σ (upd H a o') := by
  obtain ⟨v, h1, h2, h5⟩ := S.sl i _ h
  rw [hv] at h1
  cases h1
  have n0 : H0 a = none := h5 os a rfl
  have kp : Kp H (upd H a o') := fun c u e t => by
    rw [upd_ne (fun z => by rw [z, ha] at e; cases e; rw [nti] at t; cases t)]
    exact e
  refine ⟨by rw [List.length_set]; exact S.len, ⟨fun c u e n => ?_, fun c e => ?_⟩, U.st _ _ _ _ S.inv ha nti nb ntb, fun j s1 e => ?_, fun j k s1 t v ne e1 e2 q m => ?_⟩
  · rw [upd_ne (ne_of_none e n0)]
    exact S.xt.1 c u e n
  · by_cases hc : c = a
    · rw [hc, upd_same]
      exact fun z => by cases z
    · rw [upd_ne hc]
      exact S.xt.2 c e
  · rcases set_get e with ⟨rfl, e, _⟩ | ⟨ne, e⟩
    · cases e
      exact ⟨_, hv, hold _ kp upd_same (U.sb _ _ _ _ S.inv ha nb ntb), fun _ b e => by cases e; exact n0⟩
    · obtain ⟨v, g1, g2, g3⟩ := S.sl j s1 e
      refine ⟨v, g1, ?_, g3⟩
      have off : s1.mut = true → v ≠ .ref a := fun m z => by
        subst z
        exact S.sep i j _ s1 _ (Ne.symm ne) h e os m hv g1
      cases s1 with
      | dat d => exact DT.kp kp g2
      | rl _ =>
        obtain ⟨b, zs, eb, f1, f2, f3⟩ := g2
        exact ⟨b, zs, eb, by rw [upd_ne (fun z => off rfl (by rw [eb, z]))]; exact f1, f2, f3.kp kp⟩
      | ra _ _ =>
        obtain ⟨b, zs, eb, f1, f2, f3⟩ := g2
        exact ⟨b, zs, eb, by rw [upd_ne (fun z => off rfl (by rw [eb, z]))]; exact f1, f2, f3.1.kp kp, f3.2⟩
      | ol _ =>
        obtain ⟨b, zs, eb, f1, f2, f3⟩ := g2
        exact ⟨b, zs, eb, by rw [upd_ne (fun z => off rfl (by rw [eb, z]))]; exact f1, f2, f3.kp kp⟩
      | oi _ =>
        obtain ⟨b, eb, f1, f2⟩ := g2
        exact ⟨b, eb, by rw [upd_ne (fun z => off rfl (by rw [eb, z]))]; exact f1, f2⟩
      | on _ =>
        obtain ⟨b, zs, eb, f1, f2, f3⟩ := g2
        exact ⟨b, zs, eb, by rw [upd_ne (fun z => off rfl (by rw [eb, z]))]; exact f1, f2, f3.kp kp⟩
  · have e1' : ∃ s2, E[j]? = some (some s2) ∧ s2.own = true := by
      rcases set_get e1 with ⟨rfl, z, _⟩ | ⟨_, e1⟩
      · exact ⟨_, h, os⟩
      · exact ⟨s1, e1, q⟩
    have e2' : ∃ t', E[k]? = some (some t') ∧ t'.mut = true := by
      rcases set_get e2 with ⟨rfl, z, _⟩ | ⟨_, e2⟩
      · exact ⟨_, h, own_mut os⟩
      · exact ⟨t, e2, m⟩
    obtain ⟨s2, e1, q'⟩ := e1'
    obtain ⟨t', e2, m'⟩ := e2'
    exact S.sep j k s2 t' v ne e1 e2 q' m'
theorem NKs.has {H : Hp} {d : Dt} (hk : keyB 8 d = true) : ∀ {kvs : List (Dt × V)} {xs : NEs}, NKs H kvs xs → (hasN xs (nkOf d) = true ↔ d ∈ kvs.map (·.1))
  | _, _, .nil => by simp [hasN]
  | _, _, .cons (d := e) hke _ r => by
    have ih := NKs.has hk r
    unfold hasN at *
    rw [List.any_cons, Bool.or_eq_true, ih, List.map_cons, List.mem_cons, decide_eq_true_eq]
    constructor
    · rintro (h | h)
      · exact .inl (nk_inj 8 d 8 e hk hke h.symm)
      · exact .inr h
    · rintro (h | h)
      · exact .inl (by rw [h])
      · exact .inr h
theorem NKs.mem {H : Hp} {d : Dt} {v : V} : ∀ {kvs : List (Dt × V)} {xs : NEs}, NKs H kvs xs → (d, v) ∈ kvs → ∃ c, (nkOf d, c, v) ∈ xs
  | _, _, .nil, h => by cases h
  | _, _, .cons (a := a) hke _ r, h => by
    rcases List.mem_cons.mp h with e | h
    · cases e
      exact ⟨a, List.mem_cons_self⟩
    · obtain ⟨c, hc⟩ := NKs.mem r h
      exact ⟨c, List.mem_cons_of_mem _ hc⟩
theorem NKs.len {H : Hp} : ∀ {kvs : List (Dt × V)} {xs : NEs}, NKs H kvs xs → xs.length = kvs.length
  | _, _, .nil => rfl
  | _, _, .cons _ _ r => by rw [List.length_cons, List.length_cons, NKs.len r]
theorem NKs.snoc {H : Hp} {d : Dt} {v : V} {b : Addr} (hk : keyB 8 d = true) (hd : DT H (.ref b) d) : ∀ {kvs : List (Dt × V)} {xs : NEs}, NKs H kvs xs → NKs H (kvs ++ [(d, v)]) (xs ++ [(nkOf d, b, v)])
  | _, _, .nil => .cons hk hd .nil
  | _, _, .cons h1 h2 r => .cons h1 h2 (NKs.snoc hk hd r)
theorem NKs.refs {H : Hp} : ∀ {kvs : List (Dt × V)} {xs : NEs}, NKs H kvs xs → DTs H (xs.map fun e => V.ref e.2.1) (kvs.map (·.1))
  | _, _, .nil => .nil
  | _, _, .cons _ h r => .cons h (NKs.refs r)
theorem NKs.all {H : Hp} {Pv : V → Prop} : ∀ {kvs : List (Dt × V)} {xs : NEs}, NKs H kvs xs → (∀ p ∈ kvs, Pv p.2) → ∀ e ∈ xs, Pv e.2.2
  | _, _, .nil, _, _, h => by cases h
  | _, _, .cons (v := v) _ _ r, hp, e, he => by
    rcases List.mem_cons.mp he with q | he
    · rw [q]; exact hp (_, v) List.mem_cons_self
    · exact NKs.all r (fun p h => hp p (List.mem_cons_of_mem _ h)) e he
theorem dt_ref {H : Hp} {v : V} {ds : List Dt} (h : DT H v (.tup ds)) : ∃ b, v = .ref b := by
  obtain ⟨a, _, e, _⟩ := h.tup_inv
  exact ⟨a, e⟩
section
variable {ta : TE} {i : Nat} {ds : List Dt} {kvs : List (Dt × V)} {b : Bool}
theorem e_inN (h : E[i]? = some (some (.on kvs))) (ht : EvD U ta E (.tup ds)) (hk : keyB 8 (.tup ds) = true) (hb : b = true ↔ Dt.tup ds ∈ kvs.map (·.1)) : EvD U (tOp (rNIn U.w false) ta (tVar i)) E (.bl b) := fun H0 σ H S Q q => ht H0 σ H S _ fun x H1 s x1 i1 p1 n1 => by
  subst p1
  obtain ⟨v, hv, ⟨a, xs, rfl, ha, nb, nk⟩, _⟩ := (S.go x1 i1).sl i _ h
  obtain ⟨c, rfl⟩ := dt_ref n1.1
  refine ⟨_, hv, c, a, _, xs, kvs, rfl, rfl, n1.1, hk, ha, nk, ?_⟩
  have e : hasN xs (nkOf (.tup ds)) = b := by rw [Bool.eq_iff_iff, nk.has hk, hb]
  rw [if_neg (by decide), e]
  exact q _ H1 _ x1 i1 rfl (.dat (.bl _))
theorem e_notInN (h : E[i]? = some (some (.on kvs))) (ht : EvD U ta E (.tup ds)) (hk : keyB 8 (.tup ds) = true) (hb : b = true ↔ Dt.tup ds ∈ kvs.map (·.1)) : EvD U (tOp (rNIn U.w true) ta (tVar i)) E (.bl (!b)) := fun H0 σ H S Q q => ht H0 σ H S _ fun x H1 s x1 i1 p1 n1 => by
  subst p1
  obtain ⟨v, hv, ⟨a, xs, rfl, ha, nb, nk⟩, _⟩ := (S.go x1 i1).sl i _ h
  obtain ⟨c, rfl⟩ := dt_ref n1.1
  refine ⟨_, hv, c, a, _, xs, kvs, rfl, rfl, n1.1, hk, ha, nk, ?_⟩
  have e : hasN xs (nkOf (.tup ds)) = b := by rw [Bool.eq_iff_iff, nk.has hk, hb]
  rw [if_pos rfl, e]
  exact q _ H1 _ x1 i1 rfl (.dat (.bl _))
theorem e_getN {v : V} {dv : Dt} (h : E[i]? = some (some (.on kvs))) (ht : EvD U ta E (.tup ds)) (hk : keyB 8 (.tup ds) = true) (hm : (Dt.tup ds, v) ∈ kvs) (hv : ∀ H, DT H v dv) : EvD U (tOp (rNGet U.w) (tVar i) ta) E dv := fun H0 σ H S Q q => by
  obtain ⟨w, hw, ⟨a, xs, rfl, ha, nb, nk⟩, _⟩ := S.sl i _ h
  refine ⟨_, hw, ht H0 σ H S _ fun x H1 s x1 i1 p1 n1 => ?_⟩
  subst p1
  obtain ⟨c, rfl⟩ := dt_ref n1.1
  exact ⟨a, c, _, xs, kvs, v, rfl, rfl, n1.1, hk, x1.1 a _ ha nb, nk.kp x1.kp, nk.mem hm, q v H1 _ x1 i1 rfl (.dat (hv H1))⟩
theorem d_putN {tv : TE} {v : V} {dv : Dt} (h : E[i]? = some (some (.on kvs))) (hte : EvD U tv E dv) (ht : EvD U ta E (.tup ds)) (hk : keyB 8 (.tup ds) = true) (hn : Dt.tup ds ∉ kvs.map (·.1)) (hv : ∀ H y, DT H y dv → y = v) (hl : kvs.length < 1000000)
    (k : G.nx (E.set i (some (.on (kvs ++ [(Dt.tup ds, v)]))))) : DS U (sNPut U.w (tVar i) ta tv) E G := fun D H0 σ H S F => hte H0 σ H S _ fun y H1 s x1 i1 p1 n1 => by
  subst p1
  obtain rfl := hv H1 y n1.1
  have S1 := S.go x1 i1
  obtain ⟨w, hw, ⟨a, xs, rfl, ha, nb, nk⟩, _⟩ := S1.sl i _ h
  refine ⟨_, hw, ht H0 σ H1 S1 _ fun x H2 s x2 i2 p2 n2 => ?_⟩
  subst p2
  obtain ⟨c, rfl⟩ := dt_ref n2.1
  have ha2 := x2.1 a _ ha nb
  have nk2 := nk.kp x2.kp
  have hno : hasN xs (nkOf (.tup ds)) = false := by
    cases e : hasN xs (nkOf (.tup ds)) with
    | false => rfl
    | true => exact absurd ((nk.has hk).mp e) hn
  have e2 : putN xs (nkOf (.tup ds)) c y = xs ++ [(nkOf (.tup ds), c, y)] := by
    unfold putN
    rw [hno, if_neg (by decide)]
  refine ⟨a, c, _, xs, kvs, rfl, rfl, n2.1, hk, ha2, nk2, fun e he ek => ?_, by rw [nk.len]; exact Nat.lt_of_lt_of_le hl (by decide), ?_⟩
  · unfold hasN at hno
    rw [List.any_eq_false] at hno
    exact absurd (decide_eq_true ek) (hno e he)
  · rw [e2]
    refine F.nx _ _ _ k ((S1.go x2 i2).turnO h rfl rfl hw ha2 rfl nb (by first | exact .b rfl | exact ord_nd) fun H' kp h1 h2 => ⟨a, _, rfl, h1, h2, ?_⟩)
    exact (nk2.snoc hk n2.1).kp kp
theorem e_newN : EvP U (tNNew U.w) E (· = .on []) := fun H0 σ H S Q q p np =>
  q _ _ _ (.of (same_new np)) (U.ex _ _ S.inv (same_new np)) rfl ⟨⟨p, [], rfl, upd_same, U.nw _ _ _ S.inv np (by first | exact .b rfl | exact ord_nd), .nil⟩, fun _ a e => by cases e; exact np⟩
theorem own_on {kvs : List (Dt × V)} : ∀ s : Sl, s = .on kvs → s.mut = true → s.own = true := fun s e => by rw [e]; exact fun _ => rfl
theorem e_oneN {tv : TE} {v : V} {dv : Dt} (ht : EvD U ta E (.tup ds)) (hte : EvD U tv E dv) (hk : keyB 8 (.tup ds) = true) (hv : ∀ H y, DT H y dv → y = v) : EvP U (tNOne U.w ta tv) E (· = .on [(.tup ds, v)]) := fun H0 σ H S Q q p np => by
  have sm : Same H (upd H p (NDictO U.w p [])) := same_new np
  have nbp : ¬ U.bad p (NDictO U.w p []) := U.nw _ _ _ S.inv np (by first | exact .b rfl | exact ord_nd)
  refine ht H0 σ _ (S.same sm) _ fun x H1 s x1 i1 p1 n1 => hte H0 σ H1 ((S.same sm).go x1 i1) _ fun y H2 t x2 i2 p2 n2 => ?_
  subst p1 p2
  obtain rfl := hv H2 y n2.1
  obtain ⟨c, rfl⟩ := dt_ref n1.1
  have xx := x1.trans x2
  have hp : H2 p = some (NDictO U.w p []) := xx.1 p _ upd_same nbp
  have hd : DT H2 (.ref c) (.tup ds) := n1.1.kp x2.kp
  refine ⟨c, _, rfl, hd, hk, hp, q _ _ _ ⟨fun b o e n => ?_, fun b e => ?_⟩ (U.st _ _ _ _ i2 hp rfl nbp (by first | exact .b rfl | exact ord_nd)) rfl ⟨⟨p, _, rfl, upd_same, U.sb _ _ _ _ i2 hp nbp (by first | exact .b rfl | exact ord_nd), .cons hk (hd.kp fun b o e t => ?_) .nil⟩, fun _ a e => by cases e; exact np⟩⟩
  · rw [upd_ne (ne_of_none e np)]
    exact xx.1 b o (sm b o e) n
  · rw [upd_ne (fun z => e (by rw [z]; exact np))]
    exact xx.2 b (same_some sm e)
  · rw [upd_ne (fun z => by rw [z, hp] at e; cases e; cases t)]
    exact e
theorem e_lstN (h : E[i]? = some (some (.on kvs))) : EvP U (tCB (rKeysN U.w) (tCons (tVar i) tNil)) E (· = .ol (kvs.map (·.1))) := fun H0 σ H S Q q => by
  obtain ⟨w, hw, ⟨a, xs, rfl, ha, nb, nk⟩, _⟩ := S.sl i _ h
  exact ⟨_, hw, a, xs, kvs, rfl, ha, nk, fun p np => Post.newL q rfl S.inv nk.refs np⟩
/-- a dict by the items of what is walked, each value True -/
theorem e_dcN {wi : TI} {g : TG} {tk tv : TE} {vs : List Nat} {P : List Dt → Prop} {v : V} {dv : Dt} (I : List Dt → Nat → List Dt → Prop) (hi : IterP U wi E P) (h0 : ∀ ds, P ds → I ds 0 [] ∧ ds.length ≤ 1000000) (hv : ∀ H y, DT H y dv → y = v)
    (hs : ∀ (ds : List Dt) (i : Nat) (d : Dt) (acc : List Dt), P ds → ds[i]? = some d → I ds i acc → ∃ E'' js es, GD U g d (wipeE E vs) E'' js ∧ (∀ j ∈ js, j ∈ vs) ∧ EvD U tk E'' (.tup es) ∧ keyB 8 (.tup es) = true ∧ EvD U tv E'' dv ∧ (Dt.tup es ∈ acc → I ds (i + 1) acc) ∧ (Dt.tup es ∉ acc → I ds (i + 1) (acc ++ [.tup es]))) :
    EvP U (tDcN U.w wi g tk tv vs) E (fun s => ∃ acc, s = .on (acc.map fun d => (d, v)) ∧ ∃ ds, P ds ∧ I ds ds.length acc) := fun H0 σ H S Q q =>
  hi H0 σ H S _ fun J H1 fp Gw Y ds p x1 i1 w hfp hG hY => fun Dl nD => by
    have S1 := S.go x1 i1
    obtain ⟨g0, hlen⟩ := h0 ds p
    have SB := (S1.rb).wipe vs
    have nDn : ∀ c o, H1 c = some o → c ≠ Dl := fun c o e => ne_of_none e nD
    have sm0 : Same H1 (upd H1 Dl (NDictO U.w Dl [])) := same_new nD
    let Inv0 : Nat → Hp → Prop := fun i H' => ∃ acc xs, I ds i acc ∧ acc.length ≤ i ∧ H' Dl = some (NDictO U.w Dl xs) ∧ ¬ U.bad Dl (NDictO U.w Dl xs) ∧ NKs H' (acc.map fun d => (d, v)) xs ∧ SD U (rb E σ H1) (wipeE E vs) (wipe σ vs) H' ∧ (∀ a o, H1 a = some o → ¬ U.bad a o → H' a = some o) ∧ (∀ a, H1 a ≠ none → H' a ≠ none)
    have first : Inv0 0 (upd H1 Dl (NDictO U.w Dl [])) := ⟨[], [], g0, Nat.le_refl _, upd_same, U.nw _ _ _ S1.inv nD (by first | exact .b rfl | exact ord_nd), .nil, SB.same sm0, fun a o e _ => sm0 a o e, fun a e => same_some sm0 e⟩
    refine ⟨fun i m H' => m = ds.length - i ∧ i ≤ ds.length ∧ Inv0 i H', ⟨ds.length, rfl, Nat.zero_le _, first⟩, ?_⟩
    rintro i m H' ⟨rfl, hle, acc, xs, hI, hl, hD, nb, nk, T, k1, k2⟩
    have hG' : Gw H' := hG H' fun a ha => by
      obtain ⟨o, h1, h2, _⟩ := hfp a ha
      rw [h1]
      exact k1 a o h1 h2
    by_cases hlt : i < ds.length
    · refine .inr ⟨w.goes i H' hlt hG', fun H'' => Inv0 (i + 1) H'', fun H'' z => ⟨ds.length - (i + 1), by omega, rfl, hlt, z⟩, fun x H'' y => ?_⟩
      have yl := w.yields i H' x H'' hlt hG' y
      obtain ⟨d, h1, h2, h3⟩ := hY i H' x H'' hG' (fun a o e ti => k1 a o e fun b => by have q := U.nb _ _ b; rw [ti] at q; cases q) hlt yl
      obtain ⟨E'', js, es, g1, g2, g3, g4, g5, g6, g7⟩ := hs ds i d acc p h1 hI
      refine g1 _ _ H'' x (T.same h2) h3 _ fun σ2 H2 x2 S2 o2 => ⟨o2.wipe g2, g3 _ σ2 H2 S2 _ fun y H3 s3 x3 i3 p3 n3 => g5 _ σ2 H3 (S2.go x3 i3) _ fun z H4 s4 x4 i4 p4 n4 => ?_⟩
      subst p3 p4
      obtain rfl := hv H4 z n4.1
      obtain ⟨c, rfl⟩ := dt_ref n3.1
      have x04 : Xt U H' H4 := (((Xt.of h2).trans x2).trans x3).trans x4
      have hD4 := x04.1 Dl _ hD nb
      have nk4 := nk.kp x04.kp
      have hd4 : DT H4 (.ref c) (.tup es) := n3.1.kp x4.kp
      have T4 := (((T.same h2).go x2 S2.inv).go x3 i3).go x4 i4
      have keep : ∀ xs', Kp H4 (upd H4 Dl (NDictO U.w Dl xs')) := fun xs' c o e t => by
        rw [upd_ne (fun z => by rw [z, hD4] at e; cases e; cases t)]
        exact e
      have nbx : ∀ xs', ¬ U.bad Dl (NDictO U.w Dl xs') := fun xs' => U.sb _ _ _ _ i4 hD4 nb (by first | exact .b rfl | exact ord_nd)
      have tail : ∀ acc' xs', I ds (i + 1) acc' → acc'.length ≤ i + 1 → NKs H4 (acc'.map fun d => (d, z)) xs' → Inv0 (i + 1) (upd H4 Dl (NDictO U.w Dl xs')) := fun acc' xs' e1 e2 e3 => by
        refine ⟨acc', xs', e1, e2, upd_same, nbx xs', e3.kp (keep xs'), ?_, fun a o e n => ?_, fun a e => ?_⟩
        · have Tx := T4
          refine ⟨Tx.len, ⟨fun c o e n => ?_, fun c e => ?_⟩, U.st _ _ _ _ i4 hD4 rfl nb (by first | exact .b rfl | exact ord_nd), fun j s e => ?_, Tx.sep⟩
          · have hc : c ≠ Dl := fun h => by
              unfold K13.rb at e
              split at e
              · exact nDn c o e h
              · cases e
            rw [upd_ne hc]
            exact Tx.xt.1 c o e n
          · have hc : c ≠ Dl := fun h => by
              unfold K13.rb at e
              split at e
              · exact e (by rw [h]; exact nD)
              · exact e rfl
            rw [upd_ne hc]
            exact Tx.xt.2 c e
          · obtain ⟨u, f1, f2, f3⟩ := Tx.sl j s e
            refine ⟨u, f1, ?_, f3⟩
            -- what a slot holds is not the new dict
            obtain ⟨u0, e1', f4, _⟩ := SB.sl j s e
            rw [f1] at e1'
            cases e1'
            have off : s.mut = true → u ≠ .ref Dl := fun m z => by
              obtain ⟨a, o, ea, ha, _⟩ := f4.at_ m
              rw [z] at ea
              cases ea
              rw [nD] at ha
              cases ha
            cases s with
            | dat d => exact DT.kp (keep xs') f2
            | rl _ =>
              obtain ⟨b, zs, eb, h1, h2, h3⟩ := f2
              exact ⟨b, zs, eb, by rw [upd_ne (fun z => off rfl (by rw [eb, z]))]; exact h1, h2, h3.kp (keep xs')⟩
            | ra _ _ =>
              obtain ⟨b, zs, eb, h1, h2, h3⟩ := f2
              exact ⟨b, zs, eb, by rw [upd_ne (fun z => off rfl (by rw [eb, z]))]; exact h1, h2, h3.1.kp (keep xs'), h3.2⟩
            | ol _ =>
              obtain ⟨b, zs, eb, h1, h2, h3⟩ := f2
              exact ⟨b, zs, eb, by rw [upd_ne (fun z => off rfl (by rw [eb, z]))]; exact h1, h2, h3.kp (keep xs')⟩
            | oi _ =>
              obtain ⟨b, eb, h1, h2⟩ := f2
              exact ⟨b, eb, by rw [upd_ne (fun z => off rfl (by rw [eb, z]))]; exact h1, h2⟩
            | on _ =>
              obtain ⟨b, zs, eb, h1, h2, h3⟩ := f2
              exact ⟨b, zs, eb, by rw [upd_ne (fun z => off rfl (by rw [eb, z]))]; exact h1, h2, h3.kp (keep xs')⟩
        · rw [upd_ne (nDn a o e)]
          exact x04.1 a o (k1 a o e n) n
        · rw [upd_ne (fun z => e (by rw [z]; exact nD))]
          exact x04.2 a (k2 a e)
      refine ⟨c, _, xs, _, rfl, hd4, g4, hD4, nk4, fun e he _ => nk4.all (Pv := (· = z)) (fun p hp => by obtain ⟨d, _, rfl⟩ := List.mem_map.mp hp; rfl) e he, by rw [nk4.len, List.length_map]; exact Nat.lt_of_le_of_lt (Nat.le_trans hl (Nat.le_of_lt (Nat.lt_of_lt_of_le hlt hlen))) (by decide), ?_⟩
      by_cases hm : Dt.tup es ∈ acc
      · have hh : hasN xs (nkOf (.tup es)) = true := (nk4.has g4).mpr (by rw [List.map_map]; exact List.mem_map.mpr ⟨_, hm, rfl⟩)
        have e2 : putN xs (nkOf (.tup es)) c z = xs := by unfold putN; rw [if_pos hh]
        rw [e2]
        exact tail acc xs (g6 hm) (Nat.le_succ_of_le hl) nk4
      · have hh : hasN xs (nkOf (.tup es)) = false := by
          cases e : hasN xs (nkOf (.tup es)) with
          | false => rfl
          | true =>
            have q := (nk4.has g4).mp e
            rw [List.map_map] at q
            obtain ⟨d', hd', ed⟩ := List.mem_map.mp q
            exact absurd (ed ▸ hd' : Dt.tup es ∈ acc) hm
        have e2 : putN xs (nkOf (.tup es)) c z = xs ++ [(nkOf (.tup es), c, z)] := by unfold putN; rw [hh, if_neg (by decide)]
        rw [e2]
        refine tail (acc ++ [.tup es]) _ (g7 hm) (by rw [List.length_append]; exact Nat.add_le_add_right hl 1) ?_
        rw [List.map_append]
        exact nk4.snoc g4 hd4
    · have he : i = ds.length := by omega
      subst he
      refine .inl ⟨w.stops H' hG', q _ H' _ (x1.trans ⟨k1, k2⟩) T.inv ⟨acc, rfl, ds, p, hI⟩ ⟨⟨Dl, xs, rfl, hD, nb, nk⟩, fun _ a e => by cases e; exact x1.free nD⟩⟩
end
/-! ### dicts by ints -/
section
variable {ta : TE} {i : Nat} {kvs : List (Int × V)} {b : Bool} {n : Int}
theorem ik_val : ∀ kvs : List (Int × V), (valV (ikeys kvs) (.inl n)).isSome = true ↔ n ∈ kvs.map (·.1)
  | [] => by simp [ikeys, valV]
  | p :: r => by
    have ih := ik_val r
    unfold ikeys valV at *
    rw [List.map_cons, List.find?_cons, List.map_cons, List.mem_cons]
    by_cases e : p.1 = n
    · simp [e]
    · have e2 : (Sum.inl p.1 : Key) ≠ Sum.inl n := fun z => e (by cases z; rfl)
      simp only [e2, decide_false]
      rw [ih]
      constructor
      · exact .inr
      · rintro (z | z)
        · exact absurd z.symm e
        · exact z
theorem e_inI (h : E[i]? = some (some (.oi kvs))) (ht : EvD U ta E (.int n)) (hb : b = true ↔ n ∈ kvs.map (·.1)) : EvD U (tDIn ta (tVar i)) E (.bl b) := fun H0 σ H S Q q => ht H0 σ H S _ fun x H1 s x1 i1 p1 n1 => by
  subst p1
  obtain ⟨v, hv, ⟨a, rfl, ha, nb⟩, _⟩ := (S.go x1 i1).sl i _ h
  refine ⟨_, hv, a, valV (ikeys kvs) (.inl n), rfl, ?_, ?_⟩
  · rw [DT.int_inv n1.1]
    exact .k (k := .inl n) ha
  · have e : (valV (ikeys kvs) (.inl n)).isSome = b := by rw [Bool.eq_iff_iff, ik_val, hb]
    rw [e]
    exact q _ H1 _ x1 i1 rfl (.dat (.bl _))
theorem e_notInI (h : E[i]? = some (some (.oi kvs))) (ht : EvD U ta E (.int n)) (hb : b = true ↔ n ∈ kvs.map (·.1)) : EvD U (tDNotIn ta (tVar i)) E (.bl (!b)) := fun H0 σ H S Q q => ht H0 σ H S _ fun x H1 s x1 i1 p1 n1 => by
  subst p1
  obtain ⟨v, hv, ⟨a, rfl, ha, nb⟩, _⟩ := (S.go x1 i1).sl i _ h
  refine ⟨_, hv, a, valV (ikeys kvs) (.inl n), rfl, ?_, ?_⟩
  · rw [DT.int_inv n1.1]
    exact .k (k := .inl n) ha
  · have e : (valV (ikeys kvs) (.inl n)).isSome = b := by rw [Bool.eq_iff_iff, ik_val, hb]
    rw [e]
    exact q _ H1 _ x1 i1 rfl (.dat (.bl _))
theorem ik_put {v : V} (hn : n ∉ kvs.map (·.1)) : putK (ikeys kvs) (.inl n) v = ikeys (kvs ++ [(n, v)]) := by
  have e : valV (ikeys kvs) (.inl n) = none := by
    cases q : valV (ikeys kvs) (.inl n) with
    | none => rfl
    | some _ => exact absurd (ik_val kvs |>.mp (by rw [q]; rfl)) hn
  rw [putK_new v e]
  unfold ikeys
  rw [List.map_append]
  rfl
theorem d_putI {tv : TE} {v : V} {dv : Dt} (h : E[i]? = some (some (.oi kvs))) (hte : EvD U tv E dv) (ht : EvD U ta E (.int n)) (hn : n ∉ kvs.map (·.1)) (hv : ∀ H y, DT H y dv → y = v) (hl : kvs.length < 1000000)
    (k : G.nx (E.set i (some (.oi (kvs ++ [(n, v)]))))) : DS U (sDPut (tVar i) ta tv) E G := fun D H0 σ H S F => hte H0 σ H S _ fun y H1 s x1 i1 p1 n1 => by
  subst p1
  obtain rfl := hv H1 y n1.1
  have S1 := S.go x1 i1
  obtain ⟨w, hw, ⟨a, rfl, ha, nb⟩, _⟩ := S1.sl i _ h
  refine ⟨_, hw, ht H0 σ H1 S1 _ fun x H2 s x2 i2 p2 n2 => ?_⟩
  subst p2
  have ha2 := x2.1 a _ ha nb
  rw [DT.int_inv n2.1]
  refine ⟨a, _, rfl, .k (k := .inl n) ha2 (by unfold ikeys; rw [List.length_map]; exact Nat.lt_of_lt_of_le hl (by decide)), ?_⟩
  rw [ik_put hn]
  exact F.nx _ _ _ k ((S1.go x2 i2).turnO h rfl rfl hw ha2 rfl nb (by first | exact .b rfl | exact ord_nd) fun H' kp h1 h2 => ⟨a, rfl, h1, h2⟩)
theorem own_oi {kvs : List (Int × V)} : ∀ s : Sl, s = .oi kvs → s.mut = true → s.own = true := fun s e => by rw [e]; exact fun _ => rfl
theorem e_oneI {tv : TE} {v : V} {dv : Dt} (ht : EvD U ta E (.int n)) (hte : EvD U tv E dv) (hv : ∀ H y, DT H y dv → y = v) : EvP U (tDisp [(ta, tv)]) E (· = .oi [(n, v)]) := fun H0 σ H S Q q p np => by
  have sm : Same H (upd H p (.dK [])) := same_new np
  have nbp : ¬ U.bad p (.dK []) := U.nw _ _ _ S.inv np (by first | exact .b rfl | exact ord_nd)
  refine ht H0 σ _ (S.same sm) _ fun x H1 s x1 i1 p1 n1 => hte H0 σ H1 ((S.same sm).go x1 i1) _ fun y H2 t x2 i2 p2 n2 => ?_
  subst p1 p2
  obtain rfl := hv H2 y n2.1
  have xx := x1.trans x2
  have hp : H2 p = some (.dK []) := xx.1 p _ upd_same nbp
  refine ⟨hp, [(.inl n, y)], by rw [DT.int_inv n1.1]; rfl, (by show 1 ≤ 15; decide), q _ _ _ ⟨fun b o e m => ?_, fun b e => ?_⟩ (U.st _ _ _ _ i2 hp rfl nbp (by first | exact .b rfl | exact ord_nd)) rfl ⟨⟨p, rfl, upd_same, U.sb _ _ _ _ i2 hp nbp (by first | exact .b rfl | exact ord_nd)⟩, fun _ a e => by cases e; exact np⟩⟩
  · rw [upd_ne (ne_of_none e np)]
    exact xx.1 b o (sm b o e) m
  · rw [upd_ne (fun z => e (by rw [z]; exact np))]
    exact xx.2 b (same_some sm e)
end
end
end K13
end
section
set_option Elab.async false
set_option linter.all false
set_option maxRecDepth 100000
set_option maxHeartbeats 4000000
set_option autoImplicit false
/-! data-level reasoning: a dict by ints from a comprehension; rooms -/
namespace K13
open PySem PySem.Spec PyProof.Rows L2
section
variable {U : Vol} {E : DEnv} {G : DE}
theorem SD.extO {H0 H : Hp} {σ : Sg} {a : Addr} {s : Sl} {o : HO} (S : SD U H0 E σ H) (n : H a = none) (ntb : Ord o) (hold : ∀ H', Same H H' → H' a = some o → ¬ U.bad a o → Hold U H' (.ref a) s) : SD U H0 (E ++ [some s]) (σ ++ [some (.ref a)]) (upd H a o) := by
  have sm : Same H (upd H a o) := same_new n
  have S' := S.same sm
  have n0 := S.xt.free n
  have off : ∀ {i : Nat} {t : Sl}, E[i]? = some (some t) → t.mut = true → σ[i]? ≠ some (some (.ref a)) := fun {i t} e m z => by
    obtain ⟨v, h1, h2, _⟩ := S.sl i t e
    rw [z] at h1
    cases h1
    obtain ⟨b, u, eb, hb, _⟩ := h2.at_ m
    cases eb
    rw [n] at hb
    cases hb
  have get : ∀ {i : Nat} {t : Sl}, (E ++ [some s])[i]? = some (some t) → (i < E.length ∧ E[i]? = some (some t)) ∨ (i = E.length ∧ t = s) := fun {i t} e => by
    by_cases hi : i < E.length
    · rw [List.getElem?_append_left hi] at e
      exact .inl ⟨hi, e⟩
    · rw [List.getElem?_append_right (by omega)] at e
      have z : i - E.length = 0 := by
        cases q : i - E.length with
        | zero => rfl
        | succ m => rw [q] at e; simp at e
      rw [z] at e
      exact .inr ⟨by omega, by simpa using e.symm⟩
  refine ⟨by rw [List.length_append, List.length_append, S.len]; rfl, S'.xt, S'.inv, fun i t e => ?_, fun i j t u v ne e1 e2 q m e3 e4 => ?_⟩
  · rcases get e with ⟨hi, e⟩ | ⟨hi, e⟩
    · obtain ⟨v, h1, h2⟩ := S'.sl i t e
      exact ⟨v, by rw [List.getElem?_append_left (by rw [← S.len]; exact hi)]; exact h1, h2⟩
    · subst e
      exact ⟨.ref a, by rw [hi, S.len, List.getElem?_append_right (Nat.le_refl _)]; simp, hold _ sm upd_same (U.nw _ _ _ S.inv n ntb), fun _ b e => by cases e; exact n0⟩
  · rcases get e1 with ⟨hi, e1⟩ | ⟨hi, e1⟩
    · rw [List.getElem?_append_left (by rw [← S.len]; exact hi)] at e3
      rcases get e2 with ⟨hj, e2⟩ | ⟨hj, e2⟩
      · rw [List.getElem?_append_left (by rw [← S.len]; exact hj)] at e4
        exact S.sep i j t u v ne e1 e2 q m e3 e4
      · rw [hj, S.len, List.getElem?_append_right (Nat.le_refl _)] at e4
        have e4 : V.ref a = v := by simpa using e4
        subst e4
        exact off e1 (own_mut q) e3
    · rw [hi, S.len, List.getElem?_append_right (Nat.le_refl _)] at e3
      have e3 : V.ref a = v := by simpa using e3
      subst e3
      rcases get e2 with ⟨hj, e2⟩ | ⟨hj, e2⟩
      · rw [List.getElem?_append_left (by rw [← S.len]; exact hj)] at e4
        exact off e2 m e4
      · exact ne (hi.trans hj.symm)
theorem ik_len (kvs : List (Int × V)) : (ikeys kvs).length = kvs.length := by unfold ikeys; rw [List.length_map]
theorem ik_same {n : Int} {v : V} : ∀ {kvs : List (Int × V)}, n ∈ kvs.map (·.1) → (∀ p ∈ kvs, p.2 = v) → putK (ikeys kvs) (.inl n) v = ikeys kvs := fun {kvs} hn hv => by
  have e : ((ikeys kvs).any fun kv => decide (kv.1 = Sum.inl n)) = true := by
    obtain ⟨p, hp, rfl⟩ := List.mem_map.mp hn
    exact List.any_eq_true.mpr ⟨_, List.mem_map.mpr ⟨p, hp, rfl⟩, by simp⟩
  unfold putK
  rw [if_pos e]
  have f : ∀ kv ∈ ikeys kvs, (if kv.1 = (Sum.inl n : Key) then (kv.1, v) else kv) = kv := fun kv hkv => by
    obtain ⟨p, hp, rfl⟩ := List.mem_map.mp hkv
    by_cases z : (Sum.inl p.1 : Key) = Sum.inl n
    · rw [if_pos z, hv p hp]
    · rw [if_neg z]
  rw [List.map_congr_left f, List.map_id']
/-- a dict by ints from the items of what is walked -/
theorem e_dcI {wi : TI} {g : TG} {tk tv : TE} {vs : List Nat} {P : List Dt → Prop} {v : V} {dv : Dt} (I : List Dt → Nat → List Int → Prop) (hi : IterP U wi E P) (h0 : ∀ ds, P ds → I ds 0 [] ∧ ds.length ≤ 1000000) (hv : ∀ H y, DT H y dv → y = v)
    (hs : ∀ (ds : List Dt) (i : Nat) (d : Dt) (acc : List Int), P ds → ds[i]? = some d → I ds i acc → ∃ E'' js n, GD U g d (wipeE E vs) E'' js ∧ (∀ j ∈ js, j ∈ vs) ∧ EvD U tk E'' (.int n) ∧ EvD U tv E'' dv ∧ (n ∈ acc → I ds (i + 1) acc) ∧ (n ∉ acc → I ds (i + 1) (acc ++ [n]))) :
    EvP U (tDc wi g tYes tk tv vs) E (fun s => ∃ acc, s = .oi (acc.map fun d => (d, v)) ∧ ∃ ds, P ds ∧ I ds ds.length acc) := fun H0 σ H S Q q =>
  hi H0 σ H S _ fun J H1 fp Gw Y ds p x1 i1 w hfp hG hY => fun Dl nD => by
    have S1 := S.go x1 i1
    obtain ⟨g0, hlen⟩ := h0 ds p
    have SB := (S1.rb).wipe vs
    have nDn : ∀ c o, H1 c = some o → c ≠ Dl := fun c o e => ne_of_none e nD
    have kmap : ∀ acc : List Int, (acc.map fun d => (d, v)).map (·.1) = acc := fun acc => by rw [List.map_map]; exact List.map_id' acc
    let Inv0 : Nat → Hp → Prop := fun i H' => ∃ acc, I ds i acc ∧ acc.length ≤ i ∧ SD U (rb E σ H1) (wipeE E vs ++ [some (.oi (acc.map fun d => (d, v)))]) (wipe σ vs ++ [some (.ref Dl)]) H' ∧ (∀ a o, H1 a = some o → ¬ U.bad a o → H' a = some o) ∧ (∀ a, H1 a ≠ none → H' a ≠ none)
    have first : Inv0 0 (upd H1 Dl (.dK [])) := ⟨[], g0, Nat.le_refl _, SB.extO nD (by first | exact .b rfl | exact ord_nd) fun H' _ h1 h2 => ⟨Dl, rfl, h1, h2⟩, fun a o e _ => by rw [upd_ne (nDn a o e)]; exact e, fun a e => by rw [upd_ne (fun z => e (by rw [z]; exact nD))]; exact e⟩
    have last : ∀ {H' : Hp} {acc : List Int}, SD U (rb E σ H1) (wipeE E vs ++ [some (.oi (acc.map fun d => (d, v)))]) (wipe σ vs ++ [some (.ref Dl)]) H' → H' Dl = some (.dK (ikeys (acc.map fun d => (d, v)))) ∧ ¬ U.bad Dl (.dK (ikeys (acc.map fun d => (d, v)))) := fun {H' acc} T => by
      obtain ⟨u, f1, ⟨a, ea, f2, f3⟩, _⟩ := T.sl (wipeE E vs).length (.oi (acc.map fun d => (d, v))) (by rw [List.getElem?_append_right (Nat.le_refl _)]; simp)
      rw [T.pre.len, List.getElem?_append_right (Nat.le_refl _)] at f1
      have e : V.ref Dl = u := by simpa using f1
      rw [ea] at e
      cases e
      exact ⟨f2, f3⟩
    refine ⟨fun i m H' => m = ds.length - i ∧ i ≤ ds.length ∧ Inv0 i H', ⟨ds.length, rfl, Nat.zero_le _, first⟩, ?_⟩
    rintro i m H' ⟨rfl, hle, acc, hI, hl, T, k1, k2⟩
    have hG' : Gw H' := hG H' fun a ha => by
      obtain ⟨o, h1, h2, _⟩ := hfp a ha
      rw [h1]
      exact k1 a o h1 h2
    by_cases hlt : i < ds.length
    · refine .inr ⟨w.goes i H' hlt hG', fun H'' => Inv0 (i + 1) H'', fun H'' z => ⟨ds.length - (i + 1), by omega, rfl, hlt, z⟩, fun x H'' y => ?_⟩
      have yl := w.yields i H' x H'' hlt hG' y
      obtain ⟨d, h1, h2, h3⟩ := hY i H' x H'' hG' (fun a o e ti => k1 a o e fun b => by have q := U.nb _ _ b; rw [ti] at q; cases q) hlt yl
      obtain ⟨E'', js, n, g1, g2, g3, g5, g6, g7⟩ := hs ds i d acc p h1 hI
      have T2 := T.same h2
      refine g1 _ _ H'' x T2.pre h3 _ fun σ2 H2 x2 S2 o2 => ⟨o2.wipe g2, ?_⟩
      unfold tYes
      refine iteT (g3 _ σ2 H2 S2 _ fun y H3 s3 x3 i3 p3 n3 => g5 _ σ2 H3 (S2.go x3 i3) _ fun z H4 s4 x4 i4 p4 n4 => ?_)
      subst p3 p4
      obtain rfl := hv H4 z n4.1
      have x04 : Xt U H' H4 := (((Xt.of h2).trans x2).trans x3).trans x4
      have T4 := ((T2.go x2 S2.inv).go x3 i3).go x4 i4
      obtain ⟨hD4, nb4⟩ := last T4
      have keeps : (∀ a o, H1 a = some o → ¬ U.bad a o → ∀ u, upd H4 Dl u a = some o) ∧ (∀ a, H1 a ≠ none → ∀ u, upd H4 Dl u a ≠ none) := ⟨fun a o e nb u => by rw [upd_ne (nDn a o e)]; exact x04.1 a o (k1 a o e nb) nb, fun a e u => by rw [upd_ne (fun z => e (by rw [z]; exact nD))]; exact x04.2 a (k2 a e)⟩
      refine ⟨_, .inl n, by rw [DT.int_inv n3.1]; rfl, hD4, by rw [ik_len, List.length_map]; exact Nat.lt_of_le_of_lt (Nat.le_trans hl (Nat.le_of_lt (Nat.lt_of_lt_of_le hlt hlen))) (by decide), ?_⟩
      have slot : ∀ acc : List Int, (wipeE E vs ++ [some (Sl.oi (acc.map fun d => (d, z)))])[(wipeE E vs).length]? = some (some (.oi (acc.map fun d => (d, z)))) := fun acc => by rw [List.getElem?_append_right (Nat.le_refl _)]; simp
      have st : (wipe σ vs ++ [some (V.ref Dl)])[(wipeE E vs).length]? = some (some (.ref Dl)) := by rw [T.pre.len, List.getElem?_append_right (Nat.le_refl _)]; simp
      have sets : ∀ acc' : List Int, (wipeE E vs ++ [some (Sl.oi (acc.map fun d => (d, z)))]).set (wipeE E vs).length (some (.oi (acc'.map fun d => (d, z)))) = wipeE E vs ++ [some (.oi (acc'.map fun d => (d, z)))] := fun acc' => by
        rw [List.set_append_right _ _ (Nat.le_refl _)]
        simp
      have turn : ∀ acc' : List Int, SD U (rb E σ H1) (wipeE E vs ++ [some (.oi (acc'.map fun d => (d, z)))]) (wipe σ vs ++ [some (.ref Dl)]) (upd H4 Dl (.dK (ikeys (acc'.map fun d => (d, z))))) := fun acc' => by
        have tt := T4.turnO (s' := .oi (acc'.map fun d => (d, z))) (slot acc) rfl rfl st hD4 rfl nb4 (o' := .dK (ikeys (acc'.map fun d => (d, z)))) (by first | exact .b rfl | exact ord_nd) fun H' _ h1 h2 => ⟨Dl, rfl, h1, h2⟩
        rw [sets acc'] at tt
        exact tt
      by_cases hm : n ∈ acc
      · rw [ik_same (by rw [kmap]; exact hm) (fun p hp => by obtain ⟨d, _, rfl⟩ := List.mem_map.mp hp; rfl)]
        exact ⟨acc, g6 hm, Nat.le_succ_of_le hl, turn acc, fun a o e nb => keeps.1 a o e nb _, fun a e => keeps.2 a e _⟩
      · rw [ik_put (by rw [kmap]; exact hm)]
        have e2 : (acc.map fun d => (d, z)) ++ [(n, z)] = (acc ++ [n]).map fun d => (d, z) := by rw [List.map_append]; rfl
        rw [e2]
        exact ⟨acc ++ [n], g7 hm, by rw [List.length_append]; exact Nat.add_le_add_right hl 1, turn (acc ++ [n]), fun a o e nb => keeps.1 a o e nb _, fun a e => keeps.2 a e _⟩
    · have he : i = ds.length := by omega
      subst he
      obtain ⟨f2, f3⟩ := last T
      exact .inl ⟨w.stops H' hG', q _ H' _ (x1.trans ⟨k1, k2⟩) T.inv ⟨acc, rfl, ds, p, hI⟩ ⟨⟨Dl, rfl, f2, f3⟩, fun _ a e => by cases e; exact x1.free nD⟩⟩
end
end K13
end
section
set_option Elab.async false
set_option linter.all false
set_option maxRecDepth 100000
set_option maxHeartbeats 4000000
set_option autoImplicit false
/-! data-level reasoning: the least of a list by the order of data; the module's names -/
namespace K13
open PySem PySem.Spec PyProof.Rows L2
abbrev dLt (a b : Dt) : Bool := PySem.W.dataLt (pdOf a) (pdOf b)
theorem dLt_irr (a : Dt) : dLt a a = false := PyProof.Rows.lex_irrefl _
theorem dLt_tr {a b c : Dt} (h1 : dLt a b = true) (h2 : dLt b c = true) : dLt a c = true := PyProof.Rows.lex_trans _ _ _ h1 h2
theorem dLt_nt {a b c : Dt} (h : dLt a c = true) : dLt a b = true ∨ dLt b c = true := PyProof.Rows.lex_negTrans _ _ _ h
theorem dMin_spec : ∀ (r : List Dt) (x : Dt), r.foldl (fun a y => if dLt y a then y else a) x ∈ x :: r ∧ ∀ e ∈ x :: r, dLt e (r.foldl (fun a y => if dLt y a then y else a) x) = false
  | [], x => ⟨List.mem_cons_self, fun e he => by rw [List.mem_singleton.mp he]; exact dLt_irr x⟩
  | y :: r, x => by
    rw [List.foldl_cons]
    obtain ⟨i1, i2⟩ := dMin_spec r (if dLt y x then y else x)
    have below : ∀ e, dLt e (if dLt y x then y else x) = false → dLt e (r.foldl (fun a y => if dLt y a then y else a) (if dLt y x then y else x)) = false := fun e h => by
      cases q : dLt e (r.foldl (fun a y => if dLt y a then y else a) (if dLt y x then y else x)) with
      | false => rfl
      | true =>
        rcases dLt_nt (b := if dLt y x then y else x) q with z | z
        · rw [h] at z; cases z
        · rw [i2 _ List.mem_cons_self] at z; cases z
    refine ⟨?_, fun e he => ?_⟩
    · rcases List.mem_cons.mp i1 with e | e
      · rw [e]
        by_cases h : dLt y x = true
        · rw [if_pos h]; exact List.mem_cons_of_mem _ List.mem_cons_self
        · rw [if_neg h]; exact List.mem_cons_self
      · exact List.mem_cons_of_mem _ (List.mem_cons_of_mem _ e)
    · rcases List.mem_cons.mp he with e1 | he
      · rw [e1]
        refine below x ?_
        by_cases h : dLt y x = true
        · rw [if_pos h]
          cases q : dLt x y with
          | false => rfl
          | true =>
            have z := dLt_tr h q
            rw [dLt_irr] at z
            cases z
        · rw [if_neg h]; exact dLt_irr x
      · rcases List.mem_cons.mp he with e1 | he
        · rw [e1]
          refine below y ?_
          by_cases h : dLt y x = true
          · rw [if_pos h]; exact dLt_irr y
          · rw [if_neg h]; simpa using h
        · exact i2 e (List.mem_cons_of_mem _ he)
section
variable {U : Vol} {E : DEnv} {K : PySem.W.Frag}
theorem rc_least {ds : List Dt} {P : Sl → Prop} (hne : ds ≠ []) (hcl : ds.all (cl 9) = true) (hal : ∀ a ∈ ds, ∀ b ∈ ds, PySem.W.alike (pdOf a) (pdOf b) = true) (hnn : ∀ a ∈ ds, a ≠ .non)
    (hP : ∀ d ∈ ds, (∀ e ∈ ds, dLt e d = false) → P (.dat d)) : RC U (rMinD K) [.rl ds] P := fun H vs iv h Q q => by
  obtain ⟨v, rfl, a, xs, rfl, ha, _, hs⟩ := h.one
  cases ds with
  | nil => exact absurd rfl hne
  | cons x r =>
    have hdp := dpAll_of (K := K) (fun h c => dp_of 9 h c) hs hcl
    rw [go_map, List.map_cons] at hdp
    have hmem : ∀ z ∈ pdOf x :: r.map pdOf, ∃ d ∈ x :: r, z = pdOf d := fun z hz => by
      rw [← List.map_cons] at hz
      obtain ⟨d, hd, e⟩ := List.mem_map.mp hz
      exact ⟨d, hd, e.symm⟩
    refine ⟨a, xs, pdOf x, r.map pdOf, rfl, .of ha, hdp, ⟨fun y hy z hz => ?_, fun y hy => ?_⟩, ?_, fun i v hv he => ?_⟩
    · obtain ⟨d, hd, rfl⟩ := hmem y hy
      obtain ⟨e, he, rfl⟩ := hmem z hz
      exact hal d hd e he
    · obtain ⟨d, hd, rfl⟩ := hmem y hy
      have hn := hnn d hd
      have hc := List.all_eq_true.mp hcl d hd
      cases d with
      | non => exact absurd rfl hn
      | obj _ _ => cases hc
      | adr _ => cases hc
      | _ => rw [pdOf]; exact fun z => by cases z
    · have q := (layAll_of (fun d h => lay_of 9 d h) (x :: r) hcl).2
      rw [go_map, List.map_cons] at q
      omega
    · obtain ⟨d, hd, hD⟩ := hs.back hv
      rw [fold_pd (lt := dLt) r x fun _ _ _ _ => rfl, ← List.map_cons, List.getElem?_map, hd] at he
      have he : pdOf d = pdOf _ := Option.some.inj he
      obtain ⟨m1, m2⟩ := dMin_spec r x
      have hdm : d ∈ x :: r := List.mem_of_getElem? hd
      have e1 : d = r.foldl (fun a y => if dLt y a then y else a) x := (eqv_iff 9 d 9 _ (List.all_eq_true.mp hcl d hdm) (List.all_eq_true.mp hcl _ m1)).mp (by rw [he]; exact (eqv_iff 9 _ 9 _ (List.all_eq_true.mp hcl _ m1) (List.all_eq_true.mp hcl _ m1)).mpr rfl)
      rw [← e1] at m2
      exact Post.dat q (hP d hdm m2) iv hD
end
/-- order of lots: numbers; kinds by their numbers -/
theorem tok01 : PyProof.Rows.itemOrd.blt (Sum.inl 0) (Sum.inl 1) = true := by decide +kernel
theorem tok10 : PyProof.Rows.itemOrd.blt (Sum.inl 1) (Sum.inl 0) = false := by decide +kernel
theorem tok00 : PyProof.Rows.lexLt PyProof.Rows.itemOrd (PySem.W.keyToksAll []) (PySem.W.keyToksAll []) = false := PyProof.Rows.lex_irrefl _
theorem dl_ints : ∀ a b : List Nat, PySem.W.alikeAll (pdOf.go (a.map fun (k : Nat) => Dt.int (k : Int))) (pdOf.go (b.map fun (k : Nat) => Dt.int (k : Int))) = true ∧
    PyProof.Rows.lexLt PyProof.Rows.itemOrd (PySem.W.keyToksAll (pdOf.go (a.map fun (k : Nat) => Dt.int (k : Int)))) (PySem.W.keyToksAll (pdOf.go (b.map fun (k : Nat) => Dt.int (k : Int)))) = lexB a b
  | [], [] => ⟨by simp [pdOf.go, PySem.W.alikeAll], tok00⟩
  | [], k :: b => ⟨by simp [pdOf.go, PySem.W.alikeAll], by
    rw [List.map_cons, pdOf.go, PySem.W.toks_all_cons]
    exact (PyProof.Rows.lex_diff (O := PyProof.Rows.itemOrd) (by decide)).trans tok01⟩
  | k :: a, [] => ⟨by simp [pdOf.go, PySem.W.alikeAll], by
    rw [List.map_cons, pdOf.go, PySem.W.toks_all_cons]
    exact (PyProof.Rows.lex_diff (O := PyProof.Rows.itemOrd) (by decide)).trans tok10⟩
  | k :: a, j :: b => by
    obtain ⟨h1, h2⟩ := dl_ints a b
    have al : PySem.W.alike (pdOf (.int (k : Int))) (pdOf (.int (j : Int))) = true := by simp [pdOf, PySem.W.alike]
    rw [List.map_cons, List.map_cons, pdOf.go, pdOf.go]
    refine ⟨by rw [PySem.W.alikeAll, al, h1]; rfl, ?_⟩
    unfold lexB
    by_cases e : k = j
    · subst e
      rw [PySem.W.dataLt_all_yes al (by simp [pdOf, PyData.eqv]), h2]
      simp
    · rw [PySem.W.dataLt_all_no al (by simp [pdOf, PyData.eqv]; omega), pdOf, pdOf, PySem.W.dataLt_int]
      simp only [e, decide_false, Bool.false_and, Bool.or_false]
      rw [Bool.eq_iff_iff, decide_eq_true_eq, decide_eq_true_eq]
      omega
def iLot (a : Lot) : Dt := .tup (a.map fun (k : Nat) => .int (k : Int))
theorem iLot_lt (a b : Lot) : PySem.W.alike (pdOf (iLot a)) (pdOf (iLot b)) = true ∧ dLt (iLot a) (iLot b) = lexB a b := by
  obtain ⟨h1, h2⟩ := dl_ints a b
  refine ⟨by unfold iLot; rw [pdOf, pdOf, PySem.W.alike]; exact h1, ?_⟩
  show PySem.W.dataLt (pdOf (iLot a)) (pdOf (iLot b)) = _
  unfold iLot
  rw [pdOf, pdOf, PySem.W.dataLt_tuple]
  exact h2
/-- the marks and their kinds -/
structure MkOk (mk : Str) (ev : List Str) (m : Nat) : Prop where
  evk : EvOk ev m
  lt : ∀ i j, i < m → j < m → ltS (kd ev i) (kd ev j) = decide (i < j)
  ok : ∀ k, k < m → PyData.strOk (kd ev k) = true
section
variable {mk : Str} {ev : List Str} {m : Nat}
theorem dl_strs (M : MkOk mk ev m) : ∀ a b : List Nat, (∀ k ∈ a, k < m) → (∀ k ∈ b, k < m) → PySem.W.alikeAll (pdOf.go ((a.map (kd ev)).map .str)) (pdOf.go ((b.map (kd ev)).map .str)) = true ∧
    PyProof.Rows.lexLt PyProof.Rows.itemOrd (PySem.W.keyToksAll (pdOf.go ((a.map (kd ev)).map .str))) (PySem.W.keyToksAll (pdOf.go ((b.map (kd ev)).map .str))) = lexB a b
  | [], [], _, _ => ⟨by simp [pdOf.go, PySem.W.alikeAll], tok00⟩
  | [], k :: b, _, _ => ⟨by simp [pdOf.go, PySem.W.alikeAll], by
    rw [List.map_cons, List.map_cons, pdOf.go, PySem.W.toks_all_cons]
    exact (PyProof.Rows.lex_diff (O := PyProof.Rows.itemOrd) (by decide)).trans tok01⟩
  | k :: a, [], _, _ => ⟨by simp [pdOf.go, PySem.W.alikeAll], by
    rw [List.map_cons, List.map_cons, pdOf.go, PySem.W.toks_all_cons]
    exact (PyProof.Rows.lex_diff (O := PyProof.Rows.itemOrd) (by decide)).trans tok10⟩
  | k :: a, j :: b, ha, hb => by
    obtain ⟨h1, h2⟩ := dl_strs M a b (fun x hx => ha x (List.mem_cons_of_mem _ hx)) (fun x hx => hb x (List.mem_cons_of_mem _ hx))
    have hk := ha k List.mem_cons_self
    have hj := hb j List.mem_cons_self
    have al : PySem.W.alike (pdOf (.str (kd ev k))) (pdOf (.str (kd ev j))) = true := by simp [pdOf, PySem.W.alike]
    rw [List.map_cons, List.map_cons, List.map_cons, List.map_cons, pdOf.go, pdOf.go]
    refine ⟨by rw [PySem.W.alikeAll, al, h1]; rfl, ?_⟩
    unfold lexB
    by_cases e : k = j
    · subst e
      rw [PySem.W.dataLt_all_yes al (by simp [pdOf, PyData.eqv]), h2]
      simp
    · have e2 : kd ev k ≠ kd ev j := fun z => e (kd_inj M.evk hk hj z)
      have e3 : PyData.eqv (pdOf (.str (kd ev k))) (pdOf (.str (kd ev j))) = false := by
        rw [pdOf, pdOf, PyData.eqv]
        simpa using e2
      rw [PySem.W.dataLt_all_no al e3, pdOf, pdOf, PySem.W.dataLt_str, lt_lex]
      have q := M.lt k j hk hj
      unfold ltS at q
      rw [q]
      simp only [e, decide_false, Bool.false_and, Bool.or_false]
/-- a lot with a place -/
def lotP (ev : List Str) (a : Lot) (i : Nat) : Dt := .tup [eLot ev a, .int (i : Int)]
theorem lotP_lt (M : MkOk mk ev m) {a b : Lot} (ha : ∀ k ∈ a, k < m) (hb : ∀ k ∈ b, k < m) (i j : Nat) : PySem.W.alike (pdOf (lotP ev a i)) (pdOf (lotP ev b j)) = true ∧ (dLt (lotP ev a i) (lotP ev b j) = false → lexB a b = false) := by
  obtain ⟨h1, h2⟩ := dl_strs M a b ha hb
  have al : PySem.W.alike (pdOf (eLot ev a)) (pdOf (eLot ev b)) = true := by unfold eLot; rw [pdOf, pdOf, PySem.W.alike]; exact h1
  have dl : PySem.W.dataLt (pdOf (eLot ev a)) (pdOf (eLot ev b)) = lexB a b := by unfold eLot; rw [pdOf, pdOf, PySem.W.dataLt_tuple]; exact h2
  refine ⟨?_, fun h => ?_⟩
  · unfold lotP
    rw [pdOf, pdOf, PySem.W.alike]
    simp [pdOf.go, pdOf, PySem.W.alikeAll, PySem.W.alike, al]
  · have h : PySem.W.dataLt (pdOf (lotP ev a i)) (pdOf (lotP ev b j)) = false := h
    unfold lotP at h
    rw [pdOf, pdOf, PySem.W.dataLt_tuple] at h
    simp only [pdOf.go] at h
    cases e : PyData.eqv (pdOf (eLot ev a)) (pdOf (eLot ev b)) with
    | false =>
      rw [PySem.W.dataLt_all_no al e, dl] at h
      exact h
    | true =>
      have z := (PySem.W.toks_eqv _ _ al).1 e
      have q : PySem.W.dataLt (pdOf (eLot ev a)) (pdOf (eLot ev b)) = false := by
        unfold PySem.W.dataLt
        rw [z]
        exact PyProof.Rows.lex_irrefl _
      rw [dl] at q
      exact q
theorem cl_eLot (M : MkOk mk ev m) {a : Lot} (ha : ∀ k ∈ a, k < m) (n : Nat) : cl (n + 1) (eLot ev a) = true := by
  unfold eLot cl
  rw [List.all_map, List.all_map]
  refine List.all_eq_true.mpr fun k hk => ?_
  show cl n (.str (kd ev k)) = true
  have q := M.ok k (ha k hk)
  cases n <;> exact q
theorem cl_eLots (M : MkOk mk ev m) {L : Lots} (hL : ∀ a ∈ L, ∀ k ∈ a, k < m) (n : Nat) : cl (n + 2) (eLots ev L) = true := by
  unfold eLots cl
  rw [List.all_map]
  exact List.all_eq_true.mpr fun a ha => cl_eLot M (hL a ha) n
end
/-! ### the module's names -/
structure Mf (mg : Str → Option Value) : Prop where
  len_ : mg "len" = none
  range_ : mg "range" = none
  list_ : mg "list" = none
  tuple_ : mg "tuple" = none
  sorted_ : mg "sorted" = none
  any_ : mg "any" = none
  all_ : mg "all" = none
  isinstance_ : mg "isinstance" = none
  enumerate_ : mg "enumerate" = none
  zip_ : mg "zip" = none
  min_ : mg "min" = none
  max_ : mg "max" = none
  int_ : mg "int" = none
  bool_ : mg "bool" = none
  str_ : mg "str" = none
  MOST_MARKS : ∃ u, mg "MOST_MARKS" = some u ∧ RelV (.int 5) u
  MOST_SEATS : ∃ u, mg "MOST_SEATS" = some u ∧ RelV (.int 40) u
  MOST_STANDS : ∃ u, mg "MOST_STANDS" = some u ∧ RelV (.int 60) u
  MOST_KNOWN : ∃ u, mg "MOST_KNOWN" = some u ∧ RelV (.int 12) u
  SMALL : ∃ u, mg "SMALL" = some u ∧ RelV (.str "abcdefghijklmnopqrstuvwxyz") u
theorem boot_any_ : bootBuiltins "any" = some (.builtin "any") := by decide +kernel
theorem boot_all_ : bootBuiltins "all" = some (.builtin "all") := by decide +kernel
theorem ru65 {A : Around} {k : Nat} (hr : Room k A) : A.units + 65 < cLine := by have := hr.un; omega
end K13
end
section
set_option Elab.async false
set_option linter.all false
set_option maxRecDepth 100000
set_option maxHeartbeats 4000000
set_option autoImplicit false
/-! data-level reasoning: loops with a state, lots as data -/
namespace K13
open PySem PySem.Spec PyProof.Rows L2
section
variable {U : Vol} {E E' : DEnv} {G : DE} {t u : TS}
theorem EvP.fg {te : TE} {P : Sl → Prop} (h : EvP U te E' P) (f : Fg E E') : EvP U te E P := fun H0 σ H S Q q => h H0 σ H (S.fg f) Q q
theorem EvB.fg {te : TT} {P : Bool → Prop} (h : EvB U te E' P) (f : Fg E E') : EvB U te E P := fun H0 σ H S Q q => h H0 σ H (S.fg f) Q q
/-- while, by a state and a measure -/
theorem d_whileS {α : Type} {c : TT} {tb : TS} (st : Nat → α → Prop) (env : α → DEnv) (n0 : Nat) (x0 : α) (h0 : st n0 x0 ∧ Fg E (env x0))
    (hs : ∀ n x, st n x → ∃ b, EvB U c (env x) (· = b) ∧ (b = true → DS U tb (env x) { G with nx := fun E'' => ∃ n' x', n' < n ∧ st n' x' ∧ Fg E'' (env x'), ct := fun E'' => ∃ n' x', n' < n ∧ st n' x' ∧ Fg E'' (env x'), bk := G.nx }) ∧ (b = false → G.nx (env x))) : DS U (tWhile c tb) E G := fun D H0 σ H S F => by
  refine d_while (U := U) (E := E) (G := { G with nx := fun E' => (∃ n x, st n x ∧ G.nx (env x) ∧ Fg E' (env x)) ∨ G.nx E' }) (fun n E' => ∃ x, st n x ∧ Fg E' (env x)) n0 ⟨x0, h0⟩ (fun n E' ⟨x, h1, h2⟩ => ?_) D H0 σ H S ⟨fun E' σ' H' q T => ?_, F.rt, F.bk, F.ct⟩
  · obtain ⟨b, g1, g2, g3⟩ := hs n x h1
    refine ⟨b, g1.fg h2, fun e => ?_, fun e => .inl ⟨n, x, h1, g3 e, h2⟩⟩
    intro D H0 σ H S F
    refine g2 e D H0 σ H (S.fg h2) ⟨fun E' σ' H' q T => ?_, F.rt, fun E' σ' H' q T => F.bk E' σ' H' (.inr q) T, fun E' σ' H' q T => ?_⟩
    · obtain ⟨n', x', q1, q2, q3⟩ := q
      exact F.nx E' σ' H' ⟨n', q1, x', q2, q3⟩ T
    · obtain ⟨n', x', q1, q2, q3⟩ := q
      exact F.ct E' σ' H' ⟨n', q1, x', q2, q3⟩ T
  · rcases q with ⟨n, x, _, q1, q2⟩ | q
    · exact F.nx _ _ _ q1 (T.fg q2)
    · exact F.nx _ _ _ q T
/-- for, by a state -/
theorem d_forS {α : Type} {wi : TI} {g : TG} {tb : TS} {ds : List Dt} (st : Nat → α → Prop) (env : Nat → α → DEnv) (hi : IterD U wi E ds) (x0 : α) (h0 : st 0 x0 ∧ Fg E (env 0 x0))
    (hs : ∀ (i : Nat) (d : Dt) (x : α), ds[i]? = some d → st i x → ∃ E'' js, GD U g d (env i x) E'' js ∧ DS U tb E'' { G with nx := fun E' => ∃ y, st (i + 1) y ∧ Fg E' (env (i + 1) y), ct := fun E' => ∃ y, st (i + 1) y ∧ Fg E' (env (i + 1) y), bk := G.nx }) (hd : ∀ x, st ds.length x → G.nx (env ds.length x)) : DS U (tFor wi g tb) E G := fun D H0 σ H S F => by
  refine d_for (U := U) (E := E) (G := { G with nx := fun E' => (∃ x, st ds.length x ∧ Fg E' (env ds.length x)) ∨ G.nx E' }) (fun i E' => ∃ x, st i x ∧ Fg E' (env i x)) hi ⟨x0, h0⟩ (fun i d E' h1 ⟨x, h2, h3⟩ => ?_) (fun E' h => .inl h) D H0 σ H S ⟨fun E' σ' H' q T => ?_, F.rt, F.bk, F.ct⟩
  · obtain ⟨E'', js, g1, g2⟩ := hs i d x h1 h2
    refine ⟨E'', js, fun H0 σ H x S hx Q q => g1 H0 σ H x (S.fg h3) hx Q q, fun D H0 σ H S F => g2 D H0 σ H S ⟨F.nx, F.rt, fun E' σ' H' q T => F.bk E' σ' H' (.inr q) T, F.ct⟩⟩
  · rcases q with ⟨x, q1, q2⟩ | q
    · exact F.nx _ _ _ (hd x q1) (T.fg q2)
    · exact F.nx _ _ _ q T
end
section
variable {ev : List Str} {m : Nat}
theorem ValidLot.len {a : Lot} (h : ValidLot m a) : a.length ≤ m := by
  have q := filter_range h.2.1 h.2.2
  rw [← q]
  have z := List.length_filter_le (fun j => decide (j ∈ a)) (List.range m)
  rw [List.length_range] at z
  exact z
theorem eLots_get {L : Lots} {i : Nat} (h : i < L.length) : (L.map (eLot ev))[i]? = some (eLot ev L[i]) := by
  rw [List.getElem?_map, List.getElem?_eq_getElem h]
  rfl
theorem eLots_getD {L : Lots} {i : Nat} (h : i < L.length) : (L.map (eLot ev))[i]? = some (eLot ev (L.getD i [])) := by rw [eLots_get h, getD_at h]
theorem eLots_inv {L : Lots} {i : Nat} {d : Dt} (h : (L.map (eLot ev))[i]? = some d) : i < L.length ∧ d = eLot ev (L.getD i []) := by
  by_cases hi : i < L.length
  · rw [eLots_getD hi] at h
    exact ⟨hi, (Option.some.inj h).symm⟩
  · rw [List.getElem?_eq_none (by rw [List.length_map]; omega)] at h
    cases h
theorem kinds_inv {a : Lot} {i : Nat} {d : Dt} (h : ((a.map (kd ev)).map Dt.str)[i]? = some d) : i < a.length ∧ d = .str (kd ev (a.getD i 0)) := by
  rw [List.getElem?_map, List.getElem?_map] at h
  by_cases hi : i < a.length
  · rw [List.getElem?_eq_getElem hi] at h
    refine ⟨hi, ?_⟩
    rw [List.getD_eq_getElem?_getD, List.getElem?_eq_getElem hi]
    exact (Option.some.inj h).symm
  · rw [List.getElem?_eq_none (by omega)] at h
    cases h
theorem getD_mem {α : Type} {a : List α} {i : Nat} {d : α} (h : i < a.length) : a.getD i d ∈ a := by
  rw [List.getD_eq_getElem?_getD, List.getElem?_eq_getElem h]
  exact List.getElem_mem h
theorem any_getD {α : Type} (a : List α) (d : α) (f : α → Bool) : (List.range a.length).any (fun i => f (a.getD i d)) = a.any f := by
  rw [Bool.eq_iff_iff, List.any_eq_true, List.any_eq_true]
  constructor
  · rintro ⟨i, hi, h⟩
    exact ⟨_, getD_mem (List.mem_range.mp hi), h⟩
  · rintro ⟨x, hx, h⟩
    obtain ⟨i, hi, e⟩ := List.mem_iff_getElem.mp hx
    refine ⟨i, List.mem_range.mpr hi, ?_⟩
    rw [List.getD_eq_getElem?_getD, List.getElem?_eq_getElem hi]
    show f a[i] = true
    rw [e]
    exact h
theorem all_getD {α : Type} (a : List α) (d : α) (f : α → Bool) : (List.range a.length).all (fun i => f (a.getD i d)) = a.all f := by
  rw [Bool.eq_iff_iff, List.all_eq_true, List.all_eq_true]
  constructor
  · intro h x hx
    obtain ⟨i, hi, e⟩ := List.mem_iff_getElem.mp hx
    have q := h i (List.mem_range.mpr hi)
    rw [List.getD_eq_getElem?_getD, List.getElem?_eq_getElem hi] at q
    rw [← e]
    exact q
  · intro h i hi
    exact h _ (getD_mem (List.mem_range.mp hi))
end
section
variable {U : Vol} {E : DEnv}
theorem RP.imp {r : R2} {s t : Sl} {C C' : Sl → Prop} (h : RP U r s t C) (k : ∀ s, C s → C' s) : RP U r s t C' := fun H x y iv hx hy Q q => h H x y iv hx hy Q fun v H' s x i p n => q v H' s x i (k s p) n
theorem e_lcFn {wi : TI} {g : TG} {tt : TT} {te : TE} {vs : List Nat} {ds es : List Dt} {n : Nat} (b : Nat → Bool) (f : Nat → Dt) (hi : IterD U wi E ds) (hn : ds.length = n) (hl : n ≤ 1000000) (he : ((List.range n).filter b).map f = es)
    (hs : ∀ (i : Nat) (d : Dt), ds[i]? = some d → ∃ E'' js, GD U g d (wipeE E vs) E'' js ∧ (∀ j ∈ js, j ∈ vs) ∧ EvB U tt E'' (· = b i) ∧ (b i = true → EvD U te E'' (f i))) : EvP U (tLc wi g tt te vs) E (· = .ol es) := by
  subst hn he
  exact e_lcF b f hi hl hs
theorem e_lcMn {wi : TI} {g : TG} {te : TE} {vs : List Nat} {ds es : List Dt} {n : Nat} (f : Nat → Dt) (hi : IterD U wi E ds) (hn : ds.length = n) (hl : n ≤ 1000000) (he : (List.range n).map f = es)
    (hs : ∀ (i : Nat) (d : Dt), ds[i]? = some d → ∃ E'' js, GD U g d (wipeE E vs) E'' js ∧ (∀ j ∈ js, j ∈ vs) ∧ EvD U te E'' (f i)) : EvP U (tLc wi g tYes te vs) E (· = .ol es) := by
  subst hn he
  exact e_lcM f hi hl hs
theorem rc_lenTn {K : PySem.W.Frag} {ds : List Dt} {n : Nat} (h : ds.length = n) : RC U (rLen K) [.dat (.tup ds)] (· = .dat (.int (n : Int))) := by subst h; exact rc_lenT
theorem rc_lenLn {K : PySem.W.Frag} {ds : List Dt} {n : Nat} (h : ds.length = n) : RC U (rLen K) [.rl ds] (· = .dat (.int (n : Int))) := by subst h; exact rc_lenL
theorem rp_gt {i j : Int} : RP U (rI0 fun i j => .bl (decide (j < i))) (.dat (.int i)) (.dat (.int j)) (· = .dat (.bl (decide (j < i)))) := rp_I0 fun _ => .bl _
theorem rp_lt {i j : Int} : RP U (rI0 fun i j => .bl (decide (i < j))) (.dat (.int i)) (.dat (.int j)) (· = .dat (.bl (decide (i < j)))) := rp_I0 fun _ => .bl _
theorem rp_le {i j : Int} : RP U (rI0 fun i j => .bl (decide (i ≤ j))) (.dat (.int i)) (.dat (.int j)) (· = .dat (.bl (decide (i ≤ j)))) := rp_I0 fun _ => .bl _
theorem rp_add {i j : Int} : RP U (rI0 fun i j => .int (i + j)) (.dat (.int i)) (.dat (.int j)) (· = .dat (.int (i + j))) := rp_I0 fun _ => .int _
theorem rp_sub {i j : Int} : RP U (rI0 fun i j => .int (i - j)) (.dat (.int i)) (.dat (.int j)) (· = .dat (.int (i - j))) := rp_I0 fun _ => .int _
end
/-! ### a block's names -/
def blkB (N : List Str) (sc scope : Scope) (own : List (Str × Nat)) : Bool :=
  (match scope.kind with | .function => true | _ => false) && scope.names.all (fun y => decide (scope.names.lookup y.1 = some y.2)) && own.all (fun p => decide (N[p.2]? = some p.1)) &&
  scope.names.all (fun y => !decide (y.2 = .free) || (decide (sc.names.lookup y.1 = some .cell) || decide (sc.names.lookup y.1 = some .free))) &&
  scope.names.all (fun y => !(decide (y.2 = .local) || decide (y.2 = .cell)) || (decide (y.1 ∈ own.map (·.1)) || !decide (y.1 ∈ N)))
theorem blk_of {N : List Str} {sc scope : Scope} {own : List (Str × Nat)} (h : blkB N sc scope own = true) : BlkOk N sc scope own := by
  unfold blkB at h
  simp only [Bool.and_eq_true, List.all_eq_true, decide_eq_true_eq] at h
  obtain ⟨⟨⟨⟨h1, h2⟩, h3⟩, h4⟩, h5⟩ := h
  refine ⟨?_, h2, h3, fun y hy e => ?_, fun y hy e => ?_⟩
  · cases q : scope.kind with
    | function => rfl
    | _ => rw [q] at h1; cases h1
  · have z := h4 y hy
    simp only [e, decide_true, Bool.not_true, Bool.false_or, Bool.or_eq_true, decide_eq_true_eq] at z
    exact z
  · have z := h5 y hy
    have e2 : (decide (y.2 = NameKind.local) || decide (y.2 = NameKind.cell)) = true := by
      rw [Bool.or_eq_true, decide_eq_true_eq, decide_eq_true_eq]
      exact e
    rw [e2] at z
    simp only [Bool.not_true, Bool.false_or, Bool.or_eq_true, decide_eq_true_eq, Bool.not_eq_true', decide_eq_false_iff_not] at z
    exact z
/-- len of a text, a list, a tuple -/
def rLenV (K : PySem.W.Frag) : List V → Hp → VK → Prop := fun xs H Q => ∃ (x : V) (n : Nat), xs = [x] ∧ LenV K x H n ∧ Q (.int n) H
/-! ### pairs of seats that share somebody -/
def pD (p : Nat × Nat) : Dt := .tup [.int (p.1 : Int), .int (p.2 : Int)]
def rowP (L : Lots) (i : Nat) : List (Nat × Nat) := ((List.range (L.length - (i + 1))).filter fun q => shareB (L.getD i []) (L.getD (i + 1 + q) [])).map fun q => (i, i + 1 + q)
def pairsOf (L : Lots) : List (Nat × Nat) := (List.range L.length).flatMap (rowP L)
theorem pairs_mem {L : Lots} {p : Nat × Nat} : p ∈ pairsOf L ↔ p.1 < p.2 ∧ p.2 < L.length ∧ shareB (L.getD p.1 []) (L.getD p.2 []) = true := by
  unfold pairsOf rowP
  rw [List.mem_flatMap]
  constructor
  · rintro ⟨i, hi, h⟩
    obtain ⟨q, hq, rfl⟩ := List.mem_map.mp h
    rw [List.mem_filter, List.mem_range] at hq
    exact ⟨by show i < i + 1 + q; omega, by show i + 1 + q < _; omega, hq.2⟩
  · rintro ⟨h1, h2, h3⟩
    refine ⟨p.1, List.mem_range.mpr (by omega), List.mem_map.mpr ⟨p.2 - (p.1 + 1), ?_, ?_⟩⟩
    · rw [List.mem_filter, List.mem_range, show p.1 + 1 + (p.2 - (p.1 + 1)) = p.2 by omega]
      exact ⟨by omega, h3⟩
    · rw [show p.1 + 1 + (p.2 - (p.1 + 1)) = p.2 by omega]
theorem rowP_len (L : Lots) (i : Nat) : (rowP L i).length ≤ L.length := by
  unfold rowP
  rw [List.length_map]
  have := List.length_filter_le (fun q => shareB (L.getD i []) (L.getD (i + 1 + q) [])) (List.range (L.length - (i + 1)))
  rw [List.length_range] at this
  omega
theorem flat_len (L : Lots) (n : Nat) : ((List.range n).flatMap (rowP L)).length ≤ n * L.length := by
  induction n with
  | zero => simp
  | succ n ih =>
    rw [List.range_succ, List.flatMap_append, List.length_append, Nat.succ_mul]
    have := rowP_len L n
    simp only [List.flatMap_cons, List.flatMap_nil, List.append_nil]
    omega
theorem bound_iff {L : Lots} {j : Nat} (hj : j < L.length) : boundAt L j = true ↔ ∃ p ∈ pairsOf L, p.2 = j := by
  unfold boundAt
  rw [List.any_eq_true]
  constructor
  · rintro ⟨i, hi, h⟩
    exact ⟨(i, j), pairs_mem.mpr ⟨List.mem_range.mp hi, hj, h⟩, rfl⟩
  · rintro ⟨p, hp, rfl⟩
    obtain ⟨h1, _, h3⟩ := pairs_mem.mp hp
    exact ⟨p.1, List.mem_range.mpr h1, h3⟩
end K13
end
section
set_option Elab.async false
set_option linter.all false
set_option maxRecDepth 100000
set_option maxHeartbeats 4000000
set_option autoImplicit false
/-! rules as data -/
namespace K13
open PySem PySem.Spec PyProof.Rows L2
def eMv (p : Bool × Nat) : Dt := .tup [.bl p.1, .int (p.2 : Int)]
def eRow (r : List (Bool × Nat)) : Dt := .tup (r.map eMv)
def eMoves (M : Moves) : Dt := .tup (M.map eRow)
def iL (cs : List Nat) : List Dt := cs.map fun (k : Nat) => .int (k : Int)
theorem iL_get {cs : List Nat} {i : Nat} (h : i < cs.length) : (iL cs)[i]? = some (.int ((cs.getD i 0 : Nat) : Int)) := by
  unfold iL
  rw [List.getElem?_map, List.getElem?_eq_getElem h, List.getD_eq_getElem?_getD, List.getElem?_eq_getElem h]
  rfl
theorem iL_inv {cs : List Nat} {i : Nat} {d : Dt} (h : (iL cs)[i]? = some d) : i < cs.length ∧ d = .int ((cs.getD i 0 : Nat) : Int) := by
  by_cases hi : i < cs.length
  · rw [iL_get hi] at h
    exact ⟨hi, (Option.some.inj h).symm⟩
  · rw [List.getElem?_eq_none (by unfold iL; rw [List.length_map]; omega)] at h
    cases h
theorem iL_len (cs : List Nat) : (iL cs).length = cs.length := by unfold iL; rw [List.length_map]
theorem iL_int (cs : List Nat) : iL cs = (cs.map fun (k : Nat) => (k : Int)).map .int := by unfold iL; rw [List.map_map]; rfl
section
variable {U : Vol} {E : DEnv} {K : PySem.W.Frag} {M : Moves} {m s k : Nat}
theorem RuleOk.rowLen (h : RuleOk M m) (hs : s < M.length) : (M.getD s []).length = m := by
  rw [List.getD_eq_getElem?_getD, List.getElem?_eq_getElem hs]
  exact (h.row _ (List.getElem_mem hs)).1
theorem row_get (hs : s < M.length) : (M.map eRow)[s]? = some (eRow (M.getD s [])) := by
  rw [List.getElem?_map, List.getElem?_eq_getElem hs, List.getD_eq_getElem?_getD, List.getElem?_eq_getElem hs]
  rfl
theorem mv_get (h : RuleOk M m) (hs : s < M.length) (hk : k < m) : ((M.getD s []).map eMv)[k]? = some (eMv (mvR M s k)) := by
  have hl := h.rowLen hs
  unfold mvR
  rw [List.getElem?_map, List.getElem?_eq_getElem (by omega), List.getD_eq_getElem?_getD (l := M.getD s []), List.getElem?_eq_getElem (by omega : k < (M.getD s []).length)]
  rfl
theorem e_row {tm te : TE} (hm : EvD U tm E (eMoves M)) (he : EvD U te E (.int (s : Int))) (hs : s < M.length) : EvD U (tOp (rIxT K) tm te) E (eRow (M.getD s [])) := e_opD hm he (rp_ixT (row_get hs))
theorem e_mv {tm te tf : TE} (h : RuleOk M m) (hm : EvD U tm E (eMoves M)) (he : EvD U te E (.int (s : Int))) (hf : EvD U tf E (.int (k : Int))) (hs : s < M.length) (hk : k < m) : EvD U (tOp (rIxT K) (tOp (rIxT K) tm te) tf) E (eMv (mvR M s k)) :=
  e_opD (e_row hm he hs) hf (rp_ixT (mv_get h hs hk))
theorem e_flag {tm te tf : TE} (h : RuleOk M m) (hm : EvD U tm E (eMoves M)) (he : EvD U te E (.int (s : Int))) (hf : EvD U tf E (.int (k : Int))) (hs : s < M.length) (hk : k < m) : EvD U (tOp (rIxT K) (tOp (rIxT K) (tOp (rIxT K) tm te) tf) (tC (.int 0))) E (.bl (mvR M s k).1) :=
  e_opD (e_mv h hm he hf hs hk) e_int (rp_ixT (j := 0) rfl)
theorem e_goal {tm te tf : TE} (h : RuleOk M m) (hm : EvD U tm E (eMoves M)) (he : EvD U te E (.int (s : Int))) (hf : EvD U tf E (.int (k : Int))) (hs : s < M.length) (hk : k < m) : EvD U (tOp (rIxT K) (tOp (rIxT K) (tOp (rIxT K) tm te) tf) (tC (.int 1))) E (.int ((mvR M s k).2 : Int)) :=
  e_opD (e_mv h hm he hf hs hk) e_int (rp_ixT (j := 1) rfl)
theorem rl_notOwn {H0 H : Hp} {σ : Sg} {i : Nat} {ds : List Dt} {a : Addr} (S : SD U H0 E σ H) (h : E[i]? = some (some (.rl ds))) (hv : σ[i]? = some (some (.ref a))) : NotOwn E σ a := fun j s e o e2 => by
  by_cases hji : j = i
  · subst hji
    rw [h] at e
    cases e
    cases o
  · exact S.sep j i s _ _ hji e h o rfl e2 hv
/-- zip of two lists that are read -/
theorem i_zipV {i j : Nat} {ds es : List Dt} (h1 : E[i]? = some (some (.rl ds))) (h2 : E[j]? = some (some (.rl es))) : IterD U (RZ.iZipA K (tCons (tVar i) (tCons (tVar j) tNil))) E (zipD ds es) := fun H0 σ H S R k => by
  obtain ⟨u1, v1, ⟨a, xs, rfl, a1, a2, a3⟩, _⟩ := S.sl i _ h1
  obtain ⟨u2, v2, ⟨b, ys, rfl, b1, b2, b3⟩, _⟩ := S.sl j _ h2
  have a4 := rl_notOwn S h1 v1
  have b4 := rl_notOwn S h2 v2
  refine ⟨_, v1, _, v2, a, b, xs, ys, rfl, .inl ⟨.of a1, .of b1, ?_⟩⟩
  have hl : (zipD ds es).length = min xs.length ys.length := by unfold zipD; rw [List.length_zipWith, a3.len, b3.len]
  refine k _ H [a, b] (fun H => SqL K H a xs ∧ SqL K H b ys) (YPair (fun i => xs[i]?) (fun i => ys[i]?)) (zipD ds es) rfl .refl S.inv ?_ (fun c hc => ?_) (fun H' e => ⟨.of (by rw [e a (by simp)]; exact a1), .of (by rw [e b (by simp)]; exact b1)⟩) fun q H' x H'' _ kp hq y => ?_
  · refine ⟨fun i H hi q => ?_, fun H q => ⟨xs, ys, q.1, q.2, by omega⟩, fun i H v H' _ q y => ?_⟩
    · have g1 : i < xs.length := by omega
      have g2 : i < ys.length := by omega
      exact ⟨xs, ys, xs[i], ys[i], q.1, q.2, by simp [g1], by simp [g2]⟩
    · obtain ⟨T, x, z, g1, g2, g3, g4, g5⟩ := y
      exact ⟨T, x, z, g1, g2, g3, g4 xs q.1, g5 ys q.2⟩
  · rcases List.mem_cons.mp hc with e | hc
    · rw [e]; exact ⟨_, a1, a2, a4⟩
    · rw [List.mem_singleton.mp hc]; exact ⟨_, b1, b2, b4⟩
  · obtain ⟨T, u, z, rfl, nT, rfl, f1, f2⟩ := y
    obtain ⟨d, hd, hD⟩ := a3.back f1
    obtain ⟨e, he, hE⟩ := b3.back f2
    have sm : Same H' (upd H' T (.tup [u, z])) := same_new nT
    refine ⟨.tup [d, e], ?_, sm, .tup upd_same (.cons ((hD.kp kp).kp (Xt.of (U := U) sm).kp) (.one ((hE.kp kp).kp (Xt.of (U := U) sm).kp)))⟩
    unfold zipD
    rw [List.getElem?_zipWith, hd, he]
theorem zip_inv {ds es : List Dt} {i : Nat} {d : Dt} (h : (zipD ds es)[i]? = some d) : ∃ a b, ds[i]? = some a ∧ es[i]? = some b ∧ d = .tup [a, b] := by
  unfold zipD at h
  rw [List.getElem?_zipWith] at h
  cases q : ds[i]? with
  | none => rw [q] at h; cases h
  | some a =>
    cases q2 : es[i]? with
    | none => rw [q, q2] at h; cases h
    | some b =>
      rw [q, q2] at h
      exact ⟨a, b, rfl, rfl, (Option.some.inj h).symm⟩
theorem zip_len (ds es : List Dt) : (zipD ds es).length = min ds.length es.length := by unfold zipD; rw [List.length_zipWith]
theorem rp_ninI {x : Int} {l : List Int} : RP U (rIn K true) (.dat (.int x)) (.dat (.tup (l.map .int))) (· = .dat (.bl (!decide (x ∈ l)))) := fun H a b iv ha hb Q q => by
  obtain rfl := DT.int_inv ha
  obtain ⟨p, xs, rfl, hp, hs⟩ := DT.tup_inv hb
  have e := hs.ints
  subst e
  refine ⟨p, _, rfl, .inr (.of hp), rfl, by rw [List.all_map]; exact List.all_eq_true.mpr fun _ _ => rfl, ?_⟩
  have e2 : inV (V.int x) (l.map V.int) = decide (x ∈ l) := by
    unfold inV
    rw [List.any_map, Bool.eq_iff_iff, List.any_eq_true, decide_eq_true_eq]
    constructor
    · rintro ⟨y, hy, z⟩
      have z : (y == x) = true := z
      rw [beq_iff_eq] at z
      rw [← z]
      exact hy
    · intro hx
      exact ⟨x, hx, by show (x == x) = true; rw [beq_self_eq_true]⟩
  show Q (.bl (if true = true then !inV (V.int x) (l.map V.int) else inV (V.int x) (l.map V.int))) H
  rw [if_pos rfl, e2]
  exact Post.dat q rfl iv (.bl _)
end
def oLot : Option Lot → Dt
  | none => .non
  | some a => iLot a
def oCnt : Option (List Nat) → Sl
  | none => .dat .non
  | some cs => .ol (iL cs)
theorem oCnt_own : ∀ (o : Option (List Nat)) (s : Sl), s = oCnt o → s.mut = true → s.own = true
  | none, s, e, z => by rw [e] at z; cases z
  | some cs, s, e, _ => by rw [e]; rfl
theorem countsAt_none {M : Moves} {m s k : Nat} (hk : k < m) (h : cnt M k 13 s = none) : countsAt M m s = none := by
  unfold countsAt
  rw [if_neg]
  intro z
  have q := List.all_eq_true.mp z k (List.mem_range.mpr hk)
  rw [h] at q
  cases q
theorem countsAt_some {M : Moves} {m s : Nat} (h : ∀ k < m, (cnt M k 13 s).isSome = true) : countsAt M m s = some ((List.range m).map fun k => (cnt M k 13 s).getD 0) := by
  unfold countsAt
  rw [if_pos]
  exact List.all_eq_true.mpr fun k hk => h k (List.mem_range.mp hk)
theorem counts_len {M : Moves} {m s : Nat} {cs : List Nat} (h : countsAt M m s = some cs) : cs.length = m := by
  unfold countsAt at h
  split at h
  · cases h
    rw [List.length_map, List.length_range]
  · cases h
theorem range_filter {α β : Type} (ls : List α) (d : α) (p : α → Bool) (g : α → β) : ((List.range ls.length).filter fun i => p (ls.getD i d)).map (fun i => g (ls.getD i d)) = (ls.filter p).map g := by
  have key : ∀ n, n ≤ ls.length → ((List.range n).filter fun i => p (ls.getD i d)).map (fun i => g (ls.getD i d)) = ((ls.take n).filter p).map g := by
    intro n
    induction n with
    | zero => intro _; simp
    | succ n ih =>
      intro hn
      have hl : n < ls.length := hn
      have e : ls.getD n d = ls[n] := by rw [List.getD_eq_getElem?_getD, List.getElem?_eq_getElem hl]; rfl
      rw [List.range_succ, List.filter_append, List.map_append, ih (by omega), List.take_add_one, List.getElem?_eq_getElem hl, List.filter_append, List.map_append]
      congr 1
      show List.map _ (List.filter _ [n]) = List.map g (List.filter p [ls[n]])
      by_cases h : p ls[n] = true
      · rw [List.filter_cons_of_pos (by rw [e]; exact h), List.filter_cons_of_pos h]
        simp [List.getElem?_eq_getElem hl]
      · rw [List.filter_cons_of_neg (by rw [e]; exact h), List.filter_cons_of_neg h]
        rfl
  have q := key ls.length (Nat.le_refl _)
  rw [List.take_length] at q
  exact q
theorem range_map {α β : Type} (ls : List α) (d : α) (g : α → β) : ((List.range ls.length).map fun i => g (ls.getD i d)) = ls.map g := by
  refine List.ext_getElem (by simp) fun i h1 h2 => ?_
  rw [List.length_map] at h2
  rw [List.getElem_map, List.getElem_range, List.getElem_map, List.getD_eq_getElem?_getD, List.getElem?_eq_getElem h2]
  rfl
theorem exists_max : ∀ cs : List Nat, cs ≠ [] → ∃ x ∈ cs, ∀ y ∈ cs, y ≤ x
  | [], h => absurd rfl h
  | [a], _ => ⟨a, List.mem_cons_self, fun y hy => by rw [List.mem_singleton.mp hy]; exact Nat.le_refl _⟩
  | a :: b :: r, _ => by
    obtain ⟨x, h1, h2⟩ := exists_max (b :: r) (fun z => by cases z)
    by_cases h : a ≤ x
    · exact ⟨x, List.mem_cons_of_mem _ h1, fun y hy => by
        rcases List.mem_cons.mp hy with e | hy
        · rw [e]; exact h
        · exact h2 y hy⟩
    · exact ⟨a, List.mem_cons_self, fun y hy => by
        rcases List.mem_cons.mp hy with e | hy
        · rw [e]; exact Nat.le_refl _
        · have := h2 y hy; omega⟩
end K13
end
section
set_option Elab.async false
set_option linter.all false
set_option maxRecDepth 100000
set_option maxHeartbeats 4000000
set_option autoImplicit false
/-! data-level reasoning: a comprehension with two clauses -/
namespace K13
open PySem PySem.Spec PyProof.Rows L2
section
variable {U : Vol} {E : DEnv} {K : PySem.W.Frag}
/-- a list that no slot holds turns -/
theorem SD.off {H0 H : Hp} {σ : Sg} {a : Addr} {xs ys : List V} (S : SD U H0 E σ H) (n0 : H0 a = none) (ha : H a = some (.lst xs)) (nb : ¬ U.bad a (.lst xs)) (off : ∀ (i : Nat) (s : Sl), E[i]? = some (some s) → s.mut = true → σ[i]? ≠ some (some (.ref a))) : SD U H0 E σ (upd H a (.lst ys)) := by
  have kp : Kp H (upd H a (.lst ys)) := fun c u e t => by
    rw [upd_ne (fun z => by rw [z, ha] at e; cases e; cases t)]
    exact e
  refine ⟨S.len, ⟨fun c u e n => ?_, fun c e => ?_⟩, U.st _ _ _ _ S.inv ha rfl nb (by first | exact .b rfl | exact ord_nd), fun j s e => ?_, S.sep⟩
  · rw [upd_ne (ne_of_none e n0)]
    exact S.xt.1 c u e n
  · by_cases hc : c = a
    · rw [hc] at e
      exact absurd n0 e
    · rw [upd_ne hc]
      exact S.xt.2 c e
  · obtain ⟨v, g1, g2, g3⟩ := S.sl j s e
    refine ⟨v, g1, ?_, g3⟩
    have far : s.mut = true → v ≠ .ref a := fun m z => off j s e m (by rw [g1, z])
    cases s with
    | dat d => exact DT.kp kp g2
    | rl _ =>
      obtain ⟨b, zs, eb, f1, f2, f3⟩ := g2
      exact ⟨b, zs, eb, by rw [upd_ne (fun z => far rfl (by rw [eb, z]))]; exact f1, f2, f3.kp kp⟩
    | ra _ _ =>
      obtain ⟨b, zs, eb, f1, f2, f3⟩ := g2
      exact ⟨b, zs, eb, by rw [upd_ne (fun z => far rfl (by rw [eb, z]))]; exact f1, f2, f3.1.kp kp, f3.2⟩
    | ol _ =>
      obtain ⟨b, zs, eb, f1, f2, f3⟩ := g2
      exact ⟨b, zs, eb, by rw [upd_ne (fun z => far rfl (by rw [eb, z]))]; exact f1, f2, f3.kp kp⟩
    | oi _ =>
      obtain ⟨b, eb, f1, f2⟩ := g2
      exact ⟨b, eb, by rw [upd_ne (fun z => far rfl (by rw [eb, z]))]; exact f1, f2⟩
    | on _ =>
      obtain ⟨b, zs, eb, f1, f2, f3⟩ := g2
      exact ⟨b, zs, eb, by rw [upd_ne (fun z => far rfl (by rw [eb, z]))]; exact f1, f2, f3.kp kp⟩
theorem e_lc2 {wi : TI} {tl1 te : TE} {g1 : TG} {vs vs1 : List Nat} {ds : List Dt} {j0 : Nat} (I : Nat → List Dt → Prop) (hi : IterD U wi E ds) (hl : ds.length ≤ 10000) (hj : j0 ∈ vs) (h0 : I 0 [])
    (hs : ∀ (i : Nat) (d : Dt) (acc : List Dt), ds[i]? = some d → I i acc → ∃ (es : List Dt) (f : Nat → Dt), EvD U tl1 ((wipeE E vs).set j0 (some (.dat d))) (.tup es) ∧ es.length ≤ 16 ∧
      (∀ (q : Nat) (e : Dt), es[q]? = some e → ∃ E3 js3, GD U g1 e (wipeE ((wipeE E vs).set j0 (some (.dat d))) vs1) E3 js3 ∧ (∀ j ∈ js3, j ∈ vs1) ∧ EvD U te E3 (f q)) ∧ I (i + 1) (acc ++ (List.range es.length).map f)) :
    EvP U (tLc2 wi (gName j0) tYes (iTup K tl1) g1 tYes te vs vs1) E (fun s => ∃ acc, s = .ol acc ∧ I ds.length acc) := fun H0 σ H S Q q =>
  hi H0 σ H S _ fun J H1 fp Gw Y ds' p x1 i1 w hfp hG hY => fun Dl nD => by
    subst p
    have S1 := S.go x1 i1
    have SB := (S1.rb).wipe vs
    have nDn : ∀ c o, H1 c = some o → c ≠ Dl := fun c o e => ne_of_none e nD
    have b0 : K13.rb E σ H1 Dl = none := by
      by_cases h : NotOwn E σ Dl
      · rw [rb_yes h]; exact nD
      · rw [rb_no h]
    have offW : ∀ (i : Nat) (s : Sl), (wipeE E vs)[i]? = some (some s) → s.mut = true → (wipe σ vs)[i]? ≠ some (some (.ref Dl)) := fun i s e m z => by
      obtain ⟨v, g1, g2, _⟩ := SB.sl i s e
      rw [z] at g1
      cases g1
      obtain ⟨b, o, eb, hb, _⟩ := g2.at_ m
      cases eb
      rw [nD] at hb
      cases hb
    let Inv0 : Nat → Hp → Prop := fun i H' => ∃ acc ys, I i acc ∧ acc.length ≤ 16 * i ∧ H' Dl = some (.lst ys) ∧ ¬ U.bad Dl (.lst ys) ∧ DTs H' ys acc ∧ SD U (K13.rb E σ H1) (wipeE E vs) (wipe σ vs) H' ∧ (∀ a o, H1 a = some o → ¬ U.bad a o → H' a = some o) ∧ (∀ a, H1 a ≠ none → H' a ≠ none)
    have sm0 : Same H1 (upd H1 Dl (.lst [])) := same_new nD
    have first : Inv0 0 (upd H1 Dl (.lst [])) := ⟨[], [], h0, Nat.le_refl _, upd_same, U.nw _ _ _ S1.inv nD (by first | exact .b rfl | exact ord_nd), .nil, SB.same sm0, fun a o e _ => sm0 a o e, fun a e => same_some sm0 e⟩
    refine ⟨fun i m H' => m = ds'.length - i ∧ i ≤ ds'.length ∧ Inv0 i H', ⟨ds'.length, rfl, Nat.zero_le _, first⟩, ?_⟩
    rintro i m H' ⟨rfl, hle, acc, ys, hI, hla, hD, nb, hy, T, k1, k2⟩
    have hG' : Gw H' := hG H' fun a ha => by
      obtain ⟨o, h1, h2, _⟩ := hfp a ha
      rw [h1]
      exact k1 a o h1 h2
    by_cases hlt : i < ds'.length
    · refine .inr ⟨w.goes i H' hlt hG', fun H'' => Inv0 (i + 1) H'', fun H'' z => ⟨ds'.length - (i + 1), by omega, rfl, hlt, z⟩, fun x H'' y => ?_⟩
      have yl := w.yields i H' x H'' hlt hG' y
      obtain ⟨d, h1, h2, h3⟩ := hY i H' x H'' hG' (fun a o e ti => k1 a o e fun b => by have q := U.nb _ _ b; rw [ti] at q; cases q) hlt yl
      obtain ⟨es, f, f1, f2, f3, f4⟩ := hs i d acc h1 hI
      have T2 : SD U (K13.rb E σ H1) ((wipeE E vs).set j0 (some (.dat d))) ((wipe σ vs).set j0 (some x)) H'' := (T.same h2).set .refl (T.same h2).inv (.dat h3) (fun z => by cases z)
      have o2 : Off [j0] (wipe σ vs) ((wipe σ vs).set j0 (some x)) := ⟨by rw [List.length_set], fun j hj => by rw [List.getElem?_set_ne (fun z => hj (by rw [z]; exact List.mem_cons_self))]⟩
      refine ⟨o2.wipe (fun j hj' => by rw [List.mem_singleton.mp hj']; exact hj), ?_⟩
      unfold tYes
      refine iteT (f1 _ _ H'' T2 _ fun v H3 s3 x3 i3 p3 n3 => ?_)
      subst p3
      obtain ⟨a, xs, rfl, ha, hxs⟩ := DT.tup_inv n3.1
      refine ⟨a, rfl, ⟨xs, .of ha⟩, ?_⟩
      have T3 := T2.go x3 i3
      have x03 : Xt U H' H3 := (Xt.of h2).trans x3
      have hD3 := x03.1 Dl _ hD nb
      have w1 := walk_tup (K := K) (a := a) (xs := xs)
      have offS : ∀ (i : Nat) (s : Sl), ((wipeE E vs).set j0 (some (.dat d)))[i]? = some (some s) → s.mut = true → ((wipe σ vs).set j0 (some x))[i]? ≠ some (some (.ref Dl)) := fun i s e m => by
        rcases set_get e with ⟨_, z, _⟩ | ⟨ne, e⟩
        · cases z
          cases m
        · rw [List.getElem?_set_ne (Ne.symm ne)]
          exact offW i s e m
      let Inv1 : Nat → Hp → Prop := fun q H5 => ∃ zs, H5 Dl = some (.lst zs) ∧ ¬ U.bad Dl (.lst zs) ∧ DTs H5 zs (acc ++ (List.range q).map f) ∧ SD U (K13.rb E σ H1) ((wipeE E vs).set j0 (some (.dat d))) ((wipe σ vs).set j0 (some x)) H5 ∧ SD U (K13.rb E σ H1) (wipeE E vs) (wipe σ vs) H5 ∧ (∀ a o, H1 a = some o → ¬ U.bad a o → H5 a = some o) ∧ (∀ a, H1 a ≠ none → H5 a ≠ none) ∧ Kp H3 H5
      have g0 : Inv1 0 H3 := ⟨ys, hD3, nb, by simpa using hy.kp x03.kp, T3, (T.same h2).go x3 i3, fun a o e n => x03.1 a o (k1 a o e n) n, fun a e => x03.2 a (k2 a e), .refl _⟩
      refine ⟨fun q m H5 => m = xs.length - q ∧ q ≤ xs.length ∧ Inv1 q H5, ⟨xs.length, rfl, Nat.zero_le _, g0⟩, ?_⟩
      rintro q m H5 ⟨rfl, hq, zs, e1, e2, e3, e4, e5, e6, e7, e8⟩
      have at5 : SqT K H5 a xs := .of (e8 a _ ha rfl)
      by_cases hlt1 : q < xs.length
      · refine .inr ⟨w1.goes q H5 hlt1 at5, fun H6 => Inv1 (q + 1) H6, fun H6 z => ⟨xs.length - (q + 1), by omega, rfl, hlt1, z⟩, fun u H6 yy => ?_⟩
        obtain ⟨rfl, hu⟩ := w1.yields q H5 u H6 hlt1 at5 yy
        obtain ⟨e, he, hE⟩ := hxs.back hu
        obtain ⟨E3, js3, g2, g3, g4⟩ := f3 q e he
        refine g2 _ _ H6 u (e4.wipe vs1) (hE.kp e8) _ fun σ3 H7 x7 S7 o7 => ⟨o7.wipe g3, ?_⟩
        refine iteT (g4 _ σ3 H7 S7 _ fun z H8 s8 x8 i8 p8 n8 => ?_)
        subst p8
        have x68 : Xt U H6 H8 := x7.trans x8
        have hD8 := x68.1 Dl _ e1 e2
        have hz8 := (e3.kp x68.kp).snoc n8.1
        have lz : zs.length = acc.length + q := by rw [e3.len, List.length_append, List.length_map, List.length_range]
        have lx : xs.length = es.length := hxs.len
        have nb8 : ∀ ws, ¬ U.bad Dl (.lst ws) := fun ws => U.sb _ _ _ _ i8 hD8 e2 (by first | exact .b rfl | exact ord_nd)
        have kpD : Kp H8 (upd H8 Dl (.lst (zs ++ [z]))) := fun c o e t => by
          rw [upd_ne (fun z => by rw [z, hD8] at e; cases e; cases t)]
          exact e
        refine ⟨zs, hD8, by rw [lz]; exact Nat.lt_of_le_of_lt (by omega : acc.length + q ≤ 1000000) (by decide), zs ++ [z], upd_same, nb8 _, ?_, (e4.go x68 i8).off b0 hD8 e2 offS, (e5.go x68 i8).off b0 hD8 e2 offW, fun c o e n => ?_, fun c e => ?_, fun c o e t => ?_⟩
        · rw [List.range_succ, List.map_append, ← List.append_assoc]
          exact hz8.kp kpD
        · rw [upd_ne (nDn c o e)]
          exact x68.1 c o (e6 c o e n) n
        · rw [upd_ne (fun z => e (by rw [z]; exact nD))]
          exact x68.2 c (e7 c e)
        · exact kpD c o (x68.kp c o (e8 c o e t) t) t
      · have hqe : q = xs.length := by omega
        subst hqe
        rw [hxs.len] at e3
        exact .inl ⟨w1.stops H5 at5, acc ++ (List.range es.length).map f, zs, f4, by rw [List.length_append, List.length_map, List.length_range]; omega, e1, e2, e3, e5, e6, e7⟩
    · have he : i = ds'.length := by omega
      subst he
      exact .inl ⟨w.stops H' hG', q _ H' _ (x1.trans ⟨k1, k2⟩) T.inv ⟨acc, rfl, hI⟩ ⟨⟨Dl, ys, rfl, hD, nb, hy⟩, fun _ a e => by cases e; exact x1.free nD⟩⟩
end
end K13
end
section
set_option Elab.async false
set_option linter.all false
set_option maxRecDepth 100000
set_option maxHeartbeats 4000000
set_option autoImplicit false
/-! loops over what is not told whole, searches -/
namespace K13
open PySem PySem.Spec PyProof.Rows L2
section
variable {U : Vol} {E : DEnv} {G : DE} {K : PySem.W.Frag}
/-- for, over what P tells, with a fact that goes along -/
theorem d_forPc {wi : TI} {g : TG} {tb : TS} {P : List Dt → Prop} (f : List Dt → Nat → Prop) (E0 : DEnv) (hi : IterP U wi E P) (h0 : (∀ ds, P ds → f ds 0) ∧ Fg E E0)
    (hs : ∀ ds i d, P ds → ds[i]? = some d → f ds i → ∃ E'' js, GD U g d E0 E'' js ∧ DS U tb E'' { G with nx := fun E' => f ds (i + 1) ∧ Fg E' E0, ct := fun E' => f ds (i + 1) ∧ Fg E' E0, bk := G.nx }) (hd : ∀ ds, P ds → f ds ds.length → G.nx E0) : DS U (tFor wi g tb) E G := fun D H0 σ H S F => by
  refine d_forP (U := U) (E := E) (G := { G with nx := fun E' => (∃ ds, P ds ∧ f ds ds.length ∧ Fg E' E0) ∨ G.nx E' }) (fun ds i E' => f ds i ∧ Fg E' E0) hi (fun ds p => ⟨h0.1 ds p, h0.2⟩) (fun ds i d E' p h1 h2 => ?_) (fun ds E' p h => .inl ⟨ds, p, h.1, h.2⟩) D H0 σ H S ⟨fun E' σ' H' q T => ?_, F.rt, F.bk, F.ct⟩
  · obtain ⟨E'', js, g1, g2⟩ := hs ds i d p h1 h2.1
    refine ⟨E'', js, fun H0 σ H x S hx Q q => g1 H0 σ H x (S.fg h2.2) hx Q q, fun D H0 σ H S F => g2 D H0 σ H S ⟨F.nx, F.rt, fun E' σ' H' q T => F.bk E' σ' H' (.inr q) T, F.ct⟩⟩
  · rcases q with ⟨ds, p, q1, q2⟩ | q
    · exact F.nx _ _ _ (hd ds p q1) (T.fg q2)
    · exact F.nx _ _ _ q T
/-- any, over what P tells -/
theorem e_anyP {wi : TI} {g : TG} {te : TE} {vs : List Nat} {P : List Dt → Prop} (B : List Dt → Nat → Bool) (hi : IterP U wi E P) (hl : ∀ ds, P ds → ds.length ≤ 1000000)
    (hs : ∀ (ds : List Dt) (i : Nat) (d : Dt), P ds → ds[i]? = some d → ∃ E'' js, GD U g d (wipeE E vs) E'' js ∧ (∀ j ∈ js, j ∈ vs) ∧ EvD U te E'' (.bl (B ds i))) :
    EvP U (tCB (rAny K) (tCons (tLc wi g tYes te vs) tNil)) E (fun s => ∃ b, s = .dat (.bl b) ∧ ∃ ds, P ds ∧ b = (List.range ds.length).any (B ds)) := by
  have q := e_lcP (tt := tYes) (te := te) (vs := vs) (g := g) (fun ds i acc => acc = ((List.range i).map (B ds)).map .bl) hi (fun ds p => ⟨rfl, hl ds p⟩) fun ds i d acc p h1 h2 => by
    obtain ⟨E'', js, g1, g2, g3⟩ := hs ds i d p h1
    refine ⟨E'', js, (· = true), g1, g2, fun H0 σ H S Q q => q true H .refl S.inv rfl, fun _ => g3.imp fun s e => ⟨.bl (B ds i), e, ?_⟩, fun z => by cases z⟩
    rw [h2, List.range_succ, List.map_append, List.map_append]
    rfl
  have q2 := q.imp (P' := fun s => ∃ es, s = .ol es ∧ ∃ ds, P ds ∧ es = ((List.range ds.length).map (B ds)).map .bl) fun s ⟨acc, e, ds, p, h⟩ => ⟨acc, e, ds, p, h⟩
  refine e_cbP (ea_consP q2.rlP ea_nil) fun ss hss => ?_
  obtain ⟨s, r, rfl, ⟨es, rfl, ds, p, rfl⟩, rfl⟩ := hss
  intro H vs iv h Q q
  refine rc_any (K := K) H vs iv h Q fun v H' s x i p' n => q v H' s x i ⟨_, p', ds, p, ?_⟩ n
  rw [List.any_map]
  rfl
/-! ### rows, pairs -/
theorem row_len {M : Moves} {m s : Nat} (h : RuleOk M m) (hs : s < M.length) : ((M.getD s []).map eMv).length = m := by rw [List.length_map, h.rowLen hs]
theorem row_inv {M : Moves} {m s k : Nat} {d : Dt} (h : RuleOk M m) (hs : s < M.length) (e : ((M.getD s []).map eMv)[k]? = some d) : k < m ∧ d = eMv (mvR M s k) := by
  have hk : k < m := by
    have := (List.getElem?_eq_some_iff.mp e).1
    rw [row_len h hs] at this
    exact this
  rw [mv_get h hs hk] at e
  exact ⟨hk, (Option.some.inj e).symm⟩
theorem pD_inj {p q : Nat × Nat} : pD p = pD q ↔ p = q := by
  constructor
  · intro h
    unfold pD at h
    have h := Dt.tup.inj h
    rw [List.cons.injEq, List.cons.injEq] at h
    have h1 := Dt.int.inj h.1
    have h2 := Dt.int.inj h.2.1
    exact Prod.ext (by omega) (by omega)
  · intro h; rw [h]
theorem pD_mem {p : Nat × Nat} {fs : List (Nat × Nat)} : pD p ∈ fs.map pD ↔ p ∈ fs := by
  rw [List.mem_map]
  constructor
  · rintro ⟨q, hq, e⟩
    rw [← pD_inj.mp e]
    exact hq
  · intro h
    exact ⟨p, h, rfl⟩
theorem pD_get {fs : List (Nat × Nat)} {i : Nat} (h : i < fs.length) : (fs.map pD)[i]? = some (pD (fs.getD i (0, 0))) := by
  rw [List.getElem?_map, List.getElem?_eq_getElem h, List.getD_eq_getElem?_getD, List.getElem?_eq_getElem h]
  rfl
theorem pD_inv {fs : List (Nat × Nat)} {i : Nat} {d : Dt} (h : (fs.map pD)[i]? = some d) : i < fs.length ∧ d = pD (fs.getD i (0, 0)) := by
  have hi : i < fs.length := by
    have := (List.getElem?_eq_some_iff.mp h).1
    rwa [List.length_map] at this
  rw [pD_get hi] at h
  exact ⟨hi, (Option.some.inj h).symm⟩
theorem bl_val {b : Bool} : ∀ H y, DT H y (.bl b) → y = .bl b := fun _ _ h => h.bl_inv
def kn2 (fs : List (Nat × Nat)) : List (Dt × V) := fs.map fun p => (pD p, .bl true)
theorem kn2_keys (fs : List (Nat × Nat)) : (kn2 fs).map (·.1) = fs.map pD := by unfold kn2; rw [List.map_map]; rfl
theorem kn2_mem {p : Nat × Nat} {fs : List (Nat × Nat)} : pD p ∈ (kn2 fs).map (·.1) ↔ p ∈ fs := by rw [kn2_keys, pD_mem]
theorem kn2_snoc (fs : List (Nat × Nat)) (p : Nat × Nat) : kn2 (fs ++ [p]) = kn2 fs ++ [(pD p, .bl true)] := by unfold kn2; rw [List.map_append]; rfl
theorem kn2_len (fs : List (Nat × Nat)) : (kn2 fs).length = fs.length := List.length_map _
def kn1 (fs : List Nat) : List (Int × V) := fs.map fun (k : Nat) => ((k : Int), V.bl true)
theorem kn1_mem {k : Nat} {fs : List Nat} : (k : Int) ∈ (kn1 fs).map (·.1) ↔ k ∈ fs := by
  unfold kn1
  rw [List.map_map, List.mem_map]
  constructor
  · rintro ⟨j, hj, e⟩
    have e : (j : Int) = (k : Int) := e
    have : j = k := by omega
    rw [← this]
    exact hj
  · intro h
    exact ⟨k, h, rfl⟩
theorem kn1_snoc (fs : List Nat) (p : Nat) : kn1 (fs ++ [p]) = kn1 fs ++ [((p : Int), .bl true)] := by unfold kn1; rw [List.map_append]; rfl
theorem kn1_len (fs : List Nat) : (kn1 fs).length = fs.length := List.length_map _
theorem iL_snoc (fs : List Nat) (p : Nat) : iL (fs ++ [p]) = iL fs ++ [.int (p : Int)] := by unfold iL; rw [List.map_append]; rfl
theorem key_pD (p : Nat × Nat) : keyB 8 (pD p) = true := rfl
end
/-! ### a search, breadth first -/
structure Srch {α : Type} (next : α → Nat → α) (R : α → Prop) (m : Nat) (fs : List α) (done k : Nat) : Prop where
  nd : fs.Nodup
  rc : ∀ p ∈ fs, R p
  le : done ≤ fs.length
  cl : ∀ i p, i < done → fs[i]? = some p → ∀ j < m, next p j ∈ fs
  cr : ∀ p, fs[done]? = some p → ∀ j < k, next p j ∈ fs
section
variable {α : Type} {next : α → Nat → α} {R : α → Prop} {m : Nat} {fs : List α} {done k : Nat} {p : α}
theorem Srch.old (h : Srch next R m fs done k) (hp : fs[done]? = some p) (hm : next p k ∈ fs) : Srch next R m fs done (k + 1) :=
  ⟨h.nd, h.rc, h.le, h.cl, fun q hq j hj => by
    rw [hp] at hq
    cases hq
    by_cases e : j = k
    · rw [e]; exact hm
    · exact h.cr p hp j (by omega)⟩
theorem get_app {l : List α} {i : Nat} {x y : α} (h : l[i]? = some x) : (l ++ [y])[i]? = some x := by
  rw [List.getElem?_append_left (List.getElem?_eq_some_iff.mp h).1]
  exact h
theorem Srch.new (h : Srch next R m fs done k) (hp : fs[done]? = some p) (hm : next p k ∉ fs) (hR : R (next p k)) : Srch next R m (fs ++ [next p k]) done (k + 1) := by
  have back : ∀ {i : Nat} {q : α}, i ≤ done → (fs ++ [next p k])[i]? = some q → fs[i]? = some q := fun {i q} hi hq => by
    have hl : done < fs.length := (List.getElem?_eq_some_iff.mp hp).1
    rw [List.getElem?_append_left (by omega)] at hq
    exact hq
  refine ⟨nodup_snoc h.nd hm, fun q hq => ?_, by rw [List.length_append]; have := h.le; omega, fun i q hi hq j hj => ?_, fun q hq j hj => ?_⟩
  · rcases List.mem_append.mp hq with hq | hq
    · exact h.rc q hq
    · rw [List.mem_singleton.mp hq]; exact hR
  · exact List.mem_append_left _ (h.cl i q hi (back (by omega) hq) j hj)
  · have hq := back (Nat.le_refl _) hq
    rw [hp] at hq
    cases hq
    by_cases e : j = k
    · rw [e]; exact List.mem_append_right _ List.mem_cons_self
    · exact List.mem_append_left _ (h.cr p hp j (by omega))
theorem Srch.turn (h : Srch next R m fs done m) (hl : done < fs.length) : Srch next R m fs (done + 1) 0 :=
  ⟨h.nd, h.rc, hl, fun i q hi hq j hj => by
    by_cases e : i = done
    · subst e
      exact h.cr q hq j hj
    · exact h.cl i q (by omega) hq j hj, fun _ _ j hj => by omega⟩
theorem Srch.all (h : Srch next R m fs done 0) (hl : fs.length ≤ done) : ∀ p ∈ fs, ∀ j < m, next p j ∈ fs := fun p hp j hj => by
  obtain ⟨i, hi, e⟩ := List.mem_iff_getElem.mp hp
  exact h.cl i p (by omega) (by rw [List.getElem?_eq_getElem hi, e]) j hj
theorem Srch.start (hn : fs.Nodup) (hR : ∀ p ∈ fs, R p) : Srch next R m fs 0 0 := ⟨hn, hR, Nat.zero_le _, fun _ _ h => by omega, fun _ _ j h => by omega⟩
end
end K13
end
section
set_option Elab.async false
set_option linter.all false
set_option maxRecDepth 100000
set_option maxHeartbeats 4000000
set_option autoImplicit false
local macro_rules | `(tactic| walk_at "fg") => `(tactic| (repeat' (first | exact True.intro | exact rfl | constructor)))
namespace K13
open PySem PySem.Spec PyProof.Rows L2 C8
theorem fine1 {A : Ask} {n : Nat} (h : ∀ ss P, A ss P → ∃ ds : List Dt, ss = ds.map .dat ∧ ds.length = n) : Fine A n := ⟨fun ss P a => by
  obtain ⟨ds, rfl, e⟩ := h ss P a
  refine ⟨by rw [List.length_map]; exact e, fun s hs => ?_⟩
  obtain ⟨d, _, rfl⟩ := List.mem_map.mp hs
  rfl⟩
section
variable {P : Program} {w : World} {K : PySem.W.Frag} {mg : Str → Option Value} {base : Heap} {mk : Str} {ev : List Str} {m : Nat}
/-! ### shares -/
abbrev s_shares : Stmt := topS 20
theorem sc_shares : FnScope ["one", "other", "kind"] ["one", "other"] (defScope s_shares) := ⟨rfl, rfl, rfl, by decide +kernel, rfl, by decide +kernel, by decide +kernel⟩
theorem bd_shares : Bd "shares" s_shares ["one", "other"] := fun _ _ _ _ _ _ us hl => match us, hl with | [_, _], _ => rfl
def aShares (ev : List Str) (m : Nat) : Ask := fun ss P => ∃ a b, ValidLot m a ∧ ValidLot m b ∧ ss = [.dat (eLot ev a), .dat (eLot ev b)] ∧ P (.dat (.bl (shareB a b)))
theorem cShares (h : EvOk ev m) (M : Mf mg) (D : Dn K mg "shares" s_shares) : Cal P w K mg base 1 "shares" (spD (V0 w) (aShares ev m)) [] := by
  have sc := sc_shares
  refine cal_of D sc bd_shares (fine1 fun ss P ⟨a, b, _, _, e, _⟩ => ⟨[_, _], e, rfl⟩) (by decide) fun f cdv A' outer s H E hr => ⟨_, (pss_one (ps_ret (pe_callB (show CallR _ _ (rAny K) from (cr_any rfl)) (by rfl) M.any_ boot_any_ (pa_cons (pe_lc rfl sc.nd (show PI _ _ _ (iTup K _) from pi_tup (pv 0)) (blk_of (N := ["one", "other", "kind"]) (sc := defScope s_shares) (own := [("kind", 2)]) (by decide +kernel)) (fun _ _ _ _ _ => (pg_name (i := 2) sc.nd rfl (by first | exact .inl rfl | exact .inr rfl))) (fun _ _ _ _ _ => pts_nil) (fun _ _ _ _ _ => (pe_cmpR (show OpR _ _ (rIn K false) from op_in_seq) (pv 2) (pv 1) (by rfl)))) pa_nil)))), ?_⟩
  rintro ss Pp ⟨a, b, ha, hb, rfl, hP⟩
  have e : shareB a b = (List.range ((a.map (kd ev)).map Dt.str).length).any fun i => decide (a.getD i 0 ∈ b) := by
    unfold shareB
    rw [List.length_map, List.length_map, any_getD a 0 fun k => decide (k ∈ b)]
  rw [e] at hP
  refine d_ret (e_anyM _ (i_tupD (e_var rfl)) (by have := ha.len; have := h.sm; rw [List.length_map, List.length_map]; omega) fun i d hd => ⟨_, _, gd_name, by decide, ?_⟩) hP
  obtain ⟨hi, rfl⟩ := kinds_inv hd
  refine e_opD (e_var rfl) (e_var rfl) ?_
  rw [← kd_mem h (ha.2.2 _ (getD_mem hi)) hb.2.2]
  exact rp_inT
/-! ### pairs_of -/
abbrev s_pairs_of : Stmt := topS 25
theorem sc_pairs_of : FnScope ["lots", "found", "at", "lot", "later"] ["lots"] (defScope s_pairs_of) := ⟨rfl, rfl, rfl, by decide +kernel, rfl, by decide +kernel, by decide +kernel⟩
theorem bd_pairs_of : Bd "pairs_of" s_pairs_of ["lots"] := fun _ _ _ _ _ _ us hl => match us, hl with | [_], _ => rfl
def aPairs (ev : List Str) (m : Nat) : Ask := fun ss P => ∃ L, ValidL m L ∧ L.length ≤ 60 ∧ ss = [.dat (eLots ev L)] ∧ P (.ol ((pairsOf L).map pD))
theorem cPairs (h : EvOk ev m) (M : Mf mg) (c_shares : Cal P w K mg base 1 "shares" (spD (V0 w) (aShares ev m)) []) (D : Dn K mg "pairs_of" s_pairs_of) : Cal P w K mg base 2 "pairs_of" (spD (V0 w) (aPairs ev m)) [] := by
  have sc := sc_pairs_of
  refine cal_of D sc bd_pairs_of (fine1 fun ss P ⟨L, _, _, e, _⟩ => ⟨[_], e, rfl⟩) (by decide) fun f cdv A' outer s H E hr => ⟨_, (pss_cons (ps_set (i := 1) sc.nd rfl (by first | exact .inl rfl | exact .inr rfl) (pe_lst pa_nil))
      (pss_cons (ps_for PassesOwn.never rfl (show PI _ _ _ (iEnumT K _) from pi_enumT (by rfl) M.enumerate_ (pa_cons (pv 0) pa_nil)) (show PG _ _ (gTup K 2 _) from pg_tup rfl (pgs_cons (pg_name (i := 2) sc.nd rfl (by first | exact .inl rfl | exact .inr rfl)) (pgs_cons (pg_name (i := 3) sc.nd rfl (by first | exact .inl rfl | exact .inr rfl)) pgs_nil))) (pss_one (ps_expr (show PE _ _ (tBM K _ _ _ _) from pe_bm PySem.F.plainAttrs_list PySem.F.slot_list_extend PySem.F.type_list_extend mt_extend (pv 1) (pa_cons (pe_lc rfl sc.nd (pi_range2 (by rfl) M.range_ (pa_cons (pe_op op_add (pv 2) pe_int) (pa_cons (pe_callB (show CallR _ _ (rLen K) from call_len_seq) (by rfl) M.len_ PySem.boot_len (pa_cons (pv 0) pa_nil)) pa_nil))) (blk_of (N := ["lots", "found", "at", "lot", "later"]) (sc := defScope s_pairs_of) (own := [("later", 4)]) (by decide +kernel)) (fun _ _ _ _ _ => (pg_name (i := 4) sc.nd rfl (by first | exact .inl rfl | exact .inr rfl))) (fun _ _ _ _ _ => (pts_one (pt_val (pe_c c_shares hr (by decide) (by rfl) (pa_cons (pv 3) (pa_cons (pe_ix (show IxR _ (rIxT K) from ix_tup) (pv 0) (pv 4) (fun _ _ => rfl)) pa_nil)))))) (fun _ _ _ _ _ => (pe_tup (pa_cons (pv 2) (pa_cons (pv 4) pa_nil))))) pa_nil)))))
      (pss_one (ps_ret (pv 1))))), ?_⟩
  rintro ss Pp ⟨L, hv, hl, rfl, hP⟩
  have hle : (enD (L.map (eLot ev))).length = L.length := by rw [enD_len, List.length_map]
  refine d_seq (d_asgN (e_lst (ds := []) ea_nil) ?_)
  refine d_seq (d_forE (fun i => [some (.dat (eLots ev L)), some (.ol (((List.range i).flatMap (rowP L)).map pD)), none, none, none]) (i_enum (e_var rfl)) (by walk_at "fg") (fun i d hd => ?_) ?_)
  · obtain ⟨e, he, rfl⟩ := enD_get hd
    obtain ⟨hi, rfl⟩ := eLots_inv he
    refine ⟨_, _, gd_tup (gds_cons gd_name (gds_cons gd_name gds_nil)), ?_⟩
    have hsub : ((L.length : Int) - ((i : Int) + 1)).toNat = L.length - (i + 1) := by omega
    have hn : (rngD ((i : Int) + 1) ((L.length : Int) - ((i : Int) + 1)).toNat).length = L.length - (i + 1) := by rw [rngD_len, hsub]
    refine d_extend (es := (rowP L i).map pD) rfl ?_ ?_ ?_
    · have q := e_lcF (U := V0 w) (E := [some (.dat (eLots ev L)), some (.ol (((List.range i).flatMap (rowP L)).map pD)), some (.dat (.int (i : Int))), some (.dat (eLot ev (L.getD i []))), none]) (wi := iRng2 (tCons (tOp (rI0 fun i j => .int (i + j)) (tVar 2) (tC (.int 1))) (tCons (tCB (rLen K) (tCons (tVar 0) tNil)) tNil)))
        (ds := rngD ((i : Int) + 1) ((L.length : Int) - ((i : Int) + 1)).toNat) (g := gName 4) (tt := tB (tCall (spD (V0 w) (aShares ev m)) [] C8.E0 (tCons (tVar 3) (tCons (tOp (rIxT K) (tVar 0) (tVar 4)) tNil)))) (te := tTup (tCons (tVar 2) (tCons (tVar 4) tNil))) (vs := [4])
        (fun q => shareB (L.getD i []) (L.getD (i + 1 + q) [])) (fun q => pD (i, i + 1 + q)) (i_range2D (e_opD (e_var rfl) e_int (rp_I0 fun _ => .int _)) (e_cb1 (e_var rfl) (by have q := rc_lenT (U := V0 w) (K := K) (ds := L.map (eLot ev)); rw [List.length_map] at q; exact q)) (by omega)) (by rw [hn]; omega) (fun q d hd => ?_)
      · rw [hn] at q
        have e2 : ((List.range (L.length - (i + 1))).filter fun q => shareB (L.getD i []) (L.getD (i + 1 + q) [])).map (fun q => pD (i, i + 1 + q)) = (rowP L i).map pD := by
          unfold rowP
          rw [List.map_map]
          rfl
        rw [e2] at q
        exact q.rl
      · obtain ⟨rfl, hq⟩ := rngD_get hd
        rw [hsub] at hq
        have hj : i + 1 + q < L.length := by omega
        refine ⟨_, _, gd_name, by decide, b_val (e_callD (ss := [.dat (eLot ev (L.getD i [])), .dat (eLot ev (L.getD (i + 1 + q) []))]) (ea_cons (e_var rfl) (ea_cons (e_opD (e_var rfl) (e_var rfl) (rp_ixT (eLots_getD hj) (by omega))) ea_nil)) ⟨_, _, hv _ (getD_mem hi), hv _ (getD_mem hj), rfl, rfl⟩), fun _ => ?_⟩
        refine (e_tup (ds := [.int (i : Int), .int ((i : Int) + 1 + (q : Int))]) (ea_cons (e_var rfl) (ea_cons (e_var rfl) ea_nil))).imp fun s e => ?_
        rw [e]
        unfold pD
        simp
    · rw [List.length_map, List.length_map]
      have h1 := flat_len L i
      have h2 := rowP_len L i
      have h3 : i * L.length ≤ 60 * 60 := Nat.mul_le_mul (by omega) hl
      omega
    · show Fg _ _
      have e2 : ((List.range i).flatMap (rowP L)).map pD ++ (rowP L i).map pD = ((List.range (i + 1)).flatMap (rowP L)).map pD := by
        rw [List.range_succ, List.flatMap_append, List.map_append]
        simp
      rw [e2]
      walk_at "fg"
  · rw [hle]
    exact d_retO rfl hP
/-! ### heads -/
abbrev s_heads : Stmt := topS 26
theorem sc_heads : FnScope ["lots", "bound", "pair", "at"] ["lots"] (defScope s_heads) := ⟨rfl, rfl, rfl, by decide +kernel, rfl, by decide +kernel, by decide +kernel⟩
theorem bd_heads : Bd "heads" s_heads ["lots"] := fun _ _ _ _ _ _ us hl => match us, hl with | [_], _ => rfl
def aHeads (ev : List Str) (m : Nat) : Ask := fun ss P => ∃ L, ValidL m L ∧ L.length ≤ 60 ∧ ss = [.dat (eLots ev L)] ∧ P (.ol ((headIx L).map fun (i : Nat) => .int (i : Int)))
theorem cHeads (h : EvOk ev m) (M : Mf mg) (c_pairs_of : Cal P w K mg base 2 "pairs_of" (spD (V0 w) (aPairs ev m)) []) (D : Dn K mg "heads" s_heads) : Cal P w K mg base 3 "heads" (spD (V0 w) (aHeads ev m)) [] := by
  have sc := sc_heads
  refine cal_of D sc bd_heads (fine1 fun ss P ⟨L, _, _, e, _⟩ => ⟨[_], e, rfl⟩) (by decide) fun f cdv A' outer s H E hr => ⟨_, (pss_cons (ps_set (i := 1) sc.nd rfl (by first | exact .inl rfl | exact .inr rfl) (pe_dc rfl sc.nd (show PI _ _ _ (iList K _) from pi_list (pe_c c_pairs_of hr (by decide) (by rfl) (pa_cons (pv 0) pa_nil))) (blk_of (N := ["lots", "bound", "pair", "at"]) (sc := defScope s_heads) (own := [("pair", 2)]) (by decide +kernel)) (fun _ _ _ _ _ => (pg_name (i := 2) sc.nd rfl (by first | exact .inl rfl | exact .inr rfl))) (fun _ _ _ _ _ => pts_nil) (fun _ _ _ _ _ => (pe_ix (show IxR _ (rIxT K) from ix_tup) (pv 2) pe_int (fun _ _ => rfl))) (fun _ _ _ _ _ => pe_bl)))
      (pss_one (ps_ret (pe_lc rfl sc.nd (pi_range1 (by rfl) M.range_ (pa_cons (pe_callB (show CallR _ _ (rLen K) from call_len_seq) (by rfl) M.len_ PySem.boot_len (pa_cons (pv 0) pa_nil)) pa_nil)) (blk_of (N := ["lots", "bound", "pair", "at"]) (sc := defScope s_heads) (own := [("at", 3)]) (by decide +kernel)) (fun _ _ _ _ _ => (pg_name (i := 3) sc.nd rfl (by first | exact .inl rfl | exact .inr rfl))) (fun _ _ _ _ _ => (pts_one (pt_cmp (pc_dnotin (hu_of hr) (pv 3) (pv 1))))) (fun _ _ _ _ _ => (pv 3)))))), ?_⟩
  rintro ss Pp ⟨L, hv, hl, rfl, hP⟩
  have hpl : (pairsOf L).length ≤ 3600 := by
    have h1 := flat_len L L.length
    have h3 : L.length * L.length ≤ 60 * 60 := Nat.mul_le_mul hl hl
    unfold pairsOf
    omega
  refine d_seq (d_asgP (e_dcI (v := .bl true) (dv := .bl true) (fun ds i acc => ds = (pairsOf L).map pD ∧ ∀ n : Int, n ∈ acc ↔ ∃ p ∈ (pairsOf L).take i, (p.2 : Int) = n) (i_list (l_newD (e_callN (ea_cons (e_var rfl) ea_nil) ⟨L, hv, hl, rfl, rfl⟩))) (fun ds e => ⟨⟨e, by simp⟩, by rw [e, List.length_map]; omega⟩) (fun H y hy => DT.bl_inv hy) (fun ds i d acc e hd hI => ?_)) ?_ ?_)
  · subst e
    rw [List.getElem?_map] at hd
    cases q : (pairsOf L)[i]? with
    | none => rw [q] at hd; cases hd
    | some p =>
      rw [q] at hd
      cases hd
      have tk : (pairsOf L).take (i + 1) = (pairsOf L).take i ++ [p] := by rw [List.take_add_one, q]; rfl
      refine ⟨_, _, _, gd_name, by decide, e_opD (e_var rfl) e_int (rp_ixT (j := 1) (d := .int (p.2 : Int)) rfl), e_bl, fun hn => ⟨rfl, fun n => ?_⟩, fun hn => ⟨rfl, fun n => ?_⟩⟩
      · rw [hI.2 n, tk]
        constructor
        · rintro ⟨x, hx, e⟩
          exact ⟨x, List.mem_append_left _ hx, e⟩
        · rintro ⟨x, hx, e⟩
          rcases List.mem_append.mp hx with hx | hx
          · exact ⟨x, hx, e⟩
          · rw [List.mem_singleton.mp hx] at e
            rw [← e]
            exact (hI.2 _).mp hn
      · rw [List.mem_append, hI.2 n, tk, List.mem_singleton]
        constructor
        · rintro (⟨x, hx, e⟩ | e)
          · exact ⟨x, List.mem_append_left _ hx, e⟩
          · exact ⟨p, List.mem_append_right _ List.mem_cons_self, e.symm⟩
        · rintro ⟨x, hx, e⟩
          rcases List.mem_append.mp hx with hx | hx
          · exact .inl ⟨x, hx, e⟩
          · rw [List.mem_singleton.mp hx] at e
            exact .inr e.symm
  · rintro s ⟨acc, rfl, _⟩ _
    rfl
  · rintro s ⟨acc, rfl, ds, hds, hI⟩
    subst hds
    obtain ⟨_, hI⟩ := hI
    have all : (pairsOf L).take ((pairsOf L).map pD).length = pairsOf L := by rw [List.length_map, List.take_length]
    rw [all] at hI
    have hlen : (rngD 0 L.length).length = L.length := rngD_len _ _
    have q := e_lcF (U := V0 w) (E := [some (.dat (eLots ev L)), some (.oi (acc.map fun d => (d, V.bl true))), none, none]) (wi := iRng1 (tCons (tCB (rLen K) (tCons (tVar 0) tNil)) tNil)) (ds := rngD 0 L.length) (g := gName 3) (tt := tB (tDNotIn (tVar 3) (tVar 1))) (te := tVar 3) (vs := [3])
      (fun j => !boundAt L j) (fun j => .int (j : Int)) (i_range1D (e_cb1 (e_var rfl) (by have q := rc_lenT (U := V0 w) (K := K) (ds := L.map (eLot ev)); rw [List.length_map] at q; exact q)) (by omega)) (by rw [hlen]; omega) (fun j d hd => ?_)
    · rw [hlen] at q
      exact d_retN q hP
    · obtain ⟨rfl, hj⟩ := rng0_get hd
      refine ⟨_, _, gd_name, by decide, b_val (e_notInI rfl (e_var rfl) ?_), fun _ => e_var rfl⟩
      rw [bound_iff hj, List.map_map]
      constructor
      · rintro ⟨p, hp, e⟩
        exact List.mem_map.mpr ⟨_, (hI _).mpr ⟨p, hp, rfl⟩, by show (p.2 : Int) = _; rw [e]⟩
      · intro hm
        obtain ⟨n, hn, e⟩ := List.mem_map.mp hm
        obtain ⟨p, hp, e2⟩ := (hI _).mp hn
        have e : n = (j : Int) := e
        exact ⟨p, hp, by omega⟩
end
end K13
end
section
set_option Elab.async false
set_option linter.all false
set_option maxRecDepth 100000
set_option maxHeartbeats 4000000
set_option autoImplicit false
local macro_rules | `(tactic| walk_at "fg") => `(tactic| (repeat' (first | exact True.intro | exact rfl | constructor)))
namespace K13
open PySem PySem.Spec PyProof.Rows L2 C8
section
variable {P : Program} {w : World} {K : PySem.W.Frag} {mg : Str → Option Value} {base : Heap} {mk : Str} {ev : List Str} {m : Nat}
theorem eLots_cut (L : Lots) (j : Nat) : (L.map (eLot ev)).take j ++ (L.map (eLot ev)).drop (j + 1) = (L.take j ++ L.drop (j + 1)).map (eLot ev) := by rw [List.map_append, List.map_take, List.map_drop]
theorem cut_len {α : Type} {L : List α} {j : Nat} (h : j < L.length) : (L.take j ++ L.drop (j + 1)).length + 1 = L.length := by
  rw [List.length_append, List.length_take, List.length_drop]
  omega
/-! ### least_of -/
abbrev s_least_of : Stmt := topS 27
theorem sc_least_of : FnScope ["lots", "found", "rest", "at", "place"] ["lots"] (defScope s_least_of) := ⟨rfl, rfl, rfl, by decide +kernel, rfl, by decide +kernel, by decide +kernel⟩
theorem bd_least_of : Bd "least_of" s_least_of ["lots"] := fun _ _ _ _ _ _ us hl => match us, hl with | [_], _ => rfl
def aLeast (ev : List Str) (m : Nat) : Ask := fun ss P => ∃ L, ValidL m L ∧ L.length ≤ 60 ∧ ss = [.dat (eLots ev L)] ∧ P (.dat (eLots ev (leastOf L)))
theorem cLeast (h : MkOk mk ev m) (M : Mf mg) (c_heads : Cal P w K mg base 3 "heads" (spD (V0 w) (aHeads ev m)) []) (D : Dn K mg "least_of" s_least_of) : Cal P w K mg base 4 "least_of" (spD (V0 w) (aLeast ev m)) [] := by
  have sc := sc_least_of
  refine cal_of D sc bd_least_of (fine1 fun ss P ⟨L, _, _, e, _⟩ => ⟨[_], e, rfl⟩) (by decide) fun f cdv A' outer s H E hr => ⟨_, (pss_cons (ps_set (i := 1) sc.nd rfl (by first | exact .inl rfl | exact .inr rfl) (pe_lst pa_nil))
      (pss_cons (ps_set (i := 2) sc.nd rfl (by first | exact .inl rfl | exact .inr rfl) (pv 0))
      (pss_cons (ps_while PassesOwn.never (pt_cmpR op_gt (pe_callB (show CallR _ _ (rLen K) from call_len_seq) (by rfl) M.len_ PySem.boot_len (pa_cons (pv 2) pa_nil)) pe_int (nomark _)) (pss_cons (ps_set (i := 3) sc.nd rfl (by first | exact .inl rfl | exact .inr rfl) (pe_ix (show IxR _ (rIxT K) from ix_tup) (pe_callB (show CallR _ _ (rMinD K) from (cr_minD rfl hr.units)) (by rfl) M.min_ boot_min (pa_cons (pe_lc rfl sc.nd (show PI _ _ _ (iList K _) from pi_list (pe_c c_heads hr (by decide) (by rfl) (pa_cons (pv 2) pa_nil))) (blk_of (N := ["lots", "found", "rest", "at", "place"]) (sc := defScope s_least_of) (own := [("place", 4)]) (by decide +kernel)) (fun _ _ _ _ _ => (pg_name (i := 4) sc.nd rfl (by first | exact .inl rfl | exact .inr rfl))) (fun _ _ _ _ _ => pts_nil) (fun _ _ _ _ _ => (pe_tup (pa_cons (pe_ix (show IxR _ (rIxT K) from ix_tup) (pv 2) (pv 4) (fun _ _ => rfl)) (pa_cons (pv 4) pa_nil))))) pa_nil)) pe_int (fun _ _ => rfl)))
      (pss_cons (ps_expr (show PE _ _ (tBM K _ _ _ _) from pe_bm PySem.F.plainAttrs_list PySem.F.slot_list_append PySem.F.type_list_append mt_append (pv 1) (pa_cons (pe_ix (show IxR _ (rIxT K) from ix_tup) (pv 2) (pv 3) (fun _ _ => rfl)) pa_nil)))
      (pss_one (ps_set (i := 2) sc.nd rfl (by first | exact .inl rfl | exact .inr rfl) (pe_op (show OpR _ _ (rCatA K) from op_catA) (pe_slice (show SlR _ (rSlA K) from sl_tupA) (pv 2) po_none (po_some (pv 3))) (pe_slice (show SlR _ (rSlA K) from sl_tupA) (pv 2) (po_some (pe_op op_add (pv 3) pe_int)) po_none)))))))
      (pss_one (ps_ret (show PE _ _ (tThen _ (kTup K)) from pe_tupleOf (by rfl) M.tuple_ (pv 1))))))), ?_⟩
  rintro ss Pp ⟨L, hv, hl, rfl, hP⟩
  refine d_seq (d_asgN (e_lst (ds := []) ea_nil) ?_)
  refine d_seq (d_asg (e_var rfl) ?_)
  refine d_seq (d_whileS (α := Lots × Lots) (fun n x => n = x.2.length ∧ ValidL m x.2 ∧ x.1.length + x.2.length ≤ 60 ∧ leastOf L = x.1 ++ leastOf x.2) (fun x => [some (.dat (eLots ev L)), some (.ol (x.1.map (eLot ev))), some (.dat (eLots ev x.2)), none, none]) L.length ([], L)
    ⟨⟨rfl, hv, by simpa using hl, by simp⟩, by walk_at "fg"⟩ (fun n x hx => ⟨decide ((0 : Int) < (x.2.length : Int)), b_test (e_opD (e_cb1 (e_var rfl) (rc_lenTn (List.length_map _))) e_int rp_gt), fun hb => ?_, fun hb => ?_⟩))
  · obtain ⟨found, rest⟩ := x
    obtain ⟨rfl, hvr, hlr, heq⟩ := hx
    have hlr : found.length + rest.length ≤ 60 := hlr
    have hpos : 0 < rest.length := by have := of_decide_eq_true hb; simp at this; exact this
    have hF := hvr.full
    refine d_seq (d_asgP (P := fun s => ∃ j, j ∈ headIx rest ∧ (∀ i ∈ headIx rest, lexB (rest.getD i []) (rest.getD j []) = false) ∧ s = .dat (.int (j : Int)))
      (e_op (A := fun s => ∃ j, j ∈ headIx rest ∧ (∀ i ∈ headIx rest, lexB (rest.getD i []) (rest.getD j []) = false) ∧ s = .dat (lotP ev (rest.getD j []) j)) (B := (· = .dat (.int 1)))
        (e_cb1 (s := .rl ((headIx rest).map fun j => lotP ev (rest.getD j []) j)) (EvP.rl (e_lcX (i_list (l_newD (e_callN (ea_cons (e_var rfl) ea_nil) ⟨rest, hvr, by omega, rfl, rfl⟩))) ?_ (by rw [List.length_map, List.length_map]) fun i d e hd he => ?_)) (rc_least ?_ ?_ ?_ ?_ ?_)) e_int
        fun s t ⟨j, h1, h2, e⟩ e2 => by
          rw [e, e2]
          exact (rp_ixT (j := 1) (d := .int (j : Int)) rfl).imp fun s e => ⟨j, h1, h2, e⟩) ?_ ?_)
    · rw [List.length_map]
      have := List.length_filter_le (fun j => !boundAt rest j) (List.range rest.length)
      rw [List.length_range] at this
      unfold headIx
      omega
    · rw [List.getElem?_map] at hd he
      cases q : (headIx rest)[i]? with
      | none => rw [q] at hd; cases hd
      | some j =>
        rw [q] at hd he
        cases hd
        cases he
        have hj : j < rest.length := (headIx_iff.mp (List.mem_of_getElem? q)).1
        exact ⟨_, _, gd_name, by decide, e_tup (ds := [eLot ev (rest.getD j []), .int (j : Int)]) (ea_cons (e_opD (e_var rfl) (e_var rfl) (rp_ixT (eLots_getD hj))) (ea_cons (e_var rfl) ea_nil))⟩
    · intro e
      have := headIx_ne (L := rest) (fun z => by rw [z] at hpos; cases hpos)
      exact this (List.map_eq_nil_iff.mp e)
    · rw [List.all_map]
      refine List.all_eq_true.mpr fun j hj => ?_
      have hj := (headIx_iff.mp hj).1
      show cl 9 (lotP ev (rest.getD j []) j) = true
      unfold lotP cl
      rw [List.all_cons, cl_eLot h (hvr _ (getD_mem hj)).2.2 7]
      rfl
    · intro a ha b hb
      obtain ⟨i, hi, rfl⟩ := List.mem_map.mp ha
      obtain ⟨j, hj, rfl⟩ := List.mem_map.mp hb
      exact (lotP_lt h (hvr _ (getD_mem (headIx_iff.mp hi).1)).2.2 (hvr _ (getD_mem (headIx_iff.mp hj).1)).2.2 i j).1
    · intro a ha e
      obtain ⟨i, hi, rfl⟩ := List.mem_map.mp ha
      cases e
    · intro d hd hmin
      obtain ⟨j, hj, rfl⟩ := List.mem_map.mp hd
      exact ⟨j, hj, fun i hi => (lotP_lt h (hvr _ (getD_mem (headIx_iff.mp hi).1)).2.2 (hvr _ (getD_mem (headIx_iff.mp hj).1)).2.2 i j).2 (hmin _ (List.mem_map.mpr ⟨i, hi, rfl⟩)), rfl⟩
    · rintro s ⟨j, _, _, rfl⟩ z
      cases z
    · rintro s ⟨j, h1, h2, rfl⟩
      obtain ⟨hj, e1, e2⟩ := pick_min hF h1 h2
      refine d_seq (d_app (d := eLot ev rest[j]) rfl (e_opD (e_var rfl) (e_var rfl) (rp_ixT (eLots_get hj))) (by rw [List.length_map]; show found.length < _; omega) ?_)
      refine d_asg (d := eLots ev (rest.take j ++ rest.drop (j + 1))) ?_ ⟨(rest.take j ++ rest.drop (j + 1)).length, (found ++ [rest[j]], rest.take j ++ rest.drop (j + 1)), ?_, ⟨rfl, ?_, ?_, ?_⟩, ?_⟩
      · unfold eLots
        rw [← eLots_cut]
        refine e_opD (e_slTo (e_var rfl) (e_var rfl) (by rw [List.length_map]; omega)) (e_slFrom (j := j + 1) (e_var rfl) (e_opD (e_var rfl) e_int rp_add) (by rw [List.length_map]; omega)) (rp_catT ?_)
        rw [List.length_take, List.length_drop, List.length_map]
        show min j rest.length + (rest.length - (j + 1)) ≤ _
        omega
      · have : (rest.take j ++ rest.drop (j + 1)).length + 1 = rest.length := cut_len hj
        show (rest.take j ++ rest.drop (j + 1)).length < rest.length
        omega
      · refine hvr.sub ?_
        rw [← e2]
        exact List.erase_sublist
      · have : (rest.take j ++ rest.drop (j + 1)).length + 1 = rest.length := cut_len hj
        show (found ++ [rest[j]]).length + (rest.take j ++ rest.drop (j + 1)).length ≤ 60
        rw [List.length_append (as := found), List.length_singleton]
        omega
      · rw [heq, least_turn e1, e2]
        simp
      · rw [List.map_append]
        walk_at "fg"
  · obtain ⟨found, rest⟩ := x
    obtain ⟨rfl, hvr, hlr, heq⟩ := hx
    have hz : rest = [] := by
      have := of_decide_eq_false hb
      simp at this
      exact this
    subst hz
    rw [least_nil, List.append_nil] at heq
    rw [heq] at hP
    exact d_ret (e_tupleD (e_ol rfl)) hP
/-! ### behind -/
abbrev s_behind : Stmt := topS 35
theorem sc_behind : FnScope ["lots", "kind", "seat"] ["lots", "kind"] (defScope s_behind) := ⟨rfl, rfl, rfl, by decide +kernel, rfl, by decide +kernel, by decide +kernel⟩
theorem bd_behind : Bd "behind" s_behind ["lots", "kind"] := fun _ _ _ _ _ _ us hl => match us, hl with | [_, _], _ => rfl
def behindL (L : Lots) (k : Nat) : Lots := if hasK L k = true then leastOf (stepL L k) else L
def aBehind (ev : List Str) (m : Nat) : Ask := fun ss P => ∃ L k, ValidL m L ∧ L.length ≤ 60 ∧ k < m ∧ ss = [.dat (eLots ev L), .dat (.str (kd ev k))] ∧ P (.dat (.tup [.bl (hasK L k), eLots ev (behindL L k)]))
theorem cBehind (h : MkOk mk ev m) (M : Mf mg) (c_first_seat : Cal P w K mg base 1 "first_seat" (spD (V0 w) (aFirstSeat ev m)) []) (c_least_of : Cal P w K mg base 4 "least_of" (spD (V0 w) (aLeast ev m)) []) (D : Dn K mg "behind" s_behind) : Cal P w K mg base 5 "behind" (spD (V0 w) (aBehind ev m)) [] := by
  have sc := sc_behind
  refine cal_of D sc bd_behind (fine1 fun ss P ⟨L, _, _, _, _, e, _⟩ => ⟨[_, _], e, rfl⟩) (by decide) fun f cdv A' outer s H E hr => ⟨_, (pss_cons (ps_set (i := 2) sc.nd rfl (by first | exact .inl rfl | exact .inr rfl) (pe_c c_first_seat hr (by decide) (by rfl) (pa_cons (pv 0) (pa_cons (pe_listRg rfl (by rfl) M.list_ (prg_1 (by rfl) M.range_ (pe_callB (show CallR _ _ (rLen K) from call_len_seq) (by rfl) M.len_ PySem.boot_len (pa_cons (pv 0) pa_nil)))) (pa_cons (pv 1) pa_nil)))))
      (pss_cons (ps_if (pt_cmpR op_isN (pv 2) pe_non (nomark _)) (pss_one (ps_ret (pe_tup (pa_cons pe_bl (pa_cons (pv 0) pa_nil))))) pss_nil)
      (pss_one (ps_ret (pe_tup (pa_cons pe_bl (pa_cons (pe_c c_least_of hr (by decide) (by rfl) (pa_cons (pe_op (show OpR _ _ (rCatA K) from op_catA) (pe_slice (show SlR _ (rSlA K) from sl_tupA) (pv 0) po_none (po_some (pv 2))) (pe_slice (show SlR _ (rSlA K) from sl_tupA) (pv 0) (po_some (pe_op op_add (pv 2) pe_int)) po_none)) pa_nil)) pa_nil))))))), ?_⟩
  rintro ss Pp ⟨L, k, hv, hl, hk, rfl, hP⟩
  refine d_seq (d_asg (d := seatD (seatOf L k)) (e_callD (ss := [.dat (eLots ev L), .rl (rngD 0 L.length), .dat (.str (kd ev k))]) (ea_cons (e_var rfl) (ea_cons (e_lstRg (e_cb1 (e_var rfl) (rc_lenTn (List.length_map _))) (by omega)).rl (ea_cons (e_var rfl) ea_nil))) ⟨L, k, hv, hk, rfl, rfl⟩) ?_)
  cases q : seatOf L k with
  | none =>
    have hh := (seat_step (L := L) (k := k)).2 q
    have e : behindL L k = L := by unfold behindL; rw [hh, if_neg (by decide)]
    rw [e, hh] at hP
    refine d_seq (d_ifD (b := true) (b_test (e_opD (e_var rfl) e_non rp_isNn)) (fun _ => d_ret (e_tup (ds := [.bl false, eLots ev L]) (ea_cons e_bl (ea_cons (e_var rfl) ea_nil))) hP) fun z => by cases z)
  | some i =>
    obtain ⟨h1, h2, h3⟩ := (seat_step (L := L) (k := k)).1 i q
    have e : behindL L k = leastOf (stepL L k) := by unfold behindL; rw [h1, if_pos rfl]
    rw [e, h1] at hP
    refine d_seq (d_ifD (b := false) (b_test (e_opD (e_var rfl) e_non (rp_isN (fun z => by cases z)))) (fun z => by cases z) fun _ => d_next ?_)
    refine d_ret (e_tup (ds := [.bl true, eLots ev (leastOf (stepL L k))]) (ea_cons e_bl (ea_cons (e_callD (ss := [.dat (eLots ev (stepL L k))]) (ea_cons ?_ ea_nil) ⟨stepL L k, hv.step k, ?_, rfl, rfl⟩) ea_nil))) hP
    · rw [h2]
      unfold eLots
      rw [← eLots_cut]
      refine e_opD (e_slTo (e_var rfl) (e_var rfl) (by rw [List.length_map]; omega)) (e_slFrom (j := i + 1) (e_var rfl) (e_opD (e_var rfl) e_int rp_add) (by rw [List.length_map]; omega)) (rp_catT ?_)
      rw [List.length_take, List.length_drop, List.length_map]
      omega
    · have := (step_sub L k).length_le
      omega
/-! ### all_kinds -/
def kindsTo : List Str → List Nat → List Str
  | f, [] => f
  | f, c :: r => kindsTo (f ++ f.map fun x => x ++ ⟨#[c]⟩) r
theorem kindsTo_snoc : ∀ (r : List Nat) (f : List Str) (c : Nat), kindsTo f (r ++ [c]) = kindsTo f r ++ (kindsTo f r).map fun x => x ++ ⟨#[c]⟩
  | [], _, _ => rfl
  | d :: r, f, c => kindsTo_snoc r _ c
def foundOf (mk : Str) (i : Nat) : List Str := kindsTo [""] (mk.cps.toList.take i)
theorem found_step {mk : Str} {i c : Nat} (h : mk.cps.toList[i]? = some c) : foundOf mk (i + 1) = foundOf mk i ++ (foundOf mk i).map fun x => x ++ ⟨#[c]⟩ := by
  unfold foundOf
  rw [List.take_add_one, h]
  exact kindsTo_snoc _ _ c
theorem found_len {mk : Str} : ∀ i, i ≤ mk.cps.toList.length → (foundOf mk i).length ≤ 2 ^ i ∧ ∀ x ∈ foundOf mk i, x.length ≤ i
  | 0, _ => by
    unfold foundOf
    rw [List.take_zero]
    exact ⟨Nat.le_refl 1, fun x hx => by rw [List.mem_singleton.mp hx]; exact Nat.le_refl 0⟩
  | i + 1, h => by
    obtain ⟨h1, h2⟩ := found_len (mk := mk) i (by omega)
    rw [found_step (mk := mk) (List.getElem?_eq_getElem (by omega : i < mk.cps.toList.length))]
    refine ⟨by rw [List.length_append, List.length_map, Nat.pow_succ]; omega, fun x hx => ?_⟩
    rcases List.mem_append.mp hx with hx | hx
    · exact Nat.le_succ_of_le (h2 x hx)
    · obtain ⟨y, hy, rfl⟩ := List.mem_map.mp hx
      have q := h2 y hy
      show (y.cps ++ #[_]).size ≤ i + 1
      rw [Array.size_append]
      have e : y.cps.size = y.length := rfl
      have e2 : (#[mk.cps.toList[i]] : Array Nat).size = 1 := rfl
      omega
structure MkKinds (mk : Str) (ev : List Str) : Prop where
  sz : mk.cps.toList.length ≤ 5
  perm : ev.Perm (foundOf mk mk.cps.toList.length)
  srt : sortedS ev = true
abbrev s_all_kinds : Stmt := topS 19
theorem sc_all_kinds : FnScope ["marks", "found", "mark", "kind"] ["marks"] (defScope s_all_kinds) := ⟨rfl, rfl, rfl, by decide +kernel, rfl, by decide +kernel, by decide +kernel⟩
theorem bd_all_kinds : Bd "all_kinds" s_all_kinds ["marks"] := fun _ _ _ _ _ _ us hl => match us, hl with | [_], _ => rfl
def a_all_kinds (mk : Str) (ev : List Str) : Ask := fun ss P => ss = [.dat (.str mk)] ∧ P (.ol (ev.map .str))
theorem cAllKinds (h : MkKinds mk ev) (M : Mf mg) (D : Dn K mg "all_kinds" s_all_kinds) : Cal P w K mg base 1 "all_kinds" (spD (V0 w) (a_all_kinds mk ev)) [] := by
  have sc := sc_all_kinds
  refine cal_of D sc bd_all_kinds (fine1 fun ss P ⟨e, _⟩ => ⟨[_], e, rfl⟩) (by decide) fun f cdv A' outer s H E hr => ⟨_, (pss_cons (ps_set (i := 1) sc.nd rfl (by first | exact .inl rfl | exact .inr rfl) (pe_lst (pa_cons pe_str pa_nil)))
      (pss_cons (ps_for PassesOwn.never rfl (pi_str (pv 0)) (pg_name (i := 2) sc.nd rfl (by first | exact .inl rfl | exact .inr rfl)) (pss_one (ps_set (i := 1) sc.nd rfl (by first | exact .inl rfl | exact .inr rfl) (pe_op op_cat (pv 1) (pe_lc rfl sc.nd (show PI _ _ _ (iList K _) from pi_list (pv 1)) (blk_of (N := ["marks", "found", "mark", "kind"]) (sc := defScope s_all_kinds) (own := [("kind", 3)]) (by decide +kernel)) (fun _ _ _ _ _ => (pg_name (i := 3) sc.nd rfl (by first | exact .inl rfl | exact .inr rfl))) (fun _ _ _ _ _ => pts_nil) (fun _ _ _ _ _ => (pe_op op_add_str (pv 3) (pv 2))))))))
      (pss_one (ps_ret (pe_callB (show CallR _ _ (rSortedS K) from cr_sortedS) (by rfl) M.sorted_ boot_sorted (pa_cons (pv 1) pa_nil)))))), ?_⟩
  rintro ss Pp ⟨rfl, hP⟩
  have hsl : (signs mk).length = mk.cps.toList.length := by unfold signs; rw [List.length_map]
  refine d_seq (d_asgN (e_lst (ds := [.str ""]) (ea_cons e_str ea_nil)) ?_)
  refine d_seq (d_forE (fun i => [some (.dat (.str mk)), some (.ol ((foundOf mk i).map .str)), none, none]) (i_str (e_var rfl)) (by walk_at "fg") (fun i d hd => ?_) ?_)
  · unfold signs at hd
    rw [List.getElem?_map] at hd
    cases q : mk.cps.toList[i]? with
    | none => rw [q] at hd; cases hd
    | some c =>
      rw [q] at hd
      cases hd
      have hi : i < mk.cps.toList.length := (List.getElem?_eq_some_iff.mp q).1
      obtain ⟨l1, l2⟩ := found_len i (Nat.le_of_lt hi)
      have l3 : 2 ^ i ≤ 2 ^ 5 := Nat.pow_le_pow_right (by decide) (by have := h.sz; omega)
      refine ⟨_, _, gd_name, d_asgN (ds := (foundOf mk (i + 1)).map .str) (EvP.fg (E' := [some (.dat (.str mk)), some (.rl ((foundOf mk i).map .str)), some (.dat (.str ⟨#[c]⟩)), none]) ?_ (by walk_at "fg")) ?_⟩
      · rw [found_step q, List.map_append]
        refine e_opD (e_rl rfl) (EvP.rl (e_lcX (es := ((foundOf mk i).map fun x => x ++ (⟨#[c]⟩ : Str)).map .str) (i_list (l_rl rfl)) ?_ ?_ fun j d e hd he => ?_)) (rp_catL ?_)
        · rw [List.length_map]; omega
        · rw [List.length_map, List.length_map, List.length_map]
        · rw [List.getElem?_map] at hd
          rw [List.getElem?_map, List.getElem?_map] at he
          cases z : (foundOf mk i)[j]? with
          | none => rw [z] at hd; cases hd
          | some x =>
            rw [z] at hd he
            cases hd
            cases he
            refine ⟨_, _, gd_name, by decide, e_opD (e_var rfl) (e_var rfl) (rp_addS ?_)⟩
            have := l2 x (List.mem_of_getElem? z)
            have := h.sz
            show x.length + 1 ≤ _
            omega
        · rw [List.length_map, List.length_map, List.length_map]; omega
      · show Fg _ _
        walk_at "fg"
  · rw [hsl]
    refine d_retN (e_cb1 (e_ol rfl) (rc_sorted ?_ h.perm h.srt)) hP
    have := (found_len mk.cps.toList.length (Nat.le_refl _)).1
    have l3 : 2 ^ mk.cps.toList.length ≤ 2 ^ 5 := Nat.pow_le_pow_right (by decide) h.sz
    omega
abbrev s__law_kinds : Stmt := topS 55
theorem sc__law_kinds : FnScope ["_law_marks_here", "_law_found", "_law_mark", "_law_kind"] ["_law_marks_here"] (defScope s__law_kinds) := ⟨rfl, rfl, rfl, by decide +kernel, rfl, by decide +kernel, by decide +kernel⟩
theorem bd__law_kinds : Bd "_law_kinds" s__law_kinds ["_law_marks_here"] := fun _ _ _ _ _ _ us hl => match us, hl with | [_], _ => rfl
def a__law_kinds (mk : Str) (ev : List Str) : Ask := fun ss P => ss = [.dat (.str mk)] ∧ P (.ol (ev.map .str))
theorem cLawKinds (h : MkKinds mk ev) (M : Mf mg) (D : Dn K mg "_law_kinds" s__law_kinds) : Cal P w K mg base 1 "_law_kinds" (spD (V0 w) (a__law_kinds mk ev)) [] := by
  have sc := sc__law_kinds
  refine cal_of D sc bd__law_kinds (fine1 fun ss P ⟨e, _⟩ => ⟨[_], e, rfl⟩) (by decide) fun f cdv A' outer s H E hr => ⟨_, (pss_cons (ps_set (i := 1) sc.nd rfl (by first | exact .inl rfl | exact .inr rfl) (pe_lst (pa_cons pe_str pa_nil)))
      (pss_cons (ps_for PassesOwn.never rfl (pi_str (pv 0)) (pg_name (i := 2) sc.nd rfl (by first | exact .inl rfl | exact .inr rfl)) (pss_one (ps_set (i := 1) sc.nd rfl (by first | exact .inl rfl | exact .inr rfl) (pe_op op_cat (pv 1) (pe_lc rfl sc.nd (show PI _ _ _ (iList K _) from pi_list (pv 1)) (blk_of (N := ["_law_marks_here", "_law_found", "_law_mark", "_law_kind"]) (sc := defScope s__law_kinds) (own := [("_law_kind", 3)]) (by decide +kernel)) (fun _ _ _ _ _ => (pg_name (i := 3) sc.nd rfl (by first | exact .inl rfl | exact .inr rfl))) (fun _ _ _ _ _ => pts_nil) (fun _ _ _ _ _ => (pe_op op_add_str (pv 3) (pv 2))))))))
      (pss_one (ps_ret (pe_callB (show CallR _ _ (rSortedS K) from cr_sortedS) (by rfl) M.sorted_ boot_sorted (pa_cons (pv 1) pa_nil)))))), ?_⟩
  rintro ss Pp ⟨rfl, hP⟩
  have hsl : (signs mk).length = mk.cps.toList.length := by unfold signs; rw [List.length_map]
  refine d_seq (d_asgN (e_lst (ds := [.str ""]) (ea_cons e_str ea_nil)) ?_)
  refine d_seq (d_forE (fun i => [some (.dat (.str mk)), some (.ol ((foundOf mk i).map .str)), none, none]) (i_str (e_var rfl)) (by walk_at "fg") (fun i d hd => ?_) ?_)
  · unfold signs at hd
    rw [List.getElem?_map] at hd
    cases q : mk.cps.toList[i]? with
    | none => rw [q] at hd; cases hd
    | some c =>
      rw [q] at hd
      cases hd
      have hi : i < mk.cps.toList.length := (List.getElem?_eq_some_iff.mp q).1
      obtain ⟨l1, l2⟩ := found_len i (Nat.le_of_lt hi)
      have l3 : 2 ^ i ≤ 2 ^ 5 := Nat.pow_le_pow_right (by decide) (by have := h.sz; omega)
      refine ⟨_, _, gd_name, d_asgN (ds := (foundOf mk (i + 1)).map .str) (EvP.fg (E' := [some (.dat (.str mk)), some (.rl ((foundOf mk i).map .str)), some (.dat (.str ⟨#[c]⟩)), none]) ?_ (by walk_at "fg")) ?_⟩
      · rw [found_step q, List.map_append]
        refine e_opD (e_rl rfl) (EvP.rl (e_lcX (es := ((foundOf mk i).map fun x => x ++ (⟨#[c]⟩ : Str)).map .str) (i_list (l_rl rfl)) ?_ ?_ fun j d e hd he => ?_)) (rp_catL ?_)
        · rw [List.length_map]; omega
        · rw [List.length_map, List.length_map, List.length_map]
        · rw [List.getElem?_map] at hd
          rw [List.getElem?_map, List.getElem?_map] at he
          cases z : (foundOf mk i)[j]? with
          | none => rw [z] at hd; cases hd
          | some x =>
            rw [z] at hd he
            cases hd
            cases he
            refine ⟨_, _, gd_name, by decide, e_opD (e_var rfl) (e_var rfl) (rp_addS ?_)⟩
            have := l2 x (List.mem_of_getElem? z)
            have := h.sz
            show x.length + 1 ≤ _
            omega
        · rw [List.length_map, List.length_map, List.length_map]; omega
      · show Fg _ _
        walk_at "fg"
  · rw [hsl]
    refine d_retN (e_cb1 (e_ol rfl) (rc_sorted ?_ h.perm h.srt)) hP
    have := (found_len mk.cps.toList.length (Nat.le_refl _)).1
    have l3 : 2 ^ mk.cps.toList.length ≤ 2 ^ 5 := Nat.pow_le_pow_right (by decide) h.sz
    omega
end
end K13
end
section
set_option Elab.async false
set_option linter.all false
set_option maxRecDepth 100000
set_option maxHeartbeats 4000000
set_option autoImplicit false
local macro_rules | `(tactic| walk_at "fg") => `(tactic| (repeat' (first | exact True.intro | exact rfl | constructor)))
namespace K13
open PySem PySem.Spec PyProof.Rows L2 C8
section
variable {P : Program} {w : World} {K : PySem.W.Frag} {mg : Str → Option Value} {base : Heap} {mk : Str} {ev : List Str} {m : Nat}
/-! ### counts_at -/
abbrev s_counts_at : Stmt := topS 41
theorem sc_counts_at : FnScope ["moves", "at", "found", "number", "many", "here"] ["moves", "at"] (defScope s_counts_at) := ⟨rfl, rfl, rfl, by decide +kernel, rfl, by decide +kernel, by decide +kernel⟩
theorem bd_counts_at : Bd "counts_at" s_counts_at ["moves", "at"] := fun _ _ _ _ _ _ us hl => match us, hl with | [_, _], _ => rfl
def aCounts (m : Nat) : Ask := fun ss P => ∃ M s, RuleOk M m ∧ s < M.length ∧ ss = [.dat (eMoves M), .dat (.int (s : Int))] ∧ P (oCnt (countsAt M m s))
theorem cCounts (hm : m ≤ 16) (M : Mf mg) (D : Dn K mg "counts_at" s_counts_at) : Cal P w K mg base 1 "counts_at" (spD (V0 w) (aCounts m)) [] := by
  have sc := sc_counts_at
  refine cal_of D sc bd_counts_at (fine1 fun ss P ⟨_, _, _, _, e, _⟩ => ⟨[_, _], e, rfl⟩) (by decide) fun f cdv A' outer s H E hr => ⟨_, (pss_cons (ps_set (i := 2) sc.nd rfl (by first | exact .inl rfl | exact .inr rfl) (pe_lst pa_nil))
      (pss_cons (ps_for PassesOwn.never rfl (pi_range1 (by rfl) M.range_ (pa_cons (pe_callB (show CallR _ _ (rLen K) from call_len_seq) (by rfl) M.len_ PySem.boot_len (pa_cons (pe_ix (show IxR _ (rIxT K) from ix_tup) (pv 0) pe_int (fun _ _ => rfl)) pa_nil)) pa_nil)) (pg_name (i := 3) sc.nd rfl (by first | exact .inl rfl | exact .inr rfl)) (pss_cons (ps_set (i := 4) sc.nd rfl (by first | exact .inl rfl | exact .inr rfl) pe_int)
      (pss_cons (ps_set (i := 5) sc.nd rfl (by first | exact .inl rfl | exact .inr rfl) (pv 1))
      (pss_cons (ps_while PassesOwn.never (pt_val (pe_ix (show IxR _ (rIxT K) from ix_tup) (pe_ix (show IxR _ (rIxT K) from ix_tup) (pe_ix (show IxR _ (rIxT K) from ix_tup) (pv 0) (pv 5) (fun _ _ => rfl)) (pv 3) (fun _ _ => rfl)) pe_int (fun _ _ => rfl))) (pss_cons (ps_aug (i := 4) sc.nd rfl (by first | exact .inl rfl | exact .inr rfl) pe_int ip_add)
      (pss_cons (ps_set (i := 5) sc.nd rfl (by first | exact .inl rfl | exact .inr rfl) (pe_ix (show IxR _ (rIxT K) from ix_tup) (pe_ix (show IxR _ (rIxT K) from ix_tup) (pe_ix (show IxR _ (rIxT K) from ix_tup) (pv 0) (pv 5) (fun _ _ => rfl)) (pv 3) (fun _ _ => rfl)) pe_int (fun _ _ => rfl)))
      (pss_one (ps_if (pt_cmpR op_gt (pv 4) (pe_gc (by rfl) M.MOST_KNOWN) (nomark _)) (pss_one (ps_ret pe_non)) pss_nil)))))
      (pss_one (ps_expr (show PE _ _ (tBM K _ _ _ _) from pe_bm PySem.F.plainAttrs_list PySem.F.slot_list_append PySem.F.type_list_append mt_append (pv 2) (pa_cons (pv 4) pa_nil))))))))
      (pss_one (ps_ret (pv 2))))), ?_⟩
  rintro ss Pp ⟨R, s, hR, hs, rfl, hP⟩
  have h0 : (R.getD 0 []).length = m := hR.rowLen hR.pos
  refine d_seq (d_asgN (e_lst (ds := []) ea_nil) ?_)
  refine d_seq (d_forF (fun i => ∀ k < i, (cnt R k 13 s).isSome = true) (fun i => [some (.dat (eMoves R)), some (.dat (.int (s : Int))), some (.ol (iL ((List.range i).map fun k => (cnt R k 13 s).getD 0))), none, none, none])
    (i_range1D (n := m) (e_cb1 (e_row (s := 0) (e_var rfl) e_int hR.pos) (rc_lenTn (by rw [List.length_map]; exact h0))) (by omega)) ⟨fun k hk => by omega, by walk_at "fg"⟩ (fun i d hd hi => ?_) fun hi => ?_)
  · obtain ⟨rfl, hk⟩ := rng0_get hd
    refine ⟨_, _, gd_name, d_seq (d_asg e_int ?_)⟩
    refine d_seq (d_asg (e_var rfl) ?_)
    refine d_seq (d_whileS (α := Nat × Nat) (fun n x => n = 13 - x.1 ∧ x.1 ≤ 12 ∧ x.2 < R.length ∧ cnt R i 13 s = (cnt R i (13 - x.1) x.2).map (· + x.1)) (fun x => [some (.dat (eMoves R)), some (.dat (.int (s : Int))), some (.ol (iL ((List.range i).map fun k => (cnt R k 13 s).getD 0))), some (.dat (.int (i : Int))), some (.dat (.int (x.1 : Int))), some (.dat (.int (x.2 : Int)))]) 13 (0, s)
      ⟨⟨rfl, Nat.zero_le _, hs, by simp⟩, by walk_at "fg"⟩ (fun n x hx => ⟨(mvR R x.2 i).1, b_val (e_flag hR (e_var rfl) (e_var rfl) (e_var rfl) hx.2.2.1 hk), fun hb => ?_, fun hb => ?_⟩))
    · obtain ⟨many, here⟩ := x
      obtain ⟨rfl, h12, hh, hc⟩ := hx
      have h12 : many ≤ 12 := h12
      have hb : (mvR R here i).1 = true := hb
      have hc : cnt R i 13 s = (cnt R i (13 - many) here).map (· + many) := hc
      have e13 : 13 - many = (12 - many) + 1 := by omega
      have next : cnt R i 13 s = (cnt R i (12 - many) (mvR R here i).2).map (· + (many + 1)) := by
        rw [hc, e13, show cnt R i (12 - many + 1) here = (if (mvR R here i).1 = true then (cnt R i (12 - many) (mvR R here i).2).map (· + 1) else some 0) from rfl, hb, if_pos rfl, Option.map_map]
        congr 1
        funext x
        show x + 1 + many = x + (many + 1)
        omega
      refine d_seq (d_aug (f := fun i j => i + j) (a := (many : Int)) (b := 1) rfl e_int ?_)
      refine d_seq (d_asg (e_goal hR (e_var rfl) (e_var rfl) (e_var rfl) hh hk) ?_)
      refine d_ifD (b := decide ((12 : Int) < (many : Int) + 1)) (b_test (e_opD (e_var rfl) e_int rp_gt)) (fun hz => ?_) fun hz => d_next ?_
      · have hz := of_decide_eq_true hz
        have e : many = 12 := by omega
        subst e
        have hn : cnt R i 13 s = none := by rw [next]; rfl
        rw [countsAt_none hk hn] at hP
        exact d_ret e_non hP
      · have hz := of_decide_eq_false hz
        refine ⟨12 - many, (many + 1, (mvR R here i).2), by show 12 - many < 13 - many; omega, ⟨by show 12 - many = 13 - (many + 1); omega, by show many + 1 ≤ 12; omega, hR.next, ?_⟩, ?_⟩
        · rw [next]
          show _ = (cnt R i (13 - (many + 1)) _).map _
          rw [show 13 - (many + 1) = 12 - many by omega]
        · show Fg _ _
          rw [show ((many + 1 : Nat) : Int) = (many : Int) + 1 by omega]
          walk_at "fg"
    · obtain ⟨many, here⟩ := x
      obtain ⟨rfl, h12, hh, hc⟩ := hx
      have h12 : many ≤ 12 := h12
      have hb : (mvR R here i).1 = false := hb
      have hc : cnt R i 13 s = (cnt R i (13 - many) here).map (· + many) := hc
      have hn : cnt R i 13 s = some many := by
        rw [hc, show 13 - many = (12 - many) + 1 by omega]
        unfold cnt
        rw [hb, if_neg (by decide)]
        simp
      refine d_app (d := .int (many : Int)) rfl (e_var rfl) (by rw [iL_len, List.length_map, List.length_range]; omega) ⟨fun k hk2 => ?_, ?_⟩
      · by_cases e : k = i
        · rw [e, hn]; rfl
        · exact hi k (by omega)
      · show Fg _ _
        have e : iL ((List.range i).map fun k => (cnt R k 13 s).getD 0) ++ [.int (many : Int)] = iL ((List.range (i + 1)).map fun k => (cnt R k 13 s).getD 0) := by
          rw [List.range_succ, List.map_append]
          unfold iL
          rw [List.map_append]
          show _ = _ ++ [Dt.int (((cnt R i 13 s).getD 0 : Nat) : Int)]
          rw [hn]
          rfl
        rw [e]
        walk_at "fg"
  · rw [rngD_len] at hi ⊢
    rw [countsAt_some hi] at hP
    exact d_retO rfl hP
/-! ### lot_taken -/
abbrev s_lot_taken : Stmt := topS 42
theorem sc_lot_taken : FnScope ["moves", "at", "number", "counts", "later", "had", "have", "which"] ["moves", "at", "number", "counts"] (defScope s_lot_taken) := ⟨rfl, rfl, rfl, by decide +kernel, rfl, by decide +kernel, by decide +kernel⟩
theorem bd_lot_taken : Bd "lot_taken" s_lot_taken ["moves", "at", "number", "counts"] := fun _ _ _ _ _ _ us hl => match us, hl with | [_, _, _, _], _ => rfl
def aTaken (m : Nat) : Ask := fun ss P => ∃ M s k cs, RuleOk M m ∧ s < M.length ∧ k < m ∧ cs.length = m ∧ ss = [.dat (eMoves M), .dat (.int (s : Int)), .dat (.int (k : Int)), .rl (iL cs)] ∧ P (.dat (oLot (lotTaken M m s k cs)))
theorem cTaken (hm : m ≤ 16) (M : Mf mg) (c_counts_at : Cal P w K mg base 1 "counts_at" (spD (V0 w) (aCounts m)) []) (D : Dn K mg "lot_taken" s_lot_taken) : Cal P w K mg base 2 "lot_taken" (spD (V0 w) (aTaken m)) [] := by
  have sc := sc_lot_taken
  refine cal_of D sc bd_lot_taken (⟨fun ss P ⟨_, _, _, _, _, _, _, _, e, _⟩ => by subst e; exact ⟨rfl, fun s hs => by simp at hs; rcases hs with h | h | h | h <;> subst h <;> rfl⟩⟩) (by decide) fun f cdv A' outer s H E hr => ⟨_, (pss_cons (ps_set (i := 4) sc.nd rfl (by first | exact .inl rfl | exact .inr rfl) (pe_c c_counts_at hr (by decide) (by rfl) (pa_cons (pv 0) (pa_cons (pe_ix (show IxR _ (rIxT K) from ix_tup) (pe_ix (show IxR _ (rIxT K) from ix_tup) (pe_ix (show IxR _ (rIxT K) from ix_tup) (pv 0) (pv 1) (fun _ _ => rfl)) (pv 2) (fun _ _ => rfl)) pe_int (fun _ _ => rfl)) pa_nil))))
      (pss_cons (ps_if (pt_cmpR op_isN (pv 4) pe_non (nomark _)) (pss_one (ps_ret pe_non)) pss_nil)
      (pss_cons (ps_if (pt_val (pe_callB (show CallR _ _ (rAny K) from (cr_any rfl)) (by rfl) M.any_ boot_any_ (pa_cons (pe_lc rfl sc.nd (show PI _ _ _ (RZ.iZipA K _) from RZ.pi_zipA (by rfl) M.zip_ (pa_cons (pv 3) (pa_cons (pv 4) pa_nil))) (blk_of (N := ["moves", "at", "number", "counts", "later", "had", "have", "which"]) (sc := defScope s_lot_taken) (own := [("had", 5), ("have", 6)]) (by decide +kernel)) (fun _ _ _ _ _ => (show PG _ _ (gTup K 2 _) from pg_tup rfl (pgs_cons (pg_name (i := 5) sc.nd rfl (by first | exact .inl rfl | exact .inr rfl)) (pgs_cons (pg_name (i := 6) sc.nd rfl (by first | exact .inl rfl | exact .inr rfl)) pgs_nil)))) (fun _ _ _ _ _ => pts_nil) (fun _ _ _ _ _ => (pe_cmpR (show OpR _ _ (rIn K true) from op_notIn_seq) (pv 6) (pe_tup (pa_cons (pv 5) (pa_cons (pe_op op_sub (pv 5) pe_int) pa_nil))) (by rfl)))) pa_nil))) (pss_one (ps_ret pe_non)) pss_nil)
      (pss_one (ps_ret (show PE _ _ (tThen _ (kTup K)) from pe_tupleOf (by rfl) M.tuple_ (pe_lc rfl sc.nd (pi_range1 (by rfl) M.range_ (pa_cons (pe_callB (show CallR _ _ (rLen K) from call_len_seq) (by rfl) M.len_ PySem.boot_len (pa_cons (pv 3) pa_nil)) pa_nil)) (blk_of (N := ["moves", "at", "number", "counts", "later", "had", "have", "which"]) (sc := defScope s_lot_taken) (own := [("which", 7)]) (by decide +kernel)) (fun _ _ _ _ _ => (pg_name (i := 7) sc.nd rfl (by first | exact .inl rfl | exact .inr rfl))) (fun _ _ _ _ _ => (pts_one (pt_cmpR op_eq (pe_ix (show IxR _ (rIxL K) from ix_list) (pv 4) (pv 7) (fun _ _ => rfl)) (pe_op op_sub (pe_ix (show IxR _ (rIxL K) from ix_list) (pv 3) (pv 7) (fun _ _ => rfl)) pe_int) (nomark _)))) (fun _ _ _ _ _ => (pv 7))))))))), ?_⟩
  rintro ss Pp ⟨R, s, k, cs, hR, hs, hk, hcs, rfl, hP⟩
  refine d_seq (d_asgP (P := (· = oCnt (countsAt R m (mvR R s k).2))) (e_call (ss := [.dat (eMoves R), .dat (.int ((mvR R s k).2 : Int))]) (ea_cons (e_var rfl) (ea_cons (e_goal hR (e_var rfl) (e_var rfl) (e_var rfl) hs hk) ea_nil)) ⟨R, _, hR, hR.next, rfl, rfl⟩ (oCnt_own _)) (oCnt_own _) ?_)
  rintro s' rfl
  unfold lotTaken at hP
  cases q : countsAt R m (mvR R s k).2 with
  | none =>
    rw [q] at hP
    exact d_seq (d_ifD (b := true) (b_test (e_opD (e_var rfl) e_non rp_isNn)) (fun _ => d_ret e_non hP) fun z => by cases z)
  | some later =>
    rw [q] at hP
    have hlen := counts_len q
    have hP : Pp (.dat (oLot (if oddOne m cs later then none else some (lessOnes m cs later)))) := hP
    refine d_weak (E' := [some (.dat (eMoves R)), some (.dat (.int (s : Int))), some (.dat (.int (k : Int))), some (.rl (iL cs)), some (.rl (iL later)), none, none, none]) ?_ (by walk_at "fg")
    refine d_seq (d_ifD (b := false) (b_test (e_op (A := (· = .rl (iL later))) (B := (· = .dat .non)) (e_rl rfl) e_non fun s t e1 e2 => ?_)) (fun z => by cases z) fun _ => d_next ?_)
    · subst e1 e2
      intro H x y iv hx hy Q q
      refine ⟨DT.non_inv hy, ?_⟩
      obtain ⟨a, xs, rfl, _⟩ := hx
      rw [decide_eq_false (fun z => by cases z)]
      exact Post.dat q rfl iv (.bl _)
    have zl : (zipD (iL cs) (iL later)).length = m := by rw [zip_len, iL_len, iL_len, hcs, hlen]; omega
    refine d_seq (d_ifD (b := oddOne m cs later) (b_val ?_) (fun hb => ?_) fun hb => d_next ?_)
    · have e : oddOne m cs later = (List.range (zipD (iL cs) (iL later)).length).any fun j => !(decide (later.getD j 0 = cs.getD j 0) || decide (later.getD j 0 + 1 = cs.getD j 0)) := by rw [zl]; rfl
      rw [e]
      refine e_anyM _ (i_zipV rfl rfl) (by rw [zl]; omega) fun j d hd => ?_
      obtain ⟨a, b, h1, h2, rfl⟩ := zip_inv hd
      obtain ⟨_, rfl⟩ := iL_inv h1
      obtain ⟨_, rfl⟩ := iL_inv h2
      refine ⟨_, _, gd_tup (gds_cons gd_name (gds_cons gd_name gds_nil)), by decide, ?_⟩
      have e2 : (decide (later.getD j 0 = cs.getD j 0) || decide (later.getD j 0 + 1 = cs.getD j 0)) = decide (((later.getD j 0 : Nat) : Int) ∈ [((cs.getD j 0 : Nat) : Int), ((cs.getD j 0 : Nat) : Int) - 1]) := by
        rw [Bool.eq_iff_iff, Bool.or_eq_true, decide_eq_true_eq, decide_eq_true_eq, decide_eq_true_eq, List.mem_cons, List.mem_singleton]
        omega
      rw [e2]
      exact e_opD (e_var rfl) (e_tup (ds := [((cs.getD j 0 : Nat) : Int), ((cs.getD j 0 : Nat) : Int) - 1].map .int) (ea_cons (e_var rfl) (ea_cons (e_opD (e_var rfl) e_int rp_sub) ea_nil))) rp_ninI
    · rw [hb] at hP
      exact d_ret e_non hP
    · rw [hb] at hP
      refine d_ret (d := iLot (lessOnes m cs later)) (e_tupleN (e_lcFn (n := m) (fun j => decide (later.getD j 0 + 1 = cs.getD j 0)) (fun j => .int (j : Int)) (i_range1D (n := m) (e_cb1 (e_rl rfl) (rc_lenLn (by rw [iL_len, hcs]))) (by omega)) (rngD_len _ _) (by omega) rfl fun j d hd => ?_)) hP
      obtain ⟨rfl, hj⟩ := rng0_get hd
      refine ⟨_, _, gd_name, by decide, ?_, fun _ => e_var rfl⟩
      have e2 : decide (later.getD j 0 + 1 = cs.getD j 0) = decide (((later.getD j 0 : Nat) : Int) = ((cs.getD j 0 : Nat) : Int) - 1) := by rw [Bool.eq_iff_iff, decide_eq_true_eq, decide_eq_true_eq]; omega
      rw [e2]
      exact b_test (e_opD (e_opD (e_rl rfl) (e_var rfl) (rp_ixL (iL_get (by omega)))) (e_opD (e_opD (e_rl rfl) (e_var rfl) (rp_ixL (iL_get (by omega)))) e_int rp_sub) rp_eqI)
end
end K13
end
section
set_option Elab.async false
set_option linter.all false
set_option maxRecDepth 100000
set_option maxHeartbeats 4000000
set_option autoImplicit false
local macro_rules | `(tactic| walk_at "fg") => `(tactic| (repeat' (first | exact True.intro | exact rfl | constructor)))
namespace K13
open PySem PySem.Spec PyProof.Rows L2 C8
section
variable {P : Program} {w : World} {K : PySem.W.Frag} {mg : Str → Option Value} {base : Heap} {mk : Str} {ev : List Str} {m : Nat}
theorem rp_isNl {U : Vol} {ds : List Dt} : RP U (fun x y H Q => y = .non ∧ Q (.bl (decide (x = .non))) H) (.rl ds) (.dat .non) (· = .dat (.bl false)) := fun H x y iv hx hy Q q => by
  refine ⟨DT.non_inv hy, ?_⟩
  obtain ⟨a, xs, rfl, _⟩ := hx
  rw [decide_eq_false (fun z => by cases z)]
  exact Post.dat q rfl iv (.bl _)
theorem iLot_cl {a : Lot} (n : Nat) : cl (n + 1) (iLot a) = true := by
  unfold iLot cl
  rw [List.all_map]
  exact List.all_eq_true.mpr fun k _ => by cases n <;> rfl
theorem oLot_cl (o : Option Lot) (n : Nat) : cl (n + 1) (oLot o) = true := by
  cases o with
  | none => rfl
  | some a => exact iLot_cl n
theorem iLot_inj {a b : Lot} : iLot a = iLot b ↔ a = b := by
  constructor
  · intro h
    unfold iLot at h
    have h := Dt.tup.inj h
    have f : ∀ x y : Nat, Dt.int (x : Int) = Dt.int (y : Int) → x = y := fun x y e => by have := Dt.int.inj e; omega
    exact (List.map_inj_right f).mp h
  · intro h; rw [h]
/-- all lots tell somebody -/
def plain (os : List (Option Lot)) : List Lot := os.map fun o => o.getD []
theorem plain_data {os : List (Option Lot)} (h : os.any (fun o => decide (o = none)) = false) : os.map oLot = (plain os).map iLot := by
  unfold plain
  rw [List.map_map]
  refine List.map_congr_left fun o ho => ?_
  rw [List.any_eq_false] at h
  have q := h o ho
  cases o with
  | none => simp at q
  | some a => rfl
theorem lotsR_mem {R : Moves} {s : Nat} {cs : List Nat} {a : Lot} (ha : a ∈ plain (lotsR R m s cs)) : ∀ j ∈ a, j < m := by
  unfold plain lotsR at ha
  rw [List.map_map] at ha
  obtain ⟨k, hk, rfl⟩ := List.mem_map.mp ha
  intro j hj
  have hj : j ∈ (if 0 < cs.getD k 0 then lotTaken R m s k cs else some []).getD [] := hj
  by_cases h : 0 < cs.getD k 0
  · rw [if_pos h] at hj
    unfold lotTaken at hj
    cases q : countsAt R m (mvR R s k).2 with
    | none => rw [q] at hj; cases hj
    | some later =>
      rw [q] at hj
      have hj : j ∈ (if oddOne m cs later then none else some (lessOnes m cs later)).getD [] := hj
      split at hj
      · cases hj
      · have hj : j ∈ lessOnes m cs later := hj
        unfold lessOnes at hj
        exact List.mem_range.mp (List.mem_filter.mp hj).1
  · rw [if_neg h] at hj
    cases hj
/-! ### first_lot -/
abbrev s_first_lot : Stmt := topS 43
theorem sc_first_lot : FnScope ["moves", "at", "counts", "lots", "own", "number", "lot"] ["moves", "at"] (defScope s_first_lot) := ⟨rfl, rfl, rfl, by decide +kernel, rfl, by decide +kernel, by decide +kernel⟩
theorem bd_first_lot : Bd "first_lot" s_first_lot ["moves", "at"] := fun _ _ _ _ _ _ us hl => match us, hl with | [_, _], _ => rfl
def aFirstLot (m : Nat) : Ask := fun ss P => ∃ M s, RuleOk M m ∧ s < M.length ∧ ss = [.dat (eMoves M), .dat (.int (s : Int))] ∧ P (.dat (oLot (firstLotR M m s)))
theorem cFirstLot (hm : m ≤ 16) (hm0 : 0 < m) (M : Mf mg) (c_counts_at : Cal P w K mg base 1 "counts_at" (spD (V0 w) (aCounts m)) []) (c_lot_taken : Cal P w K mg base 2 "lot_taken" (spD (V0 w) (aTaken m)) []) (D : Dn K mg "first_lot" s_first_lot) : Cal P w K mg base 3 "first_lot" (spD (V0 w) (aFirstLot m)) [] := by
  have sc := sc_first_lot
  refine cal_of D sc bd_first_lot (fine1 fun ss P ⟨_, _, _, _, e, _⟩ => ⟨[_, _], e, rfl⟩) (by decide) fun f cdv A' outer s H E hr => ⟨_, (pss_cons (ps_set (i := 2) sc.nd rfl (by first | exact .inl rfl | exact .inr rfl) (pe_c c_counts_at hr (by decide) (by rfl) (pa_cons (pv 0) (pa_cons (pv 1) pa_nil))))
      (pss_cons (ps_if (pt_cmpR op_isN (pv 2) pe_non (nomark _)) (pss_one (ps_ret pe_non)) pss_nil)
      (pss_cons (ps_set (i := 3) sc.nd rfl (by first | exact .inl rfl | exact .inr rfl) (pe_lc rfl sc.nd (pi_range1 (by rfl) M.range_ (pa_cons (pe_callB (show CallR _ _ (rLen K) from call_len_seq) (by rfl) M.len_ PySem.boot_len (pa_cons (pv 2) pa_nil)) pa_nil)) (blk_of (N := ["moves", "at", "counts", "lots", "own", "number", "lot"]) (sc := defScope s_first_lot) (own := [("number", 5)]) (by decide +kernel)) (fun _ _ _ _ _ => (pg_name (i := 5) sc.nd rfl (by first | exact .inl rfl | exact .inr rfl))) (fun _ _ _ _ _ => pts_nil) (fun _ _ _ _ _ => (pe_ifExp (pt_cmpR op_gt (pe_ix (show IxR _ (rIxL K) from ix_list) (pv 2) (pv 5) (fun _ _ => rfl)) pe_int (nomark _)) (pe_c c_lot_taken hr (by decide) (by rfl) (pa_cons (pv 0) (pa_cons (pv 1) (pa_cons (pv 5) (pa_cons (pv 2) pa_nil))))) (pe_tup pa_nil)))))
      (pss_cons (ps_if (pt_cmpR (show OpR _ _ (rInD K) from (op_inD (ru65 hr))) pe_non (pv 3) (by rfl)) (pss_one (ps_ret pe_non)) pss_nil)
      (pss_cons (ps_setLc (i := 4) rfl sc.nd rfl rfl rfl (show PI _ _ _ (iList K _) from pi_list (pv 3)) (blk_of (N := ["moves", "at", "counts", "lots", "own", "number", "lot"]) (sc := defScope s_first_lot) (own := [("lot", 6)]) (by decide +kernel)) (fun _ _ _ _ _ => (pg_name (i := 6) sc.nd rfl (by first | exact .inl rfl | exact .inr rfl))) (fun _ _ _ _ _ => (pts_one (PW.pt (pw_and (pt_cmpR op_gt (pe_callB (show CallR _ _ (rLen K) from call_len_seq) (by rfl) M.len_ PySem.boot_len (pa_cons (pv 6) pa_nil)) pe_int (nomark _)) (pw_and1 (pt_val (pe_callB (show CallR _ _ (rAll K) from (cr_all rfl)) (by rfl) M.all_ boot_all_ (pa_cons (pe_lc rfl sc.nd (show PI _ _ _ (iTup K _) from pi_tup (pv 6)) (blk_of (N := ["moves", "at", "counts", "lots", "own", "number", "lot"]) (sc := ⟨.function, [(".0", .local), ("lot", .cell), ("len", .globalImplicit), ("all", .globalImplicit), ("lots", .cell)], false, false, []⟩) (own := [("number", 5)]) (by decide +kernel)) (fun _ _ _ _ _ => (pg_name (i := 5) sc.nd rfl (by first | exact .inl rfl | exact .inr rfl))) (fun _ _ _ _ _ => pts_nil) (fun _ _ _ _ _ => (pe_cmpR (show OpR _ _ (rEqD K) from (op_eqD hr.units)) (pe_ix (show IxR _ (rIxL K) from ix_list) (pv 3) (pv 5) (fun _ _ => rfl)) (pv 6) (nomark _)))) pa_nil)))))))) (fun _ _ _ _ _ => (pv 6)))
      (pss_cons (ps_if (pt_cmpR op_eq (pe_callB (show CallR _ _ (rLen K) from call_len_seq) (by rfl) M.len_ PySem.boot_len (pa_cons (pv 4) pa_nil)) pe_int (nomark _)) (pss_one (ps_ret (pe_ifExp (pt_cmpR op_eq (pe_callB (show CallR _ _ (rMax K) from (cr_max rfl)) (by rfl) M.max_ boot_max (pa_cons (pv 2) pa_nil)) pe_int (nomark _)) (pe_tup pa_nil) pe_non))) pss_nil)
      (pss_one (ps_ret (pe_callB (show CallR _ _ (rMinD K) from (cr_minD rfl hr.units)) (by rfl) M.min_ boot_min (pa_cons (pv 4) pa_nil)))))))))), ?_⟩
  rintro ss Pp ⟨R, s, hR, hs, rfl, hP⟩
  refine d_seq (d_asgP (P := (· = oCnt (countsAt R m s))) (e_call (ss := [.dat (eMoves R), .dat (.int (s : Int))]) (ea_cons (e_var rfl) (ea_cons (e_var rfl) ea_nil)) ⟨R, _, hR, hs, rfl, rfl⟩ (oCnt_own _)) (oCnt_own _) ?_)
  rintro s' rfl
  unfold firstLotR at hP
  cases q : countsAt R m s with
  | none =>
    rw [q] at hP
    exact d_seq (d_ifD (b := true) (b_test (e_opD (e_var rfl) e_non rp_isNn)) (fun _ => d_ret e_non hP) fun z => by cases z)
  | some cs =>
    rw [q] at hP
    have hlen := counts_len q
    have hP : Pp (.dat (oLot (if (lotsR R m s cs).any (fun o => decide (o = none)) then none else pickOwn cs (plain (lotsR R m s cs))))) := hP
    generalize hls : lotsR R m s cs = ls at hP
    have lsl : ls.length = m := by rw [← hls]; unfold lotsR; rw [List.length_map, List.length_range]
    refine d_weak (E' := [some (.dat (eMoves R)), some (.dat (.int (s : Int))), some (.rl (iL cs)), none, none, none, none]) ?_ (by walk_at "fg")
    refine d_seq (d_ifD (b := false) (b_test (e_opD (e_rl rfl) e_non rp_isNl)) (fun z => by cases z) fun _ => d_next ?_)
    refine d_seq (d_asgN (ds := ls.map oLot) (e_lcMn (n := m) (fun k => oLot (if 0 < cs.getD k 0 then lotTaken R m s k cs else some [])) (i_range1D (n := m) (e_cb1 (e_rl rfl) (rc_lenLn (by rw [iL_len, hlen]))) (by omega)) (rngD_len _ _) (by omega) (by rw [← hls]; unfold lotsR; rw [List.map_map]; rfl) fun k d hd => ?_) ?_)
    · obtain ⟨rfl, hk⟩ := rng0_get hd
      refine ⟨_, _, gd_name, by decide, e_ifP (R := (· = decide ((0 : Int) < ((cs.getD k 0 : Nat) : Int)))) (b_test (e_opD (e_opD (e_rl rfl) (e_var rfl) (rp_ixL (iL_get (by omega)))) e_int rp_gt)) (fun hb => ?_) fun hb => ?_⟩
      · have hb : 0 < cs.getD k 0 := by have := of_decide_eq_true hb.symm; omega
        rw [if_pos hb]
        exact e_callD (ss := [.dat (eMoves R), .dat (.int (s : Int)), .dat (.int (k : Int)), .rl (iL cs)]) (ea_cons (e_var rfl) (ea_cons (e_var rfl) (ea_cons (e_var rfl) (ea_cons (e_rl rfl) ea_nil)))) ⟨R, s, k, cs, hR, hs, hk, hlen, rfl, rfl⟩
      · have hb : ¬ 0 < cs.getD k 0 := by have := of_decide_eq_false hb.symm; omega
        rw [if_neg hb]
        exact e_tup (ds := []) ea_nil
    refine d_weak (E' := [some (.dat (eMoves R)), some (.dat (.int (s : Int))), some (.rl (iL cs)), some (.rl (ls.map oLot)), none, none, none]) ?_ (by walk_at "fg")
    refine d_seq (d_ifD (b := ls.any fun o => decide (o = none)) (b_test (e_opD e_non (e_rl rfl) (rp_inL rfl (by rw [List.all_map]; exact List.all_eq_true.mpr fun o _ => oLot_cl o 8) ?_))) (fun hb => ?_) fun hb => d_next ?_)
    · rw [List.any_eq_true, List.mem_map]
      constructor
      · rintro ⟨o, ho, e⟩
        exact ⟨o, ho, by rw [of_decide_eq_true e]; rfl⟩
      · rintro ⟨o, ho, e⟩
        refine ⟨o, ho, decide_eq_true ?_⟩
        cases o with
        | none => rfl
        | some a => cases e
    · rw [hb] at hP
      exact d_ret e_non hP
    rw [hb] at hP
    have hP : Pp (.dat (oLot (pickOwn cs (plain ls)))) := hP
    rw [plain_data hb]
    generalize hpl : plain ls = pl at hP
    have pll : pl.length = m := by rw [← hpl]; unfold plain; rw [List.length_map, lsl]
    have plm : ∀ a ∈ pl, ∀ j ∈ a, j < m := fun a ha => by rw [← hpl, ← hls] at ha; exact lotsR_mem ha
    have pget : ∀ i, i < m → (pl.map iLot)[i]? = some (iLot (pl.getD i [])) := fun i hi => by
      rw [List.getElem?_map, List.getElem?_eq_getElem (by omega), List.getD_eq_getElem?_getD, List.getElem?_eq_getElem (by omega : i < pl.length)]
      rfl
    refine d_seq (d_asgN (ds := (ownOf pl).map iLot) (e_lcFn (n := m) (fun i => decide (pl.getD i [] ≠ []) && (pl.getD i []).all fun j => decide (pl.getD j [] = pl.getD i [])) (fun i => iLot (pl.getD i [])) (i_list (l_rl rfl)) (by rw [List.length_map, pll]) (by omega) ?_ fun i d hd => ?_) ?_)
    · rw [← pll]
      exact range_filter pl [] (fun a => decide (a ≠ []) && a.all fun j => decide (pl.getD j [] = a)) iLot
    · have hi : i < m := by have := (List.getElem?_eq_some_iff.mp hd).1; rw [List.length_map, pll] at this; exact this
      rw [pget i hi] at hd
      cases hd
      refine ⟨_, _, gd_name, by decide, b_andD ?_ (fun _ => b_val ?_), fun _ => e_var rfl⟩
      · have e : decide (pl.getD i [] ≠ []) = decide ((0 : Int) < ((pl.getD i []).length : Int)) := by
          rw [Bool.eq_iff_iff, decide_eq_true_eq, decide_eq_true_eq, ← List.length_pos_iff]
          omega
        rw [e]
        exact b_test (e_opD (e_cb1 (e_var rfl) (rc_lenTn (by rw [List.length_map]))) e_int rp_gt)
      · have hlm := plm (pl.getD i []) (getD_mem (by omega))
        have e : (pl.getD i []).all (fun j => decide (pl.getD j [] = pl.getD i [])) = (List.range ((pl.getD i []).map fun (k : Nat) => Dt.int (k : Int)).length).all fun q => decide (pl.getD ((pl.getD i []).getD q 0) [] = pl.getD i []) := by
          rw [List.length_map, all_getD (pl.getD i []) 0 fun j => decide (pl.getD j [] = pl.getD i [])]
        rw [e]
        refine e_allM _ (i_tupD (e_var rfl)) ?_ fun q d hd => ?_
        · rw [List.length_map]
          have hh := plm (pl.getD i []) (getD_mem (by omega))
          have hin : pl.getD i [] ∈ plain (lotsR R m s cs) := by rw [hls, hpl]; exact getD_mem (by omega)
          -- a lot that a rule tells has no more kinds than there are
          unfold plain lotsR at hin
          rw [List.map_map] at hin
          obtain ⟨k, hk, e3⟩ := List.mem_map.mp hin
          rw [← e3]
          show ((if 0 < cs.getD k 0 then lotTaken R m s k cs else some []).getD []).length ≤ _
          split
          · unfold lotTaken
            cases countsAt R m (mvR R s k).2 with
            | none => exact Nat.zero_le _
            | some later =>
              show ((if oddOne m cs later then none else some (lessOnes m cs later)).getD []).length ≤ _
              split
              · exact Nat.zero_le _
              · have := List.length_filter_le (fun j => decide (later.getD j 0 + 1 = cs.getD j 0)) (List.range m)
                rw [List.length_range] at this
                show (lessOnes m cs later).length ≤ _
                unfold lessOnes
                omega
          · exact Nat.zero_le _
        · obtain ⟨hq, rfl⟩ := iL_inv (show (iL (pl.getD i []))[q]? = some d from hd)
          refine ⟨_, _, gd_name, by decide, e_opD (e_opD (e_rl rfl) (e_var rfl) (rp_ixL (pget _ (hlm _ (getD_mem hq))))) (e_var rfl) (rp_eqD (iLot_cl 8) (iLot_cl 8) ?_)⟩
          rw [decide_eq_true_eq, iLot_inj]
    refine d_weak (E' := [some (.dat (eMoves R)), some (.dat (.int (s : Int))), some (.rl (iL cs)), some (.rl (pl.map iLot)), some (.rl ((ownOf pl).map iLot)), none, none]) ?_ (by walk_at "fg")
    unfold pickOwn at hP
    refine d_seq (d_ifD (b := decide (((ownOf pl).length : Int) = 0)) (b_test (e_opD (e_cb1 (e_rl rfl) (rc_lenLn (by rw [List.length_map]))) e_int rp_eqI)) (fun hb => ?_) fun hb => d_next ?_)
    · have hz : ownOf pl = [] := by have := of_decide_eq_true hb; exact List.length_eq_zero_iff.mp (by omega)
      rw [hz] at hP
      have hP : Pp (.dat (oLot (if cs.all (fun c => decide (c = 0)) then some [] else none))) := hP
      obtain ⟨x, hx1, hx2⟩ := exists_max cs (fun z => by rw [z] at hlen; simp at hlen; omega)
      have e0 : cs.all (fun c => decide (c = 0)) = decide ((x : Int) = 0) := by
        rw [Bool.eq_iff_iff, List.all_eq_true, decide_eq_true_eq]
        constructor
        · intro h
          have := of_decide_eq_true (h x hx1)
          omega
        · intro h c hc
          have := hx2 c hc
          exact decide_eq_true (by omega)
      rw [e0] at hP
      refine d_retP (P := (· = .dat (oLot (if decide ((x : Int) = 0) = true then some [] else none)))) (e_ifP (R := (· = decide ((x : Int) = 0))) (b_test (e_opD (e_cb1 (s := .rl ((cs.map fun (k : Nat) => (k : Int)).map .int)) (by rw [← iL_int]; exact e_rl rfl) (rc_max (m := (x : Int)) (List.mem_map.mpr ⟨x, hx1, rfl⟩) fun y hy => ?_)) e_int rp_eqI)) (fun hb => ?_) fun hb => ?_) fun s e => by rw [e]; exact hP
      · obtain ⟨c, hc, rfl⟩ := List.mem_map.mp hy
        have := hx2 c hc
        omega
      · rw [← hb, if_pos rfl]
        exact e_tup (ds := []) ea_nil
      · rw [← hb, if_neg (by decide)]
        exact e_non
    · cases hz : ownOf pl with
      | nil => rw [hz] at hb; cases hb
      | cons a r =>
        rw [hz] at hP
        have hP : Pp (.dat (iLot (minOf a r))) := hP
        refine d_retP (P := (· = .dat (iLot (minOf a r)))) (e_cb1 (s := .rl ((a :: r).map iLot)) (by rw [← hz]; exact e_rl rfl) (rc_least (fun z => by cases z) (by rw [List.all_map]; exact List.all_eq_true.mpr fun o _ => iLot_cl 8) ?_ ?_ ?_)) fun s e => by rw [e]; exact hP
        · intro x hx y hy
          obtain ⟨u, _, rfl⟩ := List.mem_map.mp hx
          obtain ⟨v, _, rfl⟩ := List.mem_map.mp hy
          exact (iLot_lt u v).1
        · intro x hx z
          obtain ⟨u, _, rfl⟩ := List.mem_map.mp hx
          cases z
        · intro d hd hmin
          obtain ⟨u, hu, rfl⟩ := List.mem_map.mp hd
          have l1 : Least (fun b => b ∈ a :: r) u := ⟨hu, fun b hb => by rw [← (iLot_lt b u).2]; exact hmin _ (List.mem_map.mpr ⟨b, hb, rfl⟩)⟩
          rw [l1.uniq (minOf_least fun b => Iff.rfl)]
/-! ### a rule as an object -/
def ruleD (C : Addr) (mk : Str) (M : Moves) : Dt := .obj C [("marks", .str mk), ("moves", eMoves M)]
def seatsD (C : Addr) (ev : List Str) (mk : Str) (L : Lots) : Dt := .obj C [("marks", .str mk), ("lots", eLots ev L)]
/-- what is known of the two classes -/
structure Kc (K : PySem.W.Frag) (CR CS : Addr) : Prop where
  r : Cls K CR
  s : Cls K CS
  rm : NoAttr K CR "marks"
  rv : NoAttr K CR "moves"
  sm : NoAttr K CS "marks"
  sl : NoAttr K CS "lots"
def oLots (ev : List Str) : Option Lots → Dt
  | none => .non
  | some L => eLots ev L
/-! ### candidate -/
abbrev s_candidate : Stmt := topS 44
theorem sc_candidate : FnScope ["rule", "kinds", "at", "found", "turn", "lot", "number"] ["rule"] (defScope s_candidate) := ⟨rfl, rfl, rfl, by decide +kernel, rfl, by decide +kernel, by decide +kernel⟩
theorem bd_candidate : Bd "candidate" s_candidate ["rule"] := fun _ _ _ _ _ _ us hl => match us, hl with | [_], _ => rfl
def aCand (mk : Str) (ev : List Str) (m : Nat) (CR : Addr) : Ask := fun ss P => ∃ M, RuleOk M m ∧ ss = [.dat (ruleD CR mk M)] ∧ P (.dat (oLots ev (candidate M m)))
theorem cCand {CR CS : Addr} (h : MkOk mk ev m) (kc : Kc K CR CS) (M : Mf mg) (c_all_kinds : Cal P w K mg base 1 "all_kinds" (spD (V0 w) (a_all_kinds mk ev)) []) (c_first_lot : Cal P w K mg base 3 "first_lot" (spD (V0 w) (aFirstLot m)) []) (D : Dn K mg "candidate" s_candidate) : Cal P w K mg base 4 "candidate" (spD (V0 w) (aCand mk ev m CR)) [] := by
  have sc := sc_candidate
  refine cal_of D sc bd_candidate (fine1 fun ss P ⟨_, _, e, _⟩ => ⟨[_], e, rfl⟩) (by decide) fun f cdv A' outer s H E hr => ⟨_, (pss_cons (ps_set (i := 1) sc.nd rfl (by first | exact .inl rfl | exact .inr rfl) (pe_c c_all_kinds hr (by decide) (by rfl) (pa_cons (show PE _ _ (tFld K _ _) from pe_fld (pv 0) rfl) pa_nil)))
      (pss_cons (ps_set (i := 2) sc.nd rfl (by first | exact .inl rfl | exact .inr rfl) pe_int)
      (pss_cons (ps_set (i := 3) sc.nd rfl (by first | exact .inl rfl | exact .inr rfl) (pe_lst pa_nil))
      (pss_cons (ps_for PassesOwn.never rfl (pi_range1 (by rfl) M.range_ (pa_cons (pe_op op_add (pe_gc (by rfl) M.MOST_KNOWN) pe_int) pa_nil)) (pg_name (i := 4) sc.nd rfl (by first | exact .inl rfl | exact .inr rfl)) (pss_cons (ps_set (i := 5) sc.nd rfl (by first | exact .inl rfl | exact .inr rfl) (pe_c c_first_lot hr (by decide) (by rfl) (pa_cons (show PE _ _ (tFld K _ _) from pe_fld (pv 0) rfl) (pa_cons (pv 2) pa_nil))))
      (pss_cons (ps_if (pt_cmpR op_isN (pv 5) pe_non (nomark _)) (pss_one (ps_ret pe_non)) pss_nil)
      (pss_cons (ps_if (pt_cmpR op_eq (pe_callB (show CallR _ _ (rLen K) from call_len_seq) (by rfl) M.len_ PySem.boot_len (pa_cons (pv 5) pa_nil)) pe_int (nomark _)) (pss_one (ps_ret (show PE _ _ (tThen _ (kTup K)) from pe_tupleOf (by rfl) M.tuple_ (pv 3)))) pss_nil)
      (pss_cons (ps_expr (show PE _ _ (tBM K _ _ _ _) from pe_bm PySem.F.plainAttrs_list PySem.F.slot_list_append PySem.F.type_list_append mt_append (pv 3) (pa_cons (show PE _ _ (tThen _ (kTup K)) from pe_tupleOf (by rfl) M.tuple_ (pe_lc rfl sc.nd (show PI _ _ _ (iTup K _) from pi_tup (pv 5)) (blk_of (N := ["rule", "kinds", "at", "found", "turn", "lot", "number"]) (sc := defScope s_candidate) (own := [("number", 6)]) (by decide +kernel)) (fun _ _ _ _ _ => (pg_name (i := 6) sc.nd rfl (by first | exact .inl rfl | exact .inr rfl))) (fun _ _ _ _ _ => pts_nil) (fun _ _ _ _ _ => (pe_ix (show IxR _ (rIxL K) from ix_list) (pv 1) (pv 6) (fun _ _ => rfl))))) pa_nil)))
      (pss_one (ps_set (i := 2) sc.nd rfl (by first | exact .inl rfl | exact .inr rfl) (pe_ix (show IxR _ (rIxT K) from ix_tup) (pe_ix (show IxR _ (rIxT K) from ix_tup) (pe_ix (show IxR _ (rIxT K) from ix_tup) (show PE _ _ (tFld K _ _) from pe_fld (pv 0) rfl) (pv 2) (fun _ _ => rfl)) (pe_ix (show IxR _ (rIxT K) from ix_tup) (pv 5) pe_int (fun _ _ => rfl)) (fun _ _ => rfl)) pe_int (fun _ _ => rfl)))))))))
      (pss_one (ps_ret pe_non)))))), ?_⟩
  rintro ss Pp ⟨R, hR, rfl, hP⟩
  have evl : ∀ k, k < m → (ev.map Dt.str)[k]? = some (.str (kd ev k)) := fun k hk => by
    unfold kd
    rw [List.getElem?_map, List.getD_eq_getElem?_getD, List.getElem?_eq_getElem (by rw [h.evk.len]; exact hk)]
    rfl
  refine d_seq (d_asgN (e_callN (ea_cons (e_fld (e_var rfl) kc.r kc.rm rfl) ea_nil) ⟨rfl, rfl⟩) ?_)
  refine d_seq (d_asg e_int ?_)
  refine d_seq (d_asgN (e_lst (ds := []) ea_nil) ?_)
  refine d_seq (d_forS (α := Nat × Lots) (fun i x => x.1 < R.length ∧ x.2.length = i ∧ candidate R m = candN R m (13 - i) x.1 x.2) (fun _ x => [some (.dat (ruleD CR mk R)), some (.rl (ev.map .str)), some (.dat (.int (x.1 : Int))), some (.ol (x.2.map (eLot ev))), none, none, none])
    (i_range1D (n := 13) (e_opD e_int e_int rp_add) (by decide)) (0, []) ⟨⟨hR.pos, rfl, rfl⟩, by walk_at "fg"⟩ (fun i d x hd hx => ?_) fun x hx => ?_)
  · obtain ⟨s, found⟩ := x
    obtain ⟨hs, hfl, hc⟩ := hx
    have hs : s < R.length := hs
    have hfl : found.length = i := hfl
    have hc : candidate R m = candN R m (13 - i) s found := hc
    have hi : i < 13 := by have := (rng0_get hd).2; exact this
    rw [show 13 - i = (12 - i) + 1 by omega] at hc
    rw [hc] at hP
    refine ⟨_, _, gd_name, d_seq (d_asg (d := oLot (firstLotR R m s)) (e_callD (ss := [.dat (eMoves R), .dat (.int (s : Int))]) (ea_cons (e_fld (e_var rfl) kc.r kc.rv rfl) (ea_cons (e_var rfl) ea_nil)) ⟨R, s, hR, hs, rfl, rfl⟩) ?_)⟩
    unfold candN at hP hc
    cases q : firstLotR R m s with
    | none =>
      rw [q] at hP
      exact d_seq (d_ifD (b := true) (b_test (e_opD (e_var rfl) e_non rp_isNn)) (fun _ => d_ret e_non hP) fun z => by cases z)
    | some a =>
      rw [q] at hP hc
      refine d_seq (d_ifD (b := false) (b_test (e_opD (e_var rfl) e_non (rp_isN (fun z => by cases z)))) (fun z => by cases z) fun _ => d_next ?_)
      cases a with
      | nil =>
        have hP : Pp (.dat (eLots ev found)) := hP
        exact d_seq (d_ifD (b := true) (b_test (e_opD (e_cb1 (e_var rfl) (rc_lenTn (n := 0) rfl)) e_int rp_eqI)) (fun _ => d_ret (e_tupleD (e_ol rfl)) hP) fun z => by cases z)
      | cons j r =>
        have hc : candidate R m = candN R m (12 - i) (mvR R s j).2 (found ++ [j :: r]) := hc
        have hval := firstR_valid q (fun z => by cases z)
        have hlen := hval.len
        have hsm := h.evk.sm
        have ll : ((j :: r).map fun (k : Nat) => Dt.int (k : Int)).length = (j :: r).length := List.length_map _
        refine d_seq (d_ifD (b := false) (b_test (EvP.imp (P := (· = .dat (.bl (decide (((j :: r).length : Int) = 0))))) (e_opD (e_cb1 (e_var rfl) (rc_lenTn ll)) e_int rp_eqI) fun s e => by rw [e, decide_eq_false (by rw [List.length_cons]; omega)])) (fun z => by cases z) fun _ => d_next ?_)
        refine d_seq (d_app (d := eLot ev (j :: r)) rfl (e_tupleN (e_lcMn (n := (j :: r).length) (fun q => .str (kd ev ((j :: r).getD q 0))) (i_tupD (e_var rfl)) ll (by omega) ?_ fun q d hd => ?_)) (by rw [List.length_map]; show found.length < _; omega) ?_)
        · rw [range_map (j :: r) 0 fun k => Dt.str (kd ev k), List.map_map]
          rfl
        · obtain ⟨hq, rfl⟩ := iL_inv (show (iL (j :: r))[q]? = some d from hd)
          exact ⟨_, _, gd_name, by decide, e_opD (e_rl rfl) (e_var rfl) (rp_ixL (evl _ (hval.2.2 _ (getD_mem hq))))⟩
        · refine d_asg (e_goal hR (e_fld (e_var rfl) kc.r kc.rv rfl) (e_var rfl) (e_opD (e_var rfl) e_int (rp_ixT (j := 0) (d := .int (j : Int)) rfl)) hs (hval.2.2 j List.mem_cons_self)) ⟨((mvR R s j).2, found ++ [j :: r]), ⟨hR.next, ?_, ?_⟩, ?_⟩
          · show (found ++ [j :: r]).length = i + 1
            rw [List.length_append, hfl]
            rfl
          · rw [hc, show 13 - (i + 1) = 12 - i by omega]
          · show Fg _ _
            rw [List.map_append]
            walk_at "fg"
  · obtain ⟨s, found⟩ := x
    obtain ⟨_, _, hc⟩ := hx
    have hc : candidate R m = candN R m (13 - (rngD 0 13).length) s found := hc
    rw [rngD_len, show 13 - 13 = 0 from rfl] at hc
    rw [hc] at hP
    exact d_ret e_non hP
end
end K13
end
section
set_option Elab.async false
set_option linter.all false
set_option maxRecDepth 100000
set_option maxHeartbeats 4000000
set_option autoImplicit false
local macro_rules | `(tactic| walk_at "fg") => `(tactic| (repeat' (first | exact True.intro | exact rfl | constructor)))
namespace K13
open PySem PySem.Spec PyProof.Rows L2 C8
section
variable {P : Program} {w : World} {K : PySem.W.Frag} {mg : Str → Option Value} {base : Heap} {mk : Str} {ev : List Str} {m : Nat}
/-! ### first_stands -/
abbrev s_first_stands : Stmt := topS 37
theorem sc_first_stands : FnScope ["moves", "found", "known", "done", "flag", "goal"] ["moves"] (defScope s_first_stands) := ⟨rfl, rfl, rfl, by decide +kernel, rfl, by decide +kernel, by decide +kernel⟩
theorem bd_first_stands : Bd "first_stands" s_first_stands ["moves"] := fun _ _ _ _ _ _ us hl => match us, hl with | [_], _ => rfl
def aStands (m : Nat) : Ask := fun ss P => ∃ M : Moves, RuleOk M m ∧ M.length ≤ 60 ∧ ss = [.dat (eMoves M)] ∧ ∀ fs : List Nat, fs.Nodup → (∀ t, t ∈ fs ↔ Reach1 M m 0 t) → P (.ol (iL fs))
theorem cStands (M : Mf mg) (D : Dn K mg "first_stands" s_first_stands) : Cal P w K mg base 1 "first_stands" (spD (V0 w) (aStands m)) [] := by
  have sc := sc_first_stands
  refine cal_of D sc bd_first_stands (fine1 fun ss P ⟨_, _, _, e, _⟩ => ⟨[_], e, rfl⟩) (by decide) fun f cdv A' outer s H E hr => ⟨_, (pss_cons (ps_set (i := 1) sc.nd rfl (by first | exact .inl rfl | exact .inr rfl) (pe_lst (pa_cons pe_int pa_nil)))
      (pss_cons (ps_set (i := 2) sc.nd rfl (by first | exact .inl rfl | exact .inr rfl) (pe_disp (pps_cons pe_int pe_bl pps_nil) rfl rfl (fun z => by cases z) (by decide)))
      (pss_cons (ps_set (i := 3) sc.nd rfl (by first | exact .inl rfl | exact .inr rfl) pe_int)
      (pss_cons (ps_while PassesOwn.never (pt_cmpR op_lt (pv 3) (pe_callB (show CallR _ _ (rLen K) from call_len_seq) (by rfl) M.len_ PySem.boot_len (pa_cons (pv 1) pa_nil)) (nomark _)) (pss_cons (ps_for PassesOwn.never rfl (show PI _ _ _ (iTup K _) from pi_tup (pe_ix (show IxR _ (rIxT K) from ix_tup) (pv 0) (pe_ix (show IxR _ (rIxL K) from ix_list) (pv 1) (pv 3) (fun _ _ => rfl)) (fun _ _ => rfl))) (show PG _ _ (gTup K 2 _) from pg_tup rfl (pgs_cons (pg_name (i := 4) sc.nd rfl (by first | exact .inl rfl | exact .inr rfl)) (pgs_cons (pg_name (i := 5) sc.nd rfl (by first | exact .inl rfl | exact .inr rfl)) pgs_nil))) (pss_one (ps_if (pt_cmp (pc_dnotin (hu_of hr) (pv 5) (pv 2))) (pss_cons (ps_dput (hu_of hr) (pv 2) (pv 5) pe_bl rfl)
      (pss_one (ps_expr (show PE _ _ (tBM K _ _ _ _) from pe_bm PySem.F.plainAttrs_list PySem.F.slot_list_append PySem.F.type_list_append mt_append (pv 1) (pa_cons (pv 5) pa_nil))))) pss_nil)))
      (pss_one (ps_aug (i := 3) sc.nd rfl (by first | exact .inl rfl | exact .inr rfl) pe_int ip_add))))
      (pss_one (ps_ret (pv 1))))))), ?_⟩
  rintro ss Pp ⟨R, hR, hl, rfl, hP⟩
  have lt : ∀ fs : List Nat, fs.Nodup → (∀ p ∈ fs, Reach1 R m 0 p) → fs.length ≤ R.length := fun fs h1 h2 => nodup_lt _ _ h1 fun x hx => reach1_lt hR hR.pos (h2 x hx)
  refine d_seq (d_asgN (ds := iL [0]) (e_lst (ds := [.int 0]) (ea_cons e_int ea_nil)) ?_)
  refine d_seq (d_asgP (e_oneI (v := .bl true) e_int e_bl bl_val) own_oi ?_)
  rintro _ rfl
  refine d_seq (d_asg e_int ?_)
  refine d_seq (d_whileS (α := List Nat × Nat) (fun n x => n = R.length - x.2 ∧ Srch (fun p k => (mvR R p k).2) (Reach1 R m 0) m x.1 x.2 0 ∧ 0 ∈ x.1)
    (fun x => [some (.dat (eMoves R)), some (.ol (iL x.1)), some (.oi (kn1 x.1)), some (.dat (.int (x.2 : Int))), none, none]) R.length ([0], 0)
    ⟨⟨rfl, .start (by simp) (fun p hp => by rw [List.mem_singleton.mp hp]; exact .base 0), by simp⟩, by walk_at "fg"⟩ (fun n x hx => ⟨decide ((x.2 : Int) < (x.1.length : Int)), b_test (e_opD (e_var rfl) (e_cb1 (e_ol rfl) (rc_lenLn (iL_len _))) rp_lt), fun hb => ?_, fun hb => ?_⟩))
  · obtain ⟨fs, done⟩ := x
    obtain ⟨rfl, hS, h0⟩ := hx
    have hS : Srch (fun p k => (mvR R p k).2) (Reach1 R m 0) m fs done 0 := hS
    have h0 : 0 ∈ fs := h0
    have hd : done < fs.length := by have h : (done : Int) < (fs.length : Int) := of_decide_eq_true hb; omega
    have hfl := lt fs hS.nd hS.rc
    obtain ⟨p, hp⟩ : ∃ p, fs[done]? = some p := ⟨_, List.getElem?_eq_getElem hd⟩
    have hpR := hS.rc p (List.mem_of_getElem? hp)
    have hpl := reach1_lt hR hR.pos hpR
    have hg : (iL fs)[done]? = some (.int (p : Int)) := by unfold iL; rw [List.getElem?_map, hp]; rfl
    refine d_seq (d_forS (α := List Nat) (fun k gs => Srch (fun p k => (mvR R p k).2) (Reach1 R m 0) m gs done k ∧ gs[done]? = some p ∧ 0 ∈ gs) (fun _ gs => [some (.dat (eMoves R)), some (.ol (iL gs)), some (.oi (kn1 gs)), some (.dat (.int (done : Int))), none, none])
      (i_tupD (e_row (e_var rfl) (e_opD (e_ol rfl) (e_var rfl) (rp_ixL hg)) hpl)) fs ⟨⟨hS, hp, h0⟩, by walk_at "fg"⟩ (fun k d gs hd hx => ?_) fun gs hx => ?_)
    · obtain ⟨hk, rfl⟩ := row_inv hR hpl hd
      obtain ⟨hG, hgp, h0⟩ := hx
      refine ⟨_, _, gd_tup (gds_cons gd_name (gds_cons gd_name gds_nil)), d_ifD (b := !decide ((mvR R p k).2 ∈ gs)) (b_val (e_notInI rfl (e_var rfl) (by rw [decide_eq_true_eq]; exact kn1_mem.symm))) (fun hb => ?_) fun hb => d_next ⟨gs, ⟨hG.old hgp (by simpa using hb), hgp, h0⟩, by walk_at "fg"⟩⟩
      have hn : (mvR R p k).2 ∉ gs := by simpa using hb
      have hlt := lt gs hG.nd hG.rc
      refine d_seq (d_putI (v := .bl true) rfl e_bl (e_var rfl) (fun z => hn (kn1_mem.mp z)) bl_val (by rw [kn1_len]; omega) ?_)
      refine d_app rfl (e_var rfl) (by rw [iL_len]; omega) ⟨gs ++ [(mvR R p k).2], ⟨hG.new hgp hn (.step hpR hk), get_app hgp, List.mem_append_left _ h0⟩, ?_⟩
      show Fg _ _
      rw [iL_snoc, kn1_snoc]
      walk_at "fg"
    · obtain ⟨hG, hgp, h0⟩ := hx
      rw [row_len hR hpl] at hG
      have hl2 : done < gs.length := (List.getElem?_eq_some_iff.mp hgp).1
      refine d_aug (f := fun i j => i + j) (a := (done : Int)) (b := 1) rfl e_int ⟨R.length - (done + 1), (gs, done + 1), by show R.length - (done + 1) < R.length - done; omega, ⟨rfl, hG.turn hl2, h0⟩, ?_⟩
      show Fg _ _
      rw [show ((done + 1 : Nat) : Int) = (done : Int) + 1 by omega]
      walk_at "fg"
  · obtain ⟨fs, done⟩ := x
    obtain ⟨rfl, hS, h0⟩ := hx
    have hS : Srch (fun p k => (mvR R p k).2) (Reach1 R m 0) m fs done 0 := hS
    have hd : ¬ done < fs.length := by have h : ¬ (done : Int) < (fs.length : Int) := of_decide_eq_false hb; omega
    exact d_retO rfl (hP fs hS.nd (reach1_all h0 (hS.all (by omega)) hS.rc))
/-! ### closure -/
abbrev s_closure : Stmt := topS 48
theorem sc_closure : FnScope ["begins", "moves", "known", "found", "done", "one", "other", "flag", "goal", "its", "end", "pair"] ["begins", "moves"] (defScope s_closure) := ⟨rfl, rfl, rfl, by decide +kernel, rfl, by decide +kernel, by decide +kernel⟩
theorem bd_closure : Bd "closure" s_closure ["begins", "moves"] := fun _ _ _ _ _ _ us hl => match us, hl with | [_, _], _ => rfl
def aClosure (m : Nat) : Ask := fun ss P => ∃ (M : Moves) (B : List (Nat × Nat)), RuleOk M m ∧ M.length ≤ 60 ∧ B.length ≤ 100000 ∧ (∀ p ∈ B, p.1 < M.length ∧ p.2 < M.length) ∧ ss = [.rl (B.map pD), .dat (eMoves M)] ∧
  ∀ fs : List (Nat × Nat), fs.length ≤ 3600 → (∀ p, p ∈ fs ↔ Reach2 M m (· ∈ B) p) → P (.ol (fs.map pD))
theorem fineClosure (m : Nat) : Fine (aClosure m) 2 := ⟨fun ss P ⟨_, _, _, _, _, _, e, _⟩ => by subst e; exact ⟨rfl, fun s hs => by simp at hs; rcases hs with h | h <;> subst h <;> rfl⟩⟩
theorem cClosure (M : Mf mg) (D : Dn K mg "closure" s_closure) : Cal P w K mg base 1 "closure" (spD (V0 w) (aClosure m)) [] := by
  have sc := sc_closure
  refine cal_of D sc bd_closure (fineClosure m) (by decide) fun f cdv A' outer s H E hr => ⟨_, (pss_cons (show PS _ _ (tAsg (tDcN w _ _ _ _ _) _) from ps_setDcN (i := 2) rfl hr.units sc.nd rfl rfl rfl (show PI _ _ _ (iList K _) from pi_list (pv 0)) (blk_of (N := ["begins", "moves", "known", "found", "done", "one", "other", "flag", "goal", "its", "end", "pair"]) (sc := defScope s_closure) (own := [("pair", 11)]) (by decide +kernel)) (fun _ _ _ _ _ => (pg_name (i := 11) sc.nd rfl (by first | exact .inl rfl | exact .inr rfl))) (fun _ _ _ _ _ => (pv 11)) (fun _ _ _ _ _ => pe_bl))
      (pss_cons (ps_set (i := 3) sc.nd rfl (by first | exact .inl rfl | exact .inr rfl) (pe_callTy (show CallR _ _ (rKeysN w) from (cr_keysN rfl)) (by rfl) M.list_ boot_list (pa_cons (pv 2) pa_nil)))
      (pss_cons (ps_set (i := 4) sc.nd rfl (by first | exact .inl rfl | exact .inr rfl) pe_int)
      (pss_cons (ps_while PassesOwn.never (pt_cmpR op_lt (pv 4) (pe_callB (show CallR _ _ (rLen K) from call_len_seq) (by rfl) M.len_ PySem.boot_len (pa_cons (pv 3) pa_nil)) (nomark _)) (pss_cons (ps_asg (pe_ix (show IxR _ (rIxL K) from ix_list) (pv 3) (pv 4) (fun _ _ => rfl)) (show PG _ _ (gTup K 2 _) from pg_tup rfl (pgs_cons (pg_name (i := 5) sc.nd rfl (by first | exact .inl rfl | exact .inr rfl)) (pgs_cons (pg_name (i := 6) sc.nd rfl (by first | exact .inl rfl | exact .inr rfl)) pgs_nil))))
      (pss_cons (ps_for PassesOwn.never rfl (show PI _ _ _ (RZ.iZipA K _) from RZ.pi_zipA (by rfl) M.zip_ (pa_cons (pe_ix (show IxR _ (rIxT K) from ix_tup) (pv 1) (pv 5) (fun _ _ => rfl)) (pa_cons (pe_ix (show IxR _ (rIxT K) from ix_tup) (pv 1) (pv 6) (fun _ _ => rfl)) pa_nil))) (show PG _ _ (gTup K 2 _) from pg_tup rfl (pgs_cons (show PG _ _ (gTup K 2 _) from pg_tup rfl (pgs_cons (pg_name (i := 7) sc.nd rfl (by first | exact .inl rfl | exact .inr rfl)) (pgs_cons (pg_name (i := 8) sc.nd rfl (by first | exact .inl rfl | exact .inr rfl)) pgs_nil))) (pgs_cons (show PG _ _ (gTup K 2 _) from pg_tup rfl (pgs_cons (pg_name (i := 9) sc.nd rfl (by first | exact .inl rfl | exact .inr rfl)) (pgs_cons (pg_name (i := 10) sc.nd rfl (by first | exact .inl rfl | exact .inr rfl)) pgs_nil))) pgs_nil))) (pss_one (ps_if (pt_cmpR (show OpR _ _ (rNIn w true) from (op_notInN hr.units)) (pe_tup (pa_cons (pv 8) (pa_cons (pv 10) pa_nil))) (pv 2) (by rfl)) (pss_cons (show PS _ _ (sNPut w _ _ _) from ps_nput hr.units (pv 2) (pe_tup (pa_cons (pv 8) (pa_cons (pv 10) pa_nil))) pe_bl rfl)
      (pss_one (ps_expr (show PE _ _ (tBM K _ _ _ _) from pe_bm PySem.F.plainAttrs_list PySem.F.slot_list_append PySem.F.type_list_append mt_append (pv 3) (pa_cons (pe_tup (pa_cons (pv 8) (pa_cons (pv 10) pa_nil))) pa_nil))))) pss_nil)))
      (pss_one (ps_aug (i := 4) sc.nd rfl (by first | exact .inl rfl | exact .inr rfl) pe_int ip_add)))))
      (pss_one (ps_ret (pv 3))))))), ?_⟩
  rintro ss Pp ⟨R, B, hR, hl, hBl, hB, rfl, hP⟩
  have lt : ∀ fs : List (Nat × Nat), fs.Nodup → (∀ p ∈ fs, Reach2 R m (· ∈ B) p) → fs.length ≤ R.length * R.length := fun fs h1 h2 => nodup_pairs h1 fun x hx => reach2_lt hR hB (h2 x hx)
  have l36 : R.length * R.length ≤ 60 * 60 := Nat.mul_le_mul hl hl
  refine d_seq (d_asgP (P := fun s => ∃ gs : List (Nat × Nat), s = .on (kn2 gs) ∧ gs.Nodup ∧ ∀ p, p ∈ gs ↔ p ∈ B) ((e_dcN (v := .bl true) (dv := .bl true) (fun ds i acc => ∃ gs : List (Nat × Nat), acc = gs.map pD ∧ gs.Nodup ∧ ∀ p, p ∈ gs ↔ p ∈ B.take i) (i_list (l_rl (ds := B.map pD) rfl)) (fun ds e => ⟨⟨[], rfl, by simp, by simp⟩, by rw [e, List.length_map]; omega⟩) bl_val (fun ds i d acc e hd hI => ?_)).imp ?_) ?_ ?_)
  · subst e
    obtain ⟨hi, rfl⟩ := pD_inv hd
    obtain ⟨gs, rfl, hn, hg⟩ := hI
    have tk : ∀ p, p ∈ B.take (i + 1) ↔ p ∈ B.take i ∨ p = B.getD i (0, 0) := fun p => by
      rw [List.take_add_one, List.getElem?_eq_getElem hi, List.getD_eq_getElem?_getD, List.getElem?_eq_getElem hi, List.mem_append]
      simp
    refine ⟨_, _, _, gd_name, by decide, e_var (d := .tup [.int ((B.getD i (0, 0)).1 : Int), .int ((B.getD i (0, 0)).2 : Int)]) rfl, rfl, e_bl, fun h => ⟨gs, rfl, hn, fun p => ?_⟩, fun h => ⟨gs ++ [B.getD i (0, 0)], by rw [List.map_append]; rfl, nodup_snoc hn fun z => h (pD_mem.mpr z), fun p => ?_⟩⟩
    · have h : B.getD i (0, 0) ∈ gs := pD_mem.mp h
      rw [hg, tk]
      constructor
      · intro z; exact .inl z
      · rintro (z | z)
        · exact z
        · rw [z]; exact (hg _).mp h
    · rw [List.mem_append, hg, tk, List.mem_singleton]
  · rintro s ⟨acc, rfl, ds, rfl, gs, rfl, hn, hg⟩
    rw [List.length_map, List.take_length] at hg
    refine ⟨gs, ?_, hn, hg⟩
    unfold kn2
    rw [List.map_map]
    rfl
  · rintro s ⟨gs, rfl, _⟩ _
    rfl
  rintro s ⟨gs0, rfl, hn0, hg0⟩
  refine d_seq (d_asgN (ds := gs0.map pD) ((e_lstN (kvs := kn2 gs0) rfl).imp fun s e => by rw [e, kn2_keys]) ?_)
  refine d_seq (d_asg e_int ?_)
  refine d_seq (d_whileS (α := List (Nat × Nat) × Nat) (fun n x => n = R.length * R.length - x.2 ∧ Srch (stp R) (Reach2 R m (· ∈ B)) m x.1 x.2 0 ∧ ∀ p ∈ B, p ∈ x.1)
    (fun x => [some (.rl (B.map pD)), some (.dat (eMoves R)), some (.on (kn2 x.1)), some (.ol (x.1.map pD)), some (.dat (.int (x.2 : Int))), none, none, none, none, none, none, none]) (R.length * R.length) (gs0, 0)
    ⟨⟨rfl, .start hn0 (fun p hp => .base ((hg0 p).mp hp)), fun p hp => (hg0 p).mpr hp⟩, by walk_at "fg"⟩ (fun n x hx => ⟨decide ((x.2 : Int) < (x.1.length : Int)), b_test (e_opD (e_var rfl) (e_cb1 (e_ol rfl) (rc_lenLn (List.length_map _))) rp_lt), fun hb => ?_, fun hb => ?_⟩))
  · obtain ⟨fs, done⟩ := x
    obtain ⟨rfl, hS, h0⟩ := hx
    have hS : Srch (stp R) (Reach2 R m (· ∈ B)) m fs done 0 := hS
    have h0 : ∀ p ∈ B, p ∈ fs := h0
    have hd : done < fs.length := by have h : (done : Int) < (fs.length : Int) := of_decide_eq_true hb; omega
    have hfl := lt fs hS.nd hS.rc
    obtain ⟨p, hp⟩ : ∃ p, fs[done]? = some p := ⟨_, List.getElem?_eq_getElem hd⟩
    have hpR := hS.rc p (List.mem_of_getElem? hp)
    have hpl := reach2_lt hR hB hpR
    have hg : (fs.map pD)[done]? = some (pD p) := by rw [List.getElem?_map, hp]; rfl
    refine d_seq (d_unp (e_opD (e_ol rfl) (e_var rfl) (rp_ixL hg)) (gd_tup (gds_cons gd_name (gds_cons gd_name gds_nil))) ?_)
    refine d_seq (d_forS (α := List (Nat × Nat)) (fun k gs => Srch (stp R) (Reach2 R m (· ∈ B)) m gs done k ∧ gs[done]? = some p ∧ ∀ p ∈ B, p ∈ gs) (fun _ gs => [some (.rl (B.map pD)), some (.dat (eMoves R)), some (.on (kn2 gs)), some (.ol (gs.map pD)), some (.dat (.int (done : Int))), some (.dat (.int (p.1 : Int))), some (.dat (.int (p.2 : Int))), none, none, none, none, none])
      (i_zip (ea_cons (e_row (s := p.1) (e_var rfl) (e_var rfl) hpl.1) (ea_cons (e_row (s := p.2) (e_var rfl) (e_var rfl) hpl.2) ea_nil))) fs ⟨⟨hS, hp, h0⟩, by walk_at "fg"⟩ (fun k d gs hd hx => ?_) fun gs hx => ?_)
    · obtain ⟨a, b, ha, hb, rfl⟩ := zip_inv hd
      obtain ⟨hk, rfl⟩ := row_inv hR hpl.1 ha
      obtain ⟨_, rfl⟩ := row_inv hR hpl.2 hb
      obtain ⟨hG, hgp, h0⟩ := hx
      have te : ∀ {E : DEnv}, E[8]? = some (some (.dat (.int ((mvR R p.1 k).2 : Int)))) → E[10]? = some (some (.dat (.int ((mvR R p.2 k).2 : Int)))) → EvD (V0 w) (tTup (tCons (tVar 8) (tCons (tVar 10) tNil))) E (pD (stp R p k)) := fun h1 h2 => e_tup (ds := [.int ((mvR R p.1 k).2 : Int), .int ((mvR R p.2 k).2 : Int)]) (ea_cons (e_var h1) (ea_cons (e_var h2) ea_nil))
      refine ⟨_, _, gd_tup (gds_cons (gd_tup (gds_cons gd_name (gds_cons gd_name gds_nil))) (gds_cons (gd_tup (gds_cons gd_name (gds_cons gd_name gds_nil))) gds_nil)), d_ifD (b := !decide (stp R p k ∈ gs)) (b_test (e_notInN rfl (te rfl rfl) rfl (by rw [decide_eq_true_eq]; exact kn2_mem.symm))) (fun hb => ?_) fun hb => d_next ⟨gs, ⟨hG.old hgp (by simpa using hb), hgp, h0⟩, by walk_at "fg"⟩⟩
      have hn : stp R p k ∉ gs := by simpa using hb
      have hlt := lt gs hG.nd hG.rc
      refine d_seq (d_putN (v := .bl true) rfl e_bl (te rfl rfl) rfl (fun z => hn (kn2_mem.mp z)) bl_val (by rw [kn2_len]; omega) ?_)
      refine d_app rfl (te rfl rfl) (by rw [List.length_map]; omega) ⟨gs ++ [stp R p k], ⟨hG.new hgp hn (.step hpR hk), get_app hgp, fun q hq => List.mem_append_left _ (h0 q hq)⟩, ?_⟩
      show Fg _ _
      rw [List.map_append, kn2_snoc]
      walk_at "fg"
    · obtain ⟨hG, hgp, h0⟩ := hx
      rw [zip_len, row_len hR hpl.1, row_len hR hpl.2, Nat.min_self] at hG
      have hl2 : done < gs.length := (List.getElem?_eq_some_iff.mp hgp).1
      refine d_aug (f := fun i j => i + j) (a := (done : Int)) (b := 1) rfl e_int ⟨R.length * R.length - (done + 1), (gs, done + 1), by show R.length * R.length - (done + 1) < R.length * R.length - done; omega, ⟨rfl, hG.turn hl2, h0⟩, ?_⟩
      show Fg _ _
      rw [show ((done + 1 : Nat) : Int) = (done : Int) + 1 by omega]
      walk_at "fg"
  · obtain ⟨fs, done⟩ := x
    obtain ⟨rfl, hS, h0⟩ := hx
    have hS : Srch (stp R) (Reach2 R m (· ∈ B)) m fs done 0 := hS
    have hd : ¬ done < fs.length := by have h : ¬ (done : Int) < (fs.length : Int) := of_decide_eq_false hb; omega
    have hfl := lt fs hS.nd hS.rc
    exact d_retO rfl (hP fs (by omega) (reach_all h0 (hS.all (by omega)) hS.rc))
end
end K13
end
section
set_option Elab.async false
set_option linter.all false
set_option maxRecDepth 100000
set_option maxHeartbeats 4000000
set_option autoImplicit false
local macro_rules | `(tactic| walk_at "fg") => `(tactic| (repeat' (first | exact True.intro | exact rfl | constructor)))
namespace K13
open PySem PySem.Spec PyProof.Rows L2 C8
theorem b_notP {U : Vol} {E : DEnv} {t : TT} {R : Bool → Prop} (h : EvB U t E R) : EvB U (tNot t) E (fun b => R (!b)) := fun H0 σ H S Q q => h H0 σ H S _ fun b H1 x i p => q _ H1 x i (by show R (!(!b)); rw [Bool.not_not]; exact p)
theorem ffT {p : Prop} : false = true → p := fun z => by cases z
def fstN : Dt → Nat
  | .tup (.int i :: _) => i.toNat
  | _ => 0
theorem fstN_pD (p : Nat × Nat) : fstN (pD p) = p.1 := by
  show ((p.1 : Int)).toNat = p.1
  exact Int.toNat_natCast _
/-- none takes after one went by -/
def Kept (M : Moves) (m s k : Nat) : Prop := (mvR M s k).1 = false → ∀ p, Reach2 M m (· = ((mvR M s k).2, (mvR M s k).2)) p → (mvR M p.1 k).1 = false
section
variable {P : Program} {w : World} {K : PySem.W.Frag} {mg : Str → Option Value} {base : Heap} {mk : Str} {ev : List Str} {m : Nat}
/-! ### keeps_away -/
abbrev s_keeps_away : Stmt := topS 49
theorem sc_keeps_away : FnScope ["moves", "stands", "at", "number", "flag", "goal", "later", "same"] ["moves", "stands"] (defScope s_keeps_away) := ⟨rfl, rfl, rfl, by decide +kernel, rfl, by decide +kernel, by decide +kernel⟩
theorem bd_keeps_away : Bd "keeps_away" s_keeps_away ["moves", "stands"] := fun _ _ _ _ _ _ us hl => match us, hl with | [_, _], _ => rfl
def aKeeps (m : Nat) : Ask := fun ss P => ∃ (M : Moves) (ts : List Nat), RuleOk M m ∧ M.length ≤ 60 ∧ (∀ s ∈ ts, s < M.length) ∧ ss = [.dat (eMoves M), .rl (iL ts)] ∧ ∀ b : Bool, (b = true ↔ ∀ s ∈ ts, ∀ k, k < m → Kept M m s k) → P (.dat (.bl b))
theorem fineKeeps (m : Nat) : Fine (aKeeps m) 2 := ⟨fun ss P ⟨_, _, _, _, _, e, _⟩ => by subst e; exact ⟨rfl, fun s hs => by simp at hs; rcases hs with h | h <;> subst h <;> rfl⟩⟩
theorem cKeeps (M : Mf mg) (c_closure : Cal P w K mg base 1 "closure" (spD (V0 w) (aClosure m)) []) (D : Dn K mg "keeps_away" s_keeps_away) : Cal P w K mg base 2 "keeps_away" (spD (V0 w) (aKeeps m)) [] := by
  have sc := sc_keeps_away
  refine cal_of D sc bd_keeps_away (fineKeeps m) (by decide) fun f cdv A' outer s H E hr => ⟨_, (pss_cons (ps_for PassesOwn.never rfl (show PI _ _ _ (iList K _) from pi_list (pv 1)) (pg_name (i := 2) sc.nd rfl (by first | exact .inl rfl | exact .inr rfl)) (pss_one (ps_for PassesOwn.never rfl (show PI _ _ _ (iEnumT K _) from pi_enumT (by rfl) M.enumerate_ (pa_cons (pe_ix (show IxR _ (rIxT K) from ix_tup) (pv 0) (pv 2) (fun _ _ => rfl)) pa_nil)) (show PG _ _ (gTup K 2 _) from pg_tup rfl (pgs_cons (pg_name (i := 3) sc.nd rfl (by first | exact .inl rfl | exact .inr rfl)) (pgs_cons (show PG _ _ (gTup K 2 _) from pg_tup rfl (pgs_cons (pg_name (i := 4) sc.nd rfl (by first | exact .inl rfl | exact .inr rfl)) (pgs_cons (pg_name (i := 5) sc.nd rfl (by first | exact .inl rfl | exact .inr rfl)) pgs_nil))) pgs_nil))) (pss_one (ps_if (PW.pt (pw_and (pt_not (pt_val (pv 4))) (pw_and1 (pt_val (pe_callB (show CallR _ _ (rAny K) from (cr_any rfl)) (by rfl) M.any_ boot_any_ (pa_cons (pe_lc rfl sc.nd (show PI _ _ _ (iList K _) from pi_list (pe_c c_closure hr (by decide) (by rfl) (pa_cons (pe_lst (pa_cons (pe_tup (pa_cons (pv 5) (pa_cons (pv 5) pa_nil))) pa_nil)) (pa_cons (pv 0) pa_nil)))) (blk_of (N := ["moves", "stands", "at", "number", "flag", "goal", "later", "same"]) (sc := defScope s_keeps_away) (own := [("later", 6), ("same", 7)]) (by decide +kernel)) (fun _ _ _ _ _ => (show PG _ _ (gTup K 2 _) from pg_tup rfl (pgs_cons (pg_name (i := 6) sc.nd rfl (by first | exact .inl rfl | exact .inr rfl)) (pgs_cons (pg_name (i := 7) sc.nd rfl (by first | exact .inl rfl | exact .inr rfl)) pgs_nil)))) (fun _ _ _ _ _ => pts_nil) (fun _ _ _ _ _ => (pe_ix (show IxR _ (rIxT K) from ix_tup) (pe_ix (show IxR _ (rIxT K) from ix_tup) (pe_ix (show IxR _ (rIxT K) from ix_tup) (pv 0) (pv 6) (fun _ _ => rfl)) (pv 3) (fun _ _ => rfl)) pe_int (fun _ _ => rfl)))) pa_nil)))))) (pss_one (ps_ret pe_bl)) pss_nil)))))
      (pss_one (ps_ret pe_bl))), ?_⟩
  rintro ss Pp ⟨R, ts, hR, hl, hts, rfl, hP⟩
  refine d_seq (d_forF (fun i => ∀ s ∈ ts.take i, ∀ k, k < m → Kept R m s k) (fun _ => [some (.dat (eMoves R)), some (.rl (iL ts)), none, none, none, none, none, none]) (i_list (l_rl (ds := iL ts) rfl)) ⟨by simp, by walk_at "fg"⟩ (fun i d hd hi => ?_) fun hi => ?_)
  · obtain ⟨hlt, rfl⟩ := iL_inv hd
    have hmem : ts.getD i 0 ∈ ts := getD_mem hlt
    have hs := hts _ hmem
    generalize hse : ts.getD i 0 = s at hs hmem
    refine ⟨_, _, gd_name, d_forF (fun k => ∀ j, j < k → Kept R m s j) (fun _ => [some (.dat (eMoves R)), some (.rl (iL ts)), some (.dat (.int (s : Int))), none, none, none, none, none]) (i_enum (e_row (s := s) (e_var rfl) (e_var rfl) hs)) ⟨fun j hj => by omega, by walk_at "fg"⟩ (fun k d hd hk => ?_) fun hk => ?_⟩
    · obtain ⟨e, he, rfl⟩ := enD_get hd
      obtain ⟨hkm, rfl⟩ := row_inv hR hs he
      refine ⟨_, _, gd_tup (gds_cons gd_name (gds_cons (gd_tup (gds_cons gd_name (gds_cons gd_name gds_nil))) gds_nil)), d_if (P := fun b => (b = true ↔ ¬ Kept R m s k)) (b_and (P := (· = !(mvR R s k).1)) (b_not (b_val (e_var rfl))) (fun hb => ?_) fun hb => ?_) (fun hb => ?_) fun hb => d_next ⟨fun j hj => ?_, by walk_at "fg"⟩⟩
      · have hf : (mvR R s k).1 = false := by simpa using hb
        generalize hge : (mvR R s k).2 = g
        have hgl : g < R.length := by rw [← hge]; exact hR.next
        refine b_valP ((e_anyP (P := fun ds => ∃ fs : List (Nat × Nat), ds = fs.map pD ∧ fs.length ≤ 3600 ∧ ∀ p, p ∈ fs ↔ Reach2 R m (· ∈ [(g, g)]) p) (fun ds i => (mvR R (fstN (ds.getD i .non)) k).1)
          (i_list (l_new (e_call (ss := [.rl [pD (g, g)], .dat (eMoves R)]) (ea_cons (EvP.rl (e_lst (ds := [pD (g, g)]) (ea_cons (e_tup (ds := [.int (g : Int), .int (g : Int)]) (ea_cons (e_var rfl) (ea_cons (e_var rfl) ea_nil))) ea_nil))) (ea_cons (e_var rfl) ea_nil))
            ⟨R, [(g, g)], hR, hl, by simp, fun p hp => by rw [List.mem_singleton.mp hp]; exact ⟨hgl, hgl⟩, rfl, fun fs h1 h2 => ⟨_, rfl, fs, rfl, h1, h2⟩⟩ (fun s ⟨ds, e, _⟩ => own_ol s e)))) (fun ds ⟨fs, e, h1, _⟩ => by rw [e, List.length_map]; omega) (fun ds i d hp hd => ?_)).imp ?_)
        · obtain ⟨fs, rfl, _, hfs⟩ := hp
          obtain ⟨hi, rfl⟩ := pD_inv hd
          have hrl := (reach2_lt hR (B := (· ∈ [(g, g)])) (fun p hp => by rw [List.mem_singleton.mp hp]; exact ⟨hgl, hgl⟩) ((hfs _).mp (getD_mem (d := (0, 0)) hi)))
          refine ⟨_, _, gd_tup (gds_cons gd_name (gds_cons gd_name gds_nil)), by decide, ?_⟩
          have e : fstN ((fs.map pD).getD i .non) = (fs.getD i (0, 0)).1 := by rw [List.getD_eq_getElem?_getD, pD_get hi]; exact fstN_pD _
          show EvD _ _ _ (.bl (mvR R (fstN ((fs.map pD).getD i .non)) k).1)
          rw [e]
          exact e_flag hR (e_var rfl) (e_var rfl) (e_var rfl) hrl.1 hkm
        · rintro s' ⟨b, rfl, ds, ⟨fs, rfl, _, hfs⟩, rfl⟩
          refine ⟨_, rfl, ?_⟩
          rw [List.any_eq_true]
          have hfs' : ∀ p, p ∈ fs ↔ Reach2 R m (· = ((mvR R s k).2, (mvR R s k).2)) p := fun p => by
            rw [hfs, hge]
            exact ⟨reach2_imp fun q hq => List.mem_singleton.mp hq, reach2_imp fun q hq => by rw [hq]; exact List.mem_cons_self⟩
          constructor
          · rintro ⟨i, hi, h⟩ hk'
            rw [List.mem_range, List.length_map] at hi
            have h : (mvR R (fstN ((fs.map pD).getD i .non)) k).1 = true := h
            rw [List.getD_eq_getElem?_getD, pD_get hi] at h
            have h : (mvR R (fstN (pD (fs.getD i (0, 0)))) k).1 = true := h
            rw [fstN_pD, hk' hf _ ((hfs' _).mp (getD_mem hi))] at h
            cases h
          · intro hk'
            by_cases hx : ∃ i, i < fs.length ∧ (mvR R (fs.getD i (0, 0)).1 k).1 = true
            · obtain ⟨i, hi, h⟩ := hx
              refine ⟨i, by rw [List.mem_range, List.length_map]; exact hi, ?_⟩
              show (mvR R (fstN ((fs.map pD).getD i .non)) k).1 = true
              rw [List.getD_eq_getElem?_getD, pD_get hi]
              show (mvR R (fstN (pD (fs.getD i (0, 0)))) k).1 = true
              rw [fstN_pD]
              exact h
            · refine absurd (fun _ p hp => ?_) hk'
              obtain ⟨i, hi, e⟩ := List.mem_iff_getElem.mp ((hfs' p).mpr hp)
              cases q : (mvR R p.1 k).1 with
              | false => rfl
              | true => exact absurd ⟨i, hi, by rw [List.getD_eq_getElem?_getD, List.getElem?_eq_getElem hi, Option.getD_some, e]; exact q⟩ hx
      · refine ⟨ffT, fun z => absurd (fun hf => ?_) z⟩
        rw [hf] at hb
        cases hb
      · have hn : ¬ Kept R m s k := hb.mp rfl
        exact d_ret e_bl (hP false ⟨ffT, fun z => absurd (z s hmem k hkm) hn⟩)
      · by_cases e : j = k
        · subst e
          exact Classical.byContradiction fun z => by cases hb.mpr z
        · exact hk j (by omega)
    · have hlen : (enD ((R.getD s []).map eMv)).length = m := by rw [enD_len, row_len hR hs]
      rw [hlen] at hk
      refine ⟨fun t ht k hkm => ?_, by walk_at "fg"⟩
      rw [List.take_add_one, List.getElem?_eq_getElem hlt] at ht
      rcases List.mem_append.mp ht with ht | ht
      · exact hi t ht k hkm
      · have e : t = s := by rw [← hse, List.getD_eq_getElem?_getD, List.getElem?_eq_getElem hlt]; exact List.mem_singleton.mp ht
        rw [e]
        exact hk k hkm
  · rw [iL_len, List.take_length] at hi
    exact d_ret e_bl (hP true ⟨fun _ => hi, fun _ => rfl⟩)
/-! ### never_back -/
abbrev s_never_back : Stmt := topS 50
theorem sc_never_back : FnScope ["rule", "stands", "begins", "more", "fewer", "flag", "goal", "its", "end", "at"] ["rule"] (defScope s_never_back) := ⟨rfl, rfl, rfl, by decide +kernel, rfl, by decide +kernel, by decide +kernel⟩
theorem bd_never_back : Bd "never_back" s_never_back ["rule"] := fun _ _ _ _ _ _ us hl => match us, hl with | [_], _ => rfl
def begL (M : Moves) (m s : Nat) : List (Nat × Nat) := (List.range m).map fun k => ((mvR M s k).2, s)
theorem begL_len (M : Moves) (m : Nat) : ∀ fs : List Nat, (fs.flatMap (begL M m)).length = fs.length * m
  | [] => by simp
  | s :: fs => by
    rw [List.flatMap_cons, List.length_append, begL_len M m fs, List.length_cons, Nat.succ_mul]
    unfold begL
    rw [List.length_map, List.length_range]
    omega
theorem begL_mem {M : Moves} {m : Nat} {fs : List Nat} {p : Nat × Nat} : p ∈ fs.flatMap (begL M m) ↔ ∃ s k, s ∈ fs ∧ k < m ∧ p = ((mvR M s k).2, s) := by
  rw [List.mem_flatMap]
  constructor
  · rintro ⟨s, hs, h⟩
    unfold begL at h
    obtain ⟨k, hk, e⟩ := List.mem_map.mp h
    exact ⟨s, k, hs, List.mem_range.mp hk, e.symm⟩
  · rintro ⟨s, k, hs, hk, e⟩
    exact ⟨s, hs, List.mem_map.mpr ⟨k, List.mem_range.mpr hk, e.symm⟩⟩
def aNever (mk : Str) (m : Nat) (CR : Addr) : Ask := fun ss P => ∃ M : Moves, RuleOk M m ∧ M.length ≤ 60 ∧ ss = [.dat (ruleD CR mk M)] ∧ ∀ b : Bool, (b = true ↔ NB M m) → P (.dat (.bl b))
theorem cNever {CR CS : Addr} (hm : m ≤ 16) (kc : Kc K CR CS) (M : Mf mg) (c_first_stands : Cal P w K mg base 1 "first_stands" (spD (V0 w) (aStands m)) []) (c_closure : Cal P w K mg base 1 "closure" (spD (V0 w) (aClosure m)) []) (c_keeps_away : Cal P w K mg base 2 "keeps_away" (spD (V0 w) (aKeeps m)) []) (D : Dn K mg "never_back" s_never_back) : Cal P w K mg base 3 "never_back" (spD (V0 w) (aNever mk m CR)) [] := by
  have sc := sc_never_back
  refine cal_of D sc bd_never_back (fine1 fun ss P ⟨_, _, _, e, _⟩ => ⟨[_], e, rfl⟩) (by decide) fun f cdv A' outer s H E hr => ⟨_, (pss_cons (ps_set (i := 1) sc.nd rfl (by first | exact .inl rfl | exact .inr rfl) (pe_c c_first_stands hr (by decide) (by rfl) (pa_cons (show PE _ _ (tFld K _ _) from pe_fld (pv 0) rfl) pa_nil)))
      (pss_cons (ps_if (pt_not (pt_val (pe_c c_keeps_away hr (by decide) (by rfl) (pa_cons (show PE _ _ (tFld K _ _) from pe_fld (pv 0) rfl) (pa_cons (pv 1) pa_nil))))) (pss_one (ps_ret pe_bl)) pss_nil)
      (pss_cons (ps_setLc2 (i := 2) rfl sc.nd rfl rfl rfl (show PI _ _ _ (iList K _) from pi_list (pv 1)) (blk_of (N := ["rule", "stands", "begins", "more", "fewer", "flag", "goal", "its", "end", "at"]) (sc := defScope s_never_back) (own := [("at", 9), ("flag", 5), ("goal", 6)]) (by decide +kernel)) (vs1 := [5, 6]) (by decide) (fun _ _ _ _ _ => (pg_name (i := 9) sc.nd rfl (by first | exact .inl rfl | exact .inr rfl))) (fun _ _ _ _ _ => pts_nil) (fun _ _ _ _ _ => (show PI _ _ _ (iTup K _) from pi_tup (pe_ix (show IxR _ (rIxT K) from ix_tup) (show PE _ _ (tFld K _ _) from pe_fld (pv 0) rfl) (pv 9) (fun _ _ => rfl)))) (fun _ _ _ _ _ => (show PG _ _ (gTup K 2 _) from pg_tup rfl (pgs_cons (pg_name (i := 5) sc.nd rfl (by first | exact .inl rfl | exact .inr rfl)) (pgs_cons (pg_name (i := 6) sc.nd rfl (by first | exact .inl rfl | exact .inr rfl)) pgs_nil)))) (fun _ _ _ _ _ => pts_nil) (fun _ _ _ _ _ => (pe_tup (pa_cons (pv 6) (pa_cons (pv 9) pa_nil)))))
      (pss_cons (ps_for PassesOwn.never rfl (show PI _ _ _ (iList K _) from pi_list (pe_c c_closure hr (by decide) (by rfl) (pa_cons (pv 2) (pa_cons (show PE _ _ (tFld K _ _) from pe_fld (pv 0) rfl) pa_nil)))) (show PG _ _ (gTup K 2 _) from pg_tup rfl (pgs_cons (pg_name (i := 3) sc.nd rfl (by first | exact .inl rfl | exact .inr rfl)) (pgs_cons (pg_name (i := 4) sc.nd rfl (by first | exact .inl rfl | exact .inr rfl)) pgs_nil))) (pss_one (ps_for PassesOwn.never rfl (show PI _ _ _ (RZ.iZipA K _) from RZ.pi_zipA (by rfl) M.zip_ (pa_cons (pe_ix (show IxR _ (rIxT K) from ix_tup) (show PE _ _ (tFld K _ _) from pe_fld (pv 0) rfl) (pv 3) (fun _ _ => rfl)) (pa_cons (pe_ix (show IxR _ (rIxT K) from ix_tup) (show PE _ _ (tFld K _ _) from pe_fld (pv 0) rfl) (pv 4) (fun _ _ => rfl)) pa_nil))) (show PG _ _ (gTup K 2 _) from pg_tup rfl (pgs_cons (show PG _ _ (gTup K 2 _) from pg_tup rfl (pgs_cons (pg_name (i := 5) sc.nd rfl (by first | exact .inl rfl | exact .inr rfl)) (pgs_cons (pg_name (i := 6) sc.nd rfl (by first | exact .inl rfl | exact .inr rfl)) pgs_nil))) (pgs_cons (show PG _ _ (gTup K 2 _) from pg_tup rfl (pgs_cons (pg_name (i := 7) sc.nd rfl (by first | exact .inl rfl | exact .inr rfl)) (pgs_cons (pg_name (i := 8) sc.nd rfl (by first | exact .inl rfl | exact .inr rfl)) pgs_nil))) pgs_nil))) (pss_one (ps_if (PW.pt (pw_and (pt_val (pv 5)) (pw_and1 (pt_not (pt_val (pv 7)))))) (pss_one (ps_ret pe_bl)) pss_nil)))))
      (pss_one (ps_ret pe_bl)))))), ?_⟩
  rintro ss Pp ⟨R, hR, hl, rfl, hP⟩
  refine d_seq (d_asgP (P := fun s => ∃ fs : List Nat, s = .ol (iL fs) ∧ fs.Nodup ∧ ∀ t, t ∈ fs ↔ Reach1 R m 0 t) (e_call (ss := [.dat (eMoves R)]) (ea_cons (e_fld (e_var rfl) kc.r kc.rv rfl) ea_nil) ⟨R, hR, hl, rfl, fun fs h1 h2 => ⟨fs, rfl, h1, h2⟩⟩ (fun s ⟨fs, e, _⟩ => own_ol s e)) (fun s ⟨fs, e, _⟩ => own_ol s e) ?_)
  rintro _ ⟨fs, rfl, hnd, hfs⟩
  have hfl : ∀ s ∈ fs, s < R.length := fun s hs => reach1_lt hR hR.pos ((hfs s).mp hs)
  have hfn : fs.length ≤ 60 := Nat.le_trans (nodup_lt _ _ hnd hfl) hl
  refine d_weak (E' := [some (.dat (ruleD CR mk R)), some (.rl (iL fs)), none, none, none, none, none, none, none, none]) ?_ (by walk_at "fg")
  refine d_seq (d_if (P := fun b => ((!b) = true ↔ KA R m)) (b_notP (b_valP (P := fun b => (b = true ↔ KA R m)) (e_call (P := fun s => ∃ b, s = .dat (.bl b) ∧ (b = true ↔ KA R m)) (ss := [.dat (eMoves R), .rl (iL fs)]) (ea_cons (e_fld (e_var rfl) kc.r kc.rv rfl) (ea_cons (e_rl rfl) ea_nil)) ⟨R, fs, hR, hl, hfl, rfl, fun b hb => ⟨b, rfl, hb.trans ⟨fun h s hs k hk => h s ((hfs s).mpr hs) k hk, fun h s hs k hk => h s ((hfs s).mp hs) k hk⟩⟩⟩ (fun s ⟨b, e, _⟩ => own_dat s e)))) (fun hb => ?_) fun hb => d_next ?_)
  · exact d_ret e_bl (hP false ⟨ffT, fun z => by cases hb.mpr z.1⟩)
  have hKA : KA R m := hb.mp rfl
  refine d_seq (d_asgN (ds := (fs.flatMap (begL R m)).map pD) ((e_lc2 (ds := iL fs) (fun i acc => acc = ((fs.take i).flatMap (begL R m)).map pD) (i_list (l_rl rfl)) (by rw [iL_len]; omega) (by decide) rfl (fun i d acc hd hI => ?_)).imp fun s ⟨acc, e, h⟩ => by rw [e, h, iL_len, List.take_length]) ?_)
  · obtain ⟨hi, rfl⟩ := iL_inv hd
    have hmem : fs.getD i 0 ∈ fs := getD_mem hi
    have tk : fs.take (i + 1) = fs.take i ++ [fs.getD i 0] := by rw [List.take_add_one, List.getElem?_eq_getElem hi, List.getD_eq_getElem?_getD, List.getElem?_eq_getElem hi]; rfl
    generalize fs.getD i 0 = s at hmem tk
    refine ⟨(R.getD s []).map eMv, fun k => pD ((mvR R s k).2, s), e_row (s := s) (e_fld (e_var rfl) kc.r kc.rv rfl) (e_var rfl) (hfl s hmem), by rw [row_len hR (hfl s hmem)]; exact hm, fun k e he => ?_, ?_⟩
    · obtain ⟨hk, rfl⟩ := row_inv hR (hfl s hmem) he
      exact ⟨_, _, gd_tup (gds_cons gd_name (gds_cons gd_name gds_nil)), by decide, e_tup (ds := [.int ((mvR R s k).2 : Int), .int (s : Int)]) (ea_cons (e_var rfl) (ea_cons (e_var rfl) ea_nil))⟩
    · rw [hI, tk, List.flatMap_append, List.map_append, row_len hR (hfl s hmem)]
      congr 1
      rw [List.flatMap_cons, List.flatMap_nil, List.append_nil]
      unfold begL
      rw [List.map_map]
      rfl
  refine d_weak (E' := [some (.dat (ruleD CR mk R)), some (.rl (iL fs)), some (.rl ((fs.flatMap (begL R m)).map pD)), none, none, none, none, none, none, none]) ?_ (by walk_at "fg")
  have hBl : (fs.flatMap (begL R m)).length ≤ 100000 := by
    rw [begL_len]
    have := Nat.mul_le_mul hfn hm
    omega
  have hBp : ∀ p ∈ fs.flatMap (begL R m), p.1 < R.length ∧ p.2 < R.length := fun p hp => by
    obtain ⟨s, k, hs, _, rfl⟩ := begL_mem.mp hp
    exact ⟨hR.next, hfl s hs⟩
  have hBb : ∀ p, p ∈ fs.flatMap (begL R m) ↔ begs R m p := fun p => by
    rw [begL_mem]
    unfold begs
    constructor
    · rintro ⟨s, k, h1, h2⟩
      exact ⟨s, k, (hfs s).mp h1, h2⟩
    · rintro ⟨s, k, h1, h2⟩
      exact ⟨s, k, (hfs s).mpr h1, h2⟩
  refine d_seq (d_forPc (P := fun ds => ∃ gs : List (Nat × Nat), ds = gs.map pD ∧ ∀ p, p ∈ gs ↔ Reach2 R m (begs R m) p) (fun ds i => ∀ j p, j < i → ds[j]? = some (pD p) → ∀ k, k < m → (mvR R p.1 k).1 = true → (mvR R p.2 k).1 = true) [some (.dat (ruleD CR mk R)), some (.rl (iL fs)), some (.rl ((fs.flatMap (begL R m)).map pD)), none, none, none, none, none, none, none]
    (i_list (l_new (e_call (ss := [.rl ((fs.flatMap (begL R m)).map pD), .dat (eMoves R)]) (ea_cons (e_rl rfl) (ea_cons (e_fld (e_var rfl) kc.r kc.rv rfl) ea_nil)) ⟨R, fs.flatMap (begL R m), hR, hl, hBl, hBp, rfl, fun gs h1 h2 => ⟨_, rfl, gs, rfl, fun p => (h2 p).trans ⟨reach2_imp fun q hq => (hBb q).mp hq, reach2_imp fun q hq => (hBb q).mpr hq⟩⟩⟩ (fun s ⟨ds, e, _⟩ => own_ol s e))))
    ⟨fun ds _ j p hj => by omega, by walk_at "fg"⟩ (fun ds i d hds hd hi => ?_) fun ds hds hi => ?_)
  · obtain ⟨gs, rfl, hgs⟩ := hds
    obtain ⟨hlt, rfl⟩ := pD_inv hd
    have hpr := (hgs _).mp (getD_mem (d := (0, 0)) hlt)
    generalize hpe : gs.getD i (0, 0) = p at hpr hd
    have hpl := reach2_lt hR (B := begs R m) (fun q hq => hBp q ((hBb q).mpr hq)) hpr
    refine ⟨_, _, gd_tup (gds_cons gd_name (gds_cons gd_name gds_nil)), d_forF (fun k => ∀ j, j < k → (mvR R p.1 j).1 = true → (mvR R p.2 j).1 = true) (fun _ => [some (.dat (ruleD CR mk R)), some (.rl (iL fs)), some (.rl ((fs.flatMap (begL R m)).map pD)), some (.dat (.int (p.1 : Int))), some (.dat (.int (p.2 : Int))), none, none, none, none, none])
      (i_zip (ea_cons (e_row (s := p.1) (e_fld (e_var rfl) kc.r kc.rv rfl) (e_var rfl) hpl.1) (ea_cons (e_row (s := p.2) (e_fld (e_var rfl) kc.r kc.rv rfl) (e_var rfl) hpl.2) ea_nil))) ⟨fun j hj => by omega, by walk_at "fg"⟩ (fun k d hd hk => ?_) fun hk => ?_⟩
    · obtain ⟨a, b, ha, hb, rfl⟩ := zip_inv hd
      obtain ⟨hkm, rfl⟩ := row_inv hR hpl.1 ha
      obtain ⟨_, rfl⟩ := row_inv hR hpl.2 hb
      refine ⟨_, _, gd_tup (gds_cons (gd_tup (gds_cons gd_name (gds_cons gd_name gds_nil))) (gds_cons (gd_tup (gds_cons gd_name (gds_cons gd_name gds_nil))) gds_nil)), d_ifD (b := (mvR R p.1 k).1 && !(mvR R p.2 k).1) (b_andD (b_val (e_var rfl)) fun _ => b_not (b_val (e_var rfl))) (fun hb => ?_) fun hb => d_next ⟨fun j hj => ?_, by walk_at "fg"⟩⟩
      · rw [Bool.and_eq_true] at hb
        refine d_ret e_bl (hP false ⟨ffT, fun z => ?_⟩)
        have q := z.2 p hpr k hkm hb.1
        rw [q] at hb
        cases hb.2
      · by_cases e : j = k
        · subst e
          intro h1
          rw [h1] at hb
          simpa using hb
        · exact hk j (by omega)
    · rw [zip_len, row_len hR hpl.1, row_len hR hpl.2, Nat.min_self] at hk
      refine ⟨fun j q hj hq k hkm => ?_, by walk_at "fg"⟩
      by_cases e : j = i
      · subst e
        rw [hd] at hq
        rw [← pD_inj.mp (Option.some.inj hq)]
        exact hk k hkm
      · exact hi j q (by omega) hq k hkm
  · obtain ⟨gs, rfl, hgs⟩ := hds
    refine d_ret e_bl (hP true ⟨fun _ => ⟨hKA, fun p hp k hk => ?_⟩, fun _ => rfl⟩)
    obtain ⟨i, hi', e⟩ := List.mem_iff_getElem.mp ((hgs p).mpr hp)
    exact hi i p (by rw [List.length_map]; exact hi') (by rw [List.getElem?_map, List.getElem?_eq_getElem hi', e]; rfl) k hk
end
end K13
end
section
set_option Elab.async false
set_option linter.all false
set_option maxRecDepth 100000
set_option maxHeartbeats 4000000
set_option autoImplicit false
/-! instances, isinstance, items of a text or a tuple -/
namespace K13
open PySem PySem.Spec PyProof.Rows L2
section
variable {U : Vol} {E : DEnv} {G : DE} {K : PySem.W.Frag}
/-! ### isinstance -/
def tyN : Dt → Option String
  | .non => some "NoneType"
  | .bl _ => some "bool"
  | .int _ => some "int"
  | .str _ => some "str"
  | .tup _ => some "tuple"
  | .obj _ _ => none
  | .adr _ => none
theorem ty_of {H : Hp} {v : V} {d : Dt} {n : String} (h : DT H v d) (e : tyN d = some n) : TyX K H v (.type n) := by
  cases h with
  | non => cases e; exact .base .non
  | bl b => cases e; exact .base (.bl b)
  | int i => cases e; exact .base (.int i)
  | str x => cases e; exact .base (.str x)
  | tup h _ => cases e; exact .base (.tup h)
  | obj _ _ => cases e
  | adr _ => cases e
theorem e_isi {te : TE} {s : Sl} {c : V} {t u : Value} {b : Bool} (h : EvP U te E (· = s)) (k : ClsV c u) (ty : ∀ H v, Hold U H v s → TyX K H v t) (e : PySem.W.kitOne K t u = some b) : EvD U (tCB (rIsi K) (tCons te (tCons (tC c) tNil))) E (.bl b) := fun H0 σ H S Q q =>
  h H0 σ H S _ fun v H1 s' x1 i1 p1 n1 => by
    subst p1
    exact ⟨v, c, t, u, b, rfl, k, ty H1 v n1.1, e, q _ H1 _ x1 i1 rfl (.dat (.bl _))⟩
theorem e_isiB {te : TE} {d : Dt} {n c : String} {b : Bool} (h : EvD U te E d) (hn : tyN d = some n) (e : kitB n c = some b) : EvD U (tCB (rIsi K) (tCons te (tCons (tC (.ty c)) tNil))) E (.bl b) :=
  e_isi h (.ty c) (fun H v hv => ty_of (show DT H v d from hv) hn) (kit_ty e)
theorem kitT : kitB "tuple" "tuple" = some true := by decide +kernel
theorem kitS : kitB "str" "str" = some true := by decide +kernel
theorem kitI : kitB "int" "int" = some true := by decide +kernel
theorem kitIB : kitB "int" "bool" = some false := by decide +kernel
theorem kitBB : kitB "bool" "bool" = some true := by decide +kernel
theorem kitBI : kitB "bool" "int" = some true := by decide +kernel
/-- what isinstance asks of a class of one's own -/
structure InK (K : PySem.W.Frag) (C : Addr) : Prop where
  cl : Cls K C
  ha : PySem.W.findIn K (.ref C) "__class__" = some (some (.builtin "object.__class__"))
  hn : PySem.W.specialIn K (.builtin "object.__class__") "__get__" = some (some (.builtin "getset_descriptor.__get__"))
  htk : PySem.W.takesIn K (.builtin "object.__class__") = some true
  hm : PySem.W.mroIn K C (.type "object") = some true
theorem e_isiO {te : TE} {C : Addr} {fs : List (Str × Dt)} (h : EvD U te E (.obj C fs)) (k : InK K C) : EvD U (tCB (rIsi K) (tCons te (tCons (tC (.ref C)) tNil))) E (.bl true) :=
  e_isi h (.own C) (fun H v hv => by
    obtain ⟨a, dx, fv, rfl, ha, _⟩ := DT.obj_inv (show DT H v (.obj C fs) from hv)
    exact .base (.ins ha k.cl k.ha k.hn k.htk k.hm)) (by unfold PySem.W.kitOne; simp)
/-! ### items of a text or a tuple -/
def ItemsOf (s : Sl) (l : List Str) : Prop := (∃ z : Str, s = .dat (.str z) ∧ l = z.cps.toList.map (fun c => ⟨#[c]⟩) ∧ z.length ≤ 1000000) ∨ (s = .dat (.tup (l.map .str)) ∧ l.length ≤ 1000000)
theorem ItemsOf.le {s : Sl} {l : List Str} (h : ItemsOf s l) : l.length ≤ 1000000 := by
  rcases h with ⟨z, rfl, rfl, h⟩ | ⟨_, h⟩
  · rw [List.length_map, Array.length_toList]
    exact h
  · exact h
theorem ItemsOf.dat {s : Sl} {l : List Str} (h : ItemsOf s l) : ∃ d, s = .dat d := by
  rcases h with ⟨z, rfl, _, _⟩ | ⟨rfl, _⟩ <;> exact ⟨_, rfl⟩
theorem rp_ixI {s : Sl} {l : List Str} {j : Nat} {x : Str} {i : Int} (h : ItemsOf s l) (hx : l[j]? = some x) (e : i = (j : Int)) : RP U (rIx K) s (.dat (.int i)) (· = .dat (.str x)) := fun H a b iv ha hb Q q => by
  rcases h with ⟨z, rfl, rfl, hl⟩ | ⟨rfl, _⟩
  · rw [List.getElem?_map] at hx
    cases hc : z.cps.toList[j]? with
    | none => rw [hc] at hx; cases hx
    | some c =>
      rw [hc] at hx
      cases hx
      exact .inr (.inr (rp_ixS hc e hl H a b iv ha hb Q q))
  · exact .inr (.inl (rp_ixT (j := j) (d := .str x) (by rw [List.getElem?_map, hx]; rfl) e H a b iv ha hb Q q))
theorem rc_lenI {s : Sl} {l : List Str} (h : ItemsOf s l) : RC U (rLenV K) [s] (· = .dat (.int l.length)) := fun H vs iv h' Q q => by
  obtain ⟨v, rfl, hv⟩ := h'.one
  rcases h with ⟨z, rfl, rfl, hl⟩ | ⟨rfl, _⟩
  · refine ⟨v, z.length, rfl, ?_, ?_⟩
    · rw [DT.str_inv hv]
      exact ⟨Nat.le_trans hl (by decide), rfl⟩
    · have e : (z.cps.toList.map (fun c => (⟨#[c]⟩ : Str))).length = z.length := by rw [List.length_map, Array.length_toList]; rfl
      rw [e] at q
      exact Post.dat q rfl iv (.int _)
  · obtain ⟨a, xs, rfl, ha, hs⟩ := DT.tup_inv hv
    refine ⟨_, l.length, rfl, .inr ⟨xs, .of ha, by rw [hs.len, List.length_map]⟩, ?_⟩
    exact Post.dat q rfl iv (.int _)
/-- len of a text, of a tuple -/
theorem rc_lenVS {z : Str} (hl : z.length ≤ 1000000) : RC U (rLenV K) [.dat (.str z)] (· = .dat (.int z.length)) := fun H vs iv h' Q q => by
  obtain ⟨v, rfl, hv⟩ := h'.one
  refine ⟨v, z.length, rfl, ?_, Post.dat q rfl iv (.int _)⟩
  rw [DT.str_inv hv]
  exact ⟨Nat.le_trans hl (by decide), rfl⟩
/-! ### an instance that is being made -/
/-- no instance inside -/
def plB : Nat → Dt → Bool
  | _, .obj _ _ => false
  | _, .adr _ => false
  | 0, .tup _ => false
  | n + 1, .tup ds => ds.all (plB n)
  | _, .non => true
  | _, .bl _ => true
  | _, .int _ => true
  | _, .str _ => true
theorem DTs.ins {n : Nat} {H : Hp} {x C dx : Addr} {fv : List (Str × V)} {o' : HO} (ih : ∀ {v : V} {d : Dt}, DT H v d → plB n d = true → DT (upd H x o') v d) : ∀ {vs : List V} {ds : List Dt}, DTs H vs ds → ds.all (plB n) = true → DTs (upd H x o') vs ds
  | _, _, .nil, _ => .nil
  | _, _, .cons h r, p => by
    rw [List.all_cons, Bool.and_eq_true] at p
    exact .cons (ih h p.1) (DTs.ins (C := C) (dx := dx) (fv := fv) ih r p.2)
theorem DT.ins {H : Hp} {x C dx : Addr} {fv : List (Str × V)} {o' : HO} (hx : H x = some (.ins C dx fv)) : ∀ (n : Nat) {v : V} {d : Dt}, DT H v d → plB n d = true → DT (upd H x o') v d
  | _, _, _, .non, _ => .non
  | _, _, _, .bl b, _ => .bl b
  | _, _, _, .int i, _ => .int i
  | _, _, _, .str z, _ => .str z
  | _, _, _, .adr a, _ => .adr a
  | n, _, _, .obj _ _, p => by cases n <;> cases p
  | 0, _, _, .tup _ _, p => by cases p
  | n + 1, _, _, .tup (a := a) (xs := xs) h r, p => by
    refine .tup (xs := xs) ?_ (DTs.ins (C := C) (dx := dx) (fv := fv) (fun h q => DT.ins hx n h q) r p)
    rw [upd_ne (fun z => by rw [z, hx] at h; cases h)]
    exact h
/-- the end of an __init__: x gets its fields -/
def TailS (U : Vol) (u : TS) (E : DEnv) (x C : Addr) (fs : List (Str × Dt)) : Prop := ∀ D H0 σ H dx, SD U H0 E σ H → H0 x = some (.ins C dx []) →
  (∀ σ' H' fv, (∀ b o, b ≠ x → H0 b = some o → ¬ U.bad b o → H' b = some o) → H' x = some (.ins C dx fv) → DTf H' fv fs → D.nx σ' H') → u D σ H
theorem tail_seq {t u : TS} {x C : Addr} {fs : List (Str × Dt)} (h : DS U t E { nx := fun E' => TailS U u E' x C fs, rt := fun _ => False }) : TailS U (tSeq t u) E x C fs := fun D H0 σ H dx S hx k =>
  h { D with nx := u D } H0 σ H S ⟨fun E' σ' H' g S' => g D H0 σ' H' dx S' hx k, fun _ _ _ z => z.elim, fun _ _ _ z => z.elim, fun _ _ _ z => z.elim⟩
theorem tail_fg {E' : DEnv} {u : TS} {x C : Addr} {fs : List (Str × Dt)} (h : TailS U u E' x C fs) (f : Fg E E') : TailS U u E x C fs := fun D H0 σ H dx S hx k => h D H0 σ H dx (S.fg f) hx k
theorem tail_fld2 {x C : Addr} {f1 f2 : Str} {d1 d2 : Dt} (hc : Cls K C) (n1 : NoAttr K C f1) (n2 : NoAttr K C f2) (hne : ¬ f1 = f2) (h0 : E[0]? = some (some (.dat (.adr x)))) (h1 : E[1]? = some (some (.dat d1))) (h2 : E[2]? = some (some (.dat d2))) (p1 : plB 9 d1 = true) (p2 : plB 9 d2 = true) :
    TailS U (tSeq (sFld K (tVar 0) (tVar 1) f1) (sFld K (tVar 0) (tVar 2) f2)) E x C [(f1, d1), (f2, d2)] := fun D H0 σ H dx S hx k => by
  obtain ⟨v0, e0, g0, _⟩ := S.sl 0 _ h0
  obtain ⟨v1, e1, g1, _⟩ := S.sl 1 _ h1
  obtain ⟨v2, e2, g2, _⟩ := S.sl 2 _ h2
  have g1 : DT H v1 d1 := g1
  have g2 : DT H v2 d2 := g2
  have g0 : DT H v0 (.adr x) := g0
  cases g0
  have hx1 : H x = some (.ins C dx []) := S.xt.kp x _ hx rfl
  refine ⟨v1, e1, _, e0, x, C, dx, [], rfl, hx1, hc, n1, by decide, ?_⟩
  refine ⟨v2, e2, _, e0, x, C, dx, _, rfl, upd_same, hc, n2, by show 1 < 1000; decide, ?_⟩
  refine k _ _ [(f1, v1), (f2, v2)] (fun b o hb e nb => ?_) ?_ ?_
  · rw [upd_ne hb, upd_ne hb]
    exact S.xt.1 b o e nb
  · rw [upd_same]
    show some (HO.ins C dx (if f1 = f2 then _ else _)) = _
    rw [if_neg hne]
    rfl
  · have hx2 : upd H x (.ins C dx (putF f1 v1 [])) x = some (.ins C dx (putF f1 v1 [])) := upd_same
    exact .cons (DT.ins hx2 9 (DT.ins hx1 9 g1 p1) p1) (.cons (DT.ins hx2 9 (DT.ins hx1 9 g2 p2) p2) .nil)
end
/-! ### classes: what is made -/
abbrev AskI := List Sl → List (Str × Dt) → Prop
def spInit (w : World) (C : Addr) (A : AskI) : Sp := fun vs H Q _ => ∃ x dx rest ss fs, vs = V.ref x :: rest ∧ H x = some (.ins C dx []) ∧ HAll (V0 w) H rest ss ∧ A ss fs ∧
  ∀ H' fv, (∀ b o, b ≠ x → H b = some o → H' b = some o) → H' x = some (.ins C dx fv) → DTf H' fv fs → Q .non H'
/-- the class's __init__ stands -/
def DnI (K : PySem.W.Frag) (mg : Str → Option Value) (cls qual : Str) (st : Stmt) (C : Addr) : Prop := ∃ f fd, Mk K C f ∧ FunD K "__init__" qual (defArgs st) (defBody st) (defScope st) [] [] f fd ∧ mg cls = some (.ref C)
def DnM (K : PySem.W.Frag) (m qual : Str) (st : Stmt) (C : Addr) : Prop := ∃ f fd, Cls K C ∧ Meth K C m f ∧ FunD K m qual (defArgs st) (defBody st) (defScope st) [] [] f fd
abbrev BdM (m qual : Str) (st : Stmt) (ps : List Str) : Prop := ∀ (kV doc pm : Value) (an : Option Addr) (cdv ct : Value) (us : List Value), us.length = ps.length → bindArgs (PySem.W.fnOf m qual (defArgs st) (defBody st) (defScope st) .none kV doc pm an cdv ct) ⟨us, []⟩ = pure (ps.zip us)
structure FineI (A : AskI) (n : Nat) : Prop where
  ok : ∀ ss fs, A ss fs → ss.length + 1 = n ∧ ∀ s ∈ ss, s.own = false
section
variable {P : Program} {w : World} {K : PySem.W.Frag} {mg : Str → Option Value} {base : Heap}
theorem mak_of {cls qual : Str} {st : Stmt} {N ps : List Str} {k : Nat} {C : Addr} {A : AskI} (D : DnI K mg cls qual st C) (S : FnScope N ps (defScope st)) (hb : BdM "__init__" qual st ps) (hA : FineI A ps.length) (hN : ps.length ≤ N.length)
    (body : ∀ (f : Addr) (cdv : Value) (A' : Around) (outer : List Env) (s : Shared) (H : Hp) (E : XK), Room k (A'.deeper (envOfC qual (defScope st) s.heap.objs.size f cdv)) →
      ∃ t, PSs (cxOf C8.CX0 P w K mg base N qual (defScope st) f cdv A' outer s H E).nox (defBody st) t ∧ ∀ x ss fs, A ss fs → TailS (V0 w) t (startE N (.dat (.adr x) :: ss)) x C fs) : C8.Mak P w K mg base (k + 1) cls C (spInit w C A) [] := by
  obtain ⟨f, fd, M, F, gm⟩ := D
  have len : ∀ vs H Q E, spInit w C A vs H Q E → vs.length = ps.length := fun vs H Q E ⟨x, dx, rest, ss, fs, e, _, h, ha, _⟩ => by
    rw [e, List.length_cons, h.len]
    exact (hA.ok ss fs ha).1
  refine ⟨f, fd, ps, [], M, F.ok (CX := C8.CX0) S len (fun cdv A' outer s H vs Q E hr hsp => ?_), gm, F.bindsN hb, .nil⟩
  obtain ⟨t, h1, h2⟩ := body f cdv A' outer s H E hr
  refine ⟨t, h1.nox, ?_⟩
  obtain ⟨x, dx, rest, ss, fs, rfl, hx, h, ha, q⟩ := hsp
  obtain ⟨a1, a2⟩ := hA.ok ss fs ha
  refine h2 x ss fs ha _ H _ H dx (SD.start (.cons (.adr x) h) trivial (by rw [List.length_cons]; omega) (fun s hs => ?_)) hx fun σ' H' fv b1 b2 b3 => q H' fv (fun b o hb e => b1 b o hb e id) b2 b3
  rcases List.mem_cons.mp hs with e | hs
  · rw [e]; rfl
  · exact a2 s hs
theorem met_of {m qual : Str} {st : Stmt} {N ps : List Str} {k : Nat} {C : Addr} {U : Vol} {A : Ask} (D : DnM K m qual st C) (S : FnScope N ps (defScope st)) (hb : BdM m qual st ps) (hA : Fine A ps.length) (hN : ps.length ≤ N.length)
    (body : ∀ (f : Addr) (cdv : Value) (A' : Around) (outer : List Env) (s : Shared) (H : Hp) (E : XK), Room k (A'.deeper (envOfC qual (defScope st) s.heap.objs.size f cdv)) →
      ∃ t, PSs (cxOf C8.CX0 P w K mg base N qual (defScope st) f cdv A' outer s H E).nox (defBody st) t ∧ ∀ ss Pp, A ss Pp → DS U t (startE N ss) { nx := fun _ => Pp (.dat .non), rt := Pp }) : C8.Met P w K mg base (k + 1) C m (spD U A) [] := by
  obtain ⟨f, fd, c, me, F⟩ := D
  refine ⟨f, fd, ps, [], c, me, F.ok (CX := C8.CX0) S (len_of hA) (fun cdv A' outer s H vs Q E hr hsp => ?_), F.bindsN hb, .nil⟩
  obtain ⟨t, h1, h2⟩ := body f cdv A' outer s H E hr
  exact ⟨t, h1.nox, body_of hA hN h2 hsp⟩
/-- made: an instance with its fields -/
theorem e_mk {U : Vol} {E : DEnv} {E' : XK} {ta : TA} {C : Addr} {A : AskI} {ss : List Sl} {fs : List (Str × Dt)} (h : EvA U ta E (· = ss)) (ha : A ss fs) : EvD U (tMake C (spInit U.w C A) [] E' ta) E (.obj C fs) := fun H0 σ H S Q q =>
  h H0 σ H S _ fun vs H1 ss' x1 i1 p1 n1 => by
    subst p1
    intro x dx hx hdx hne
    have s1 : Same H1 (upd H1 dx (.own x)) := same_new hdx
    have hx' : upd H1 dx (.own x) x = none := by rw [upd_ne (Ne.symm hne)]; exact hx
    have s2 : Same H1 (upd (upd H1 dx (.own x)) x (.ins C dx [])) := fun b o e => same_new hx' b o (s1 b o e)
    rw [List.append_nil]
    refine ⟨x, dx, vs, ss', fs, rfl, upd_same, (n1.xt (.of s2)).v0, ha, fun H' fv b1 b2 b3 => ⟨rfl, ?_⟩⟩
    have sm : Same H1 H' := fun b o e => b1 b o (ne_of_none e hx) (s2 b o e)
    exact q (.ref x) H' _ (x1.trans (.of sm)) (U.ex _ _ i1 sm) rfl (.dat (.obj b2 b3))
end
end K13
end
section
set_option Elab.async false
set_option linter.all false
set_option maxRecDepth 100000
set_option maxHeartbeats 4000000
set_option autoImplicit false
local macro_rules | `(tactic| walk_at "fg") => `(tactic| (repeat' (first | exact True.intro | exact rfl | constructor)))
namespace K13
open PySem PySem.Spec PyProof.Rows L2 C8
/-! ### texts that may be marks, kinds -/
def oneS (z : Str) : List Str := z.cps.toList.map fun c => ⟨#[c]⟩
def ascB (l : List Str) : Bool := (List.range (l.length - 1)).all fun i => ltS (l.getD i "") (l.getD (i + 1) "")
def inB (z x : Str) : Bool := x.cps.toList.all fun c => decide (c ∈ z.cps.toList)
def mksB (z : Str) : Bool := decide (z.length ≤ 5) && (inB "abcdefghijklmnopqrstuvwxyz" z && ascB (oneS z))
def kndB (z x : Str) : Bool := decide (x.length ≤ 100) && (inB z x && ascB (oneS x))
structure MkLaw (mk : Str) (ev : List Str) (m : Nat) : Prop where
  ok : MkOk mk ev m
  kinds : MkKinds mk ev
  marks : mksB mk = true
  each : ∀ k, k < m → kndB mk (kd ev k) = true
theorem ascB_pair {l : List Str} (h : ∀ i j, i < j → j < l.length → ltS (l.getD i "") (l.getD j "") = true) : ascB l = true := by
  unfold ascB
  rw [List.all_eq_true]
  intro i hi
  rw [List.mem_range] at hi
  exact h i (i + 1) (by omega) (by omega)
theorem sign_get {z : Str} {i : Nat} {d : Dt} (h : (signs z)[i]? = some d) : ∃ c, z.cps.toList[i]? = some c ∧ d = .str ⟨#[c]⟩ := by
  unfold signs at h
  rw [List.getElem?_map] at h
  cases q : z.cps.toList[i]? with
  | none => rw [q] at h; cases h
  | some c => rw [q] at h; cases h; exact ⟨c, rfl, rfl⟩
theorem signs_len (z : Str) : (signs z).length = z.length := by
  unfold signs
  rw [List.length_map, Array.length_toList]
  rfl
theorem rp_eqS {U : Vol} {i j : Str} : RP U rEq (.dat (.str i)) (.dat (.str j)) (· = .dat (.bl (decide (i = j)))) := fun H x y iv hx hy Q q => by
  obtain rfl := DT.str_inv hx
  obtain rfl := DT.str_inv hy
  refine ⟨rfl, Post.dat q rfl iv ?_⟩
  have e : decide (V.str i = V.str j) = decide (i = j) := by simp
  rw [e]
  exact .bl _
section
variable {P : Program} {w : World} {K : PySem.W.Frag} {mg : Str → Option Value} {base : Heap} {mk : Str} {ev : List Str} {m : Nat}
/-- all signs are in -/
theorem e_inAll {U : Vol} {E : DEnv} {i : Nat} {vs : List Nat} {tz : TE} {z x : Str} (hl : x.length ≤ 1000) (hx : E[i]? = some (some (.dat (.str x)))) {j : Nat} (hj : j ∈ vs) (hjE : j < E.length) (hz : ∀ d : Dt, EvD U tz ((wipeE E vs).set j (some (.dat d))) (.str z)) :
    EvD U (tCB (rAll K) (tCons (tLc (iStr (tVar i)) (gName j) tYes (tOp (fun x y H Q => ∃ (c : Nat) (z : Str), x = V.str ⟨#[c]⟩ ∧ y = V.str z ∧ Q (V.bl (decide (c ∈ z.cps.toList))) H) (tVar j) tz) vs) tNil)) E (.bl (inB z x)) := by
  have e : inB z x = (List.range (signs x).length).all fun q => decide (x.cps.toList.getD q 0 ∈ z.cps.toList) := by
    rw [signs_len]
    unfold inB
    have q := all_getD x.cps.toList 0 fun c => decide (c ∈ z.cps.toList)
    rw [Array.length_toList] at q
    exact q.symm
  rw [e]
  refine e_allM _ (i_str (e_var hx)) (by rw [signs_len]; omega) fun q d hd => ?_
  obtain ⟨c, hc, rfl⟩ := sign_get hd
  have e2 : x.cps.toList.getD q 0 = c := by rw [List.getD_eq_getElem?_getD, hc]; rfl
  rw [e2]
  exact ⟨_, _, gd_name, fun j' h' => by rw [List.mem_singleton.mp h']; exact hj, e_opD (e_var (by rw [List.getElem?_set_self (by rw [wipeE_len]; exact hjE)])) (hz _) rp_inS⟩
/-! ### is_ascending -/
abbrev s_is_ascending : Stmt := topS 13
theorem sc_is_ascending : FnScope ["items", "at"] ["items"] (defScope s_is_ascending) := ⟨rfl, rfl, rfl, by decide +kernel, rfl, by decide +kernel, by decide +kernel⟩
theorem bd_is_ascending : Bd "is_ascending" s_is_ascending ["items"] := fun _ _ _ _ _ _ us hl => match us, hl with | [_], _ => rfl
def aAsc : Ask := fun ss P => ∃ s l, ItemsOf s l ∧ ss = [s] ∧ P (.dat (.bl (ascB l)))
theorem cAsc (M : Mf mg) (D : Dn K mg "is_ascending" s_is_ascending) : Cal P w K mg base 1 "is_ascending" (spD (V0 w) aAsc) [] := by
  have sc := sc_is_ascending
  refine cal_of D sc bd_is_ascending (fine1 fun ss P ⟨s, l, h, e, _⟩ => let ⟨d, hd⟩ := h.dat; ⟨[d], by rw [e, hd]; rfl, rfl⟩) (by decide) fun f cdv A' outer s H E hr => ⟨_, (pss_one (ps_ret (pe_callB (show CallR _ _ (rAll K) from (cr_all rfl)) (by rfl) M.all_ boot_all_ (pa_cons (pe_lc rfl sc.nd (pi_range2 (by rfl) M.range_ (pa_cons pe_int (pa_cons (pe_callB (show CallR _ _ (rLenV K) from call_len) (by rfl) M.len_ PySem.boot_len (pa_cons (pv 0) pa_nil)) pa_nil))) (blk_of (N := ["items", "at"]) (sc := defScope s_is_ascending) (own := [("at", 1)]) (by decide +kernel)) (fun _ _ _ _ _ => (pg_name (i := 1) sc.nd rfl (by first | exact .inl rfl | exact .inr rfl))) (fun _ _ _ _ _ => pts_nil) (fun _ _ _ _ _ => (pe_cmpR op_lt_str (pe_ix (show IxR _ (rIx K) from ix_seq) (pv 0) (pe_op op_sub (pv 1) pe_int) (fun _ _ => rfl)) (pe_ix (show IxR _ (rIx K) from ix_seq) (pv 0) (pv 1) (fun _ _ => rfl)) (nomark _)))) pa_nil)))), ?_⟩
  rintro ss Pp ⟨s, l, hl, rfl, hP⟩
  obtain ⟨d, rfl⟩ := hl.dat
  have hle := hl.le
  have hn : (rngD 1 ((l.length : Int) - 1).toNat).length = l.length - 1 := by rw [rngD_len]; omega
  refine d_ret (d := .bl (ascB l)) ?_ hP
  unfold ascB
  rw [← hn]
  refine e_allM _ (i_range2D e_int (e_cb1 (e_var rfl) (rc_lenI hl)) (by omega)) (by rw [hn]; omega) fun i e he => ?_
  obtain ⟨rfl, hi⟩ := rngD_get he
  have g : ∀ j, j < l.length → l[j]? = some (l.getD j "") := fun j hj => by rw [List.getD_eq_getElem?_getD, List.getElem?_eq_getElem hj]; rfl
  exact ⟨_, _, gd_name, by decide, e_opD (e_opD (e_var rfl) (e_opD (e_var rfl) e_int rp_sub) (rp_ixI hl (g i (by omega)) (by omega))) (e_opD (e_var rfl) (e_var rfl) (rp_ixI hl (g (i + 1) (by omega)) (by omega))) rp_ltS⟩
/-! ### is_marks -/
abbrev s_is_marks : Stmt := topS 14
theorem sc_is_marks : FnScope ["thing", "sign"] ["thing"] (defScope s_is_marks) := ⟨rfl, rfl, rfl, by decide +kernel, rfl, by decide +kernel, by decide +kernel⟩
theorem bd_is_marks : Bd "is_marks" s_is_marks ["thing"] := fun _ _ _ _ _ _ us hl => match us, hl with | [_], _ => rfl
def aMarks : Ask := fun ss P => ∃ z, mksB z = true ∧ ss = [.dat (.str z)] ∧ P (.dat (.bl true))
theorem cMarks (M : Mf mg) (c_is_ascending : Cal P w K mg base 1 "is_ascending" (spD (V0 w) aAsc) []) (D : Dn K mg "is_marks" s_is_marks) : Cal P w K mg base 2 "is_marks" (spD (V0 w) aMarks) [] := by
  have sc := sc_is_marks
  refine cal_of D sc bd_is_marks (fine1 fun ss P ⟨z, _, e, _⟩ => ⟨[_], e, rfl⟩) (by decide) fun f cdv A' outer s H E hr => ⟨_, (pss_cons (ps_if (PW.pt (pw_or (pt_not (pt_val (pe_callB (show CallR _ _ (rIsi K) from call_isi) (by rfl) M.isinstance_ boot_isinstance (pa_cons (pv 0) (pa_cons (pe_bltn (v := .ty "str") (by rfl) M.str_ boot_str rfl) pa_nil))))) (pw_or1 (pt_cmpR op_gt (pe_callB (show CallR _ _ (rLenV K) from call_len) (by rfl) M.len_ PySem.boot_len (pa_cons (pv 0) pa_nil)) (pe_gc (by rfl) M.MOST_MARKS) (nomark _))))) (pss_one (ps_ret pe_bl)) pss_nil)
      (pss_one (ps_ret (pe_and (pe_callB (show CallR _ _ (rAll K) from (cr_all rfl)) (by rfl) M.all_ boot_all_ (pa_cons (pe_lc rfl sc.nd (pi_str (pv 0)) (blk_of (N := ["thing", "sign"]) (sc := defScope s_is_marks) (own := [("sign", 1)]) (by decide +kernel)) (fun _ _ _ _ _ => (pg_name (i := 1) sc.nd rfl (by first | exact .inl rfl | exact .inr rfl))) (fun _ _ _ _ _ => pts_nil) (fun _ _ _ _ _ => (pe_cmpR op_in_sign (pv 1) (pe_gc (by rfl) M.SMALL) (by rfl)))) pa_nil)) (pe_one (pe_c c_is_ascending hr (by decide) (by rfl) (pa_cons (pv 0) pa_nil))))))), ?_⟩
  rintro ss Pp ⟨z, hz, rfl, hP⟩
  unfold mksB at hz
  rw [Bool.and_eq_true, Bool.and_eq_true, decide_eq_true_eq] at hz
  obtain ⟨z1, z2, z3⟩ := hz
  refine d_seq (d_ifD (b := false) ((b_orD (b_not (a := true) (b_val (e_isiB (e_var rfl) rfl kitS))) fun _ => b_test (e_opD (e_cb1 (e_var rfl) (rc_lenVS (by omega))) e_int rp_gt)).imp fun b e => ?_) (fun z => by cases z) fun _ => d_next ?_)
  · rw [e, decide_eq_false (by omega)]
    rfl
  · refine d_ret (d := .bl (inB "abcdefghijklmnopqrstuvwxyz" z && ascB (oneS z))) (e_andV (e_inAll (by omega) rfl (by decide) (Nat.le_of_ble_eq_true rfl) fun d => e_str) fun _ => e_callD (ss := [.dat (.str z)]) (ea_cons (e_var rfl) ea_nil) ⟨_, oneS z, .inl ⟨z, rfl, rfl, by omega⟩, rfl, rfl⟩) ?_
    rw [z2, z3]
    exact hP
/-! ### is_kind -/
abbrev s_is_kind : Stmt := topS 15
theorem sc_is_kind : FnScope ["marks", "thing", "sign"] ["marks", "thing"] (defScope s_is_kind) := ⟨rfl, rfl, rfl, by decide +kernel, rfl, by decide +kernel, by decide +kernel⟩
theorem bd_is_kind : Bd "is_kind" s_is_kind ["marks", "thing"] := fun _ _ _ _ _ _ us hl => match us, hl with | [_, _], _ => rfl
def aKind : Ask := fun ss P => ∃ z x, kndB z x = true ∧ ss = [.dat (.str z), .dat (.str x)] ∧ P (.dat (.bl true))
theorem cKind (M : Mf mg) (c_is_ascending : Cal P w K mg base 1 "is_ascending" (spD (V0 w) aAsc) []) (D : Dn K mg "is_kind" s_is_kind) : Cal P w K mg base 2 "is_kind" (spD (V0 w) aKind) [] := by
  have sc := sc_is_kind
  refine cal_of D sc bd_is_kind (fine1 fun ss P ⟨z, x, _, e, _⟩ => ⟨[_, _], e, rfl⟩) (by decide) fun f cdv A' outer s H E hr => ⟨_, (pss_one (ps_ret (pe_and (pe_callB (show CallR _ _ (rIsi K) from call_isi) (by rfl) M.isinstance_ boot_isinstance (pa_cons (pv 1) (pa_cons (pe_bltn (v := .ty "str") (by rfl) M.str_ boot_str rfl) pa_nil))) (pe_and (pe_callB (show CallR _ _ (rAll K) from (cr_all rfl)) (by rfl) M.all_ boot_all_ (pa_cons (pe_lc rfl sc.nd (pi_str (pv 1)) (blk_of (N := ["marks", "thing", "sign"]) (sc := defScope s_is_kind) (own := [("sign", 2)]) (by decide +kernel)) (fun _ _ _ _ _ => (pg_name (i := 2) sc.nd rfl (by first | exact .inl rfl | exact .inr rfl))) (fun _ _ _ _ _ => pts_nil) (fun _ _ _ _ _ => (pe_cmpR op_in_sign (pv 2) (pv 0) (by rfl)))) pa_nil)) (pe_one (pe_c c_is_ascending hr (by decide) (by rfl) (pa_cons (pv 1) pa_nil))))))), ?_⟩
  rintro ss Pp ⟨z, x, hz, rfl, hP⟩
  unfold kndB at hz
  rw [Bool.and_eq_true, Bool.and_eq_true, decide_eq_true_eq] at hz
  obtain ⟨z1, z2, z3⟩ := hz
  refine d_ret (d := .bl (true && (inB z x && ascB (oneS x)))) (e_andV (e_isiB (e_var rfl) rfl kitS) fun _ => e_andV (e_inAll (by omega) rfl (by decide) (Nat.le_of_ble_eq_true rfl) fun d => e_var rfl) fun _ => e_callD (ss := [.dat (.str x)]) (ea_cons (e_var rfl) ea_nil) ⟨_, oneS x, .inl ⟨x, rfl, rfl, by omega⟩, rfl, rfl⟩) ?_
  rw [z2, z3]
  exact hP
/-! ### is_lot -/
abbrev s_is_lot : Stmt := topS 16
theorem sc_is_lot : FnScope ["marks", "thing", "kind"] ["marks", "thing"] (defScope s_is_lot) := ⟨rfl, rfl, rfl, by decide +kernel, rfl, by decide +kernel, by decide +kernel⟩
theorem bd_is_lot : Bd "is_lot" s_is_lot ["marks", "thing"] := fun _ _ _ _ _ _ us hl => match us, hl with | [_, _], _ => rfl
def aIsLot (mk : Str) (ev : List Str) (m : Nat) : Ask := fun ss P => ∃ a, ValidLot m a ∧ ss = [.dat (.str mk), .dat (eLot ev a)] ∧ P (.dat (.bl true))
theorem lot_asc (h : MkLaw mk ev m) {a : Lot} (ha : ValidLot m a) : ascB (a.map (kd ev)) = true := ascB_pair fun i j hij hj => by
  rw [List.length_map] at hj
  rw [List.getD_eq_getElem?_getD, List.getD_eq_getElem?_getD, List.getElem?_map, List.getElem?_map, List.getElem?_eq_getElem (by omega : i < a.length), List.getElem?_eq_getElem hj]
  show ltS (kd ev a[i]) (kd ev a[j]) = true
  rw [h.ok.lt _ _ (ha.2.2 _ (List.getElem_mem _)) (ha.2.2 _ (List.getElem_mem _))]
  exact decide_eq_true (List.pairwise_iff_getElem.mp ha.2.1 i j (by omega) hj hij)
theorem cIsLot (h : MkLaw mk ev m) (M : Mf mg) (c_is_ascending : Cal P w K mg base 1 "is_ascending" (spD (V0 w) aAsc) []) (c_is_kind : Cal P w K mg base 2 "is_kind" (spD (V0 w) aKind) []) (D : Dn K mg "is_lot" s_is_lot) : Cal P w K mg base 3 "is_lot" (spD (V0 w) (aIsLot mk ev m)) [] := by
  have sc := sc_is_lot
  refine cal_of D sc bd_is_lot (fine1 fun ss P ⟨a, _, e, _⟩ => ⟨[_, _], e, rfl⟩) (by decide) fun f cdv A' outer s H E hr => ⟨_, (pss_cons (ps_if (PW.pt (pw_or (pt_not (pt_val (pe_callB (show CallR _ _ (rIsi K) from call_isi) (by rfl) M.isinstance_ boot_isinstance (pa_cons (pv 1) (pa_cons (pe_bltn (v := .ty "tuple") (by rfl) M.tuple_ boot_tuple rfl) pa_nil))))) (pw_or1 (pt_cmpR op_eq (pe_callB (show CallR _ _ (rLen K) from call_len_seq) (by rfl) M.len_ PySem.boot_len (pa_cons (pv 1) pa_nil)) pe_int (nomark _))))) (pss_one (ps_ret pe_bl)) pss_nil)
      (pss_one (ps_ret (pe_and (pe_callB (show CallR _ _ (rAll K) from (cr_all rfl)) (by rfl) M.all_ boot_all_ (pa_cons (pe_lc rfl sc.nd (show PI _ _ _ (iTup K _) from pi_tup (pv 1)) (blk_of (N := ["marks", "thing", "kind"]) (sc := defScope s_is_lot) (own := [("kind", 2)]) (by decide +kernel)) (fun _ _ _ _ _ => (pg_name (i := 2) sc.nd rfl (by first | exact .inl rfl | exact .inr rfl))) (fun _ _ _ _ _ => pts_nil) (fun _ _ _ _ _ => (pe_c c_is_kind hr (by decide) (by rfl) (pa_cons (pv 0) (pa_cons (pv 2) pa_nil))))) pa_nil)) (pe_one (pe_c c_is_ascending hr (by decide) (by rfl) (pa_cons (pv 1) pa_nil))))))), ?_⟩
  rintro ss Pp ⟨a, ha, rfl, hP⟩
  have hal := ha.len
  have hsm := h.ok.evk.sm
  have ll : ((a.map (kd ev)).map Dt.str).length = a.length := by rw [List.length_map, List.length_map]
  have hpos : 0 < a.length := List.length_pos_iff.mpr ha.1
  refine d_seq (d_ifD (b := false) ((b_orD (b_not (a := true) (b_val (e_isiB (e_var rfl) rfl kitT))) fun _ => b_test (e_opD (e_cb1 (e_var rfl) (rc_lenTn ll)) e_int rp_eqI)).imp fun b e => ?_) (fun z => by cases z) fun _ => d_next ?_)
  · rw [e, decide_eq_false (by omega)]
    rfl
  · refine d_ret (d := .bl (((List.range ((a.map (kd ev)).map Dt.str).length).all fun _ => true) && ascB (a.map (kd ev)))) (e_andV (e_allM (fun _ => true) (i_tupD (e_var rfl)) (by rw [ll]; omega) fun i d hd => ?_) fun _ => e_callD (ss := [.dat (eLot ev a)]) (ea_cons (e_var rfl) ea_nil) ⟨_, a.map (kd ev), .inr ⟨rfl, by rw [List.length_map]; omega⟩, rfl, rfl⟩) ?_
    · obtain ⟨hi, rfl⟩ := kinds_inv hd
      exact ⟨_, _, gd_name, by decide, e_callD (ss := [.dat (.str mk), .dat (.str (kd ev (a.getD i 0)))]) (ea_cons (e_var rfl) (ea_cons (e_var rfl) ea_nil)) ⟨_, _, h.each _ (ha.2.2 _ (getD_mem hi)), rfl, rfl⟩⟩
    · have e : ((List.range ((a.map (kd ev)).map Dt.str).length).all fun _ => true) = true := List.all_eq_true.mpr fun _ _ => rfl
      rw [lot_asc h ha, e]
      exact hP
/-! ### first_no_lot -/
abbrev s_first_no_lot : Stmt := topS 22
theorem sc_first_no_lot : FnScope ["marks", "lots", "at", "lot"] ["marks", "lots"] (defScope s_first_no_lot) := ⟨rfl, rfl, rfl, by decide +kernel, rfl, by decide +kernel, by decide +kernel⟩
theorem bd_first_no_lot : Bd "first_no_lot" s_first_no_lot ["marks", "lots"] := fun _ _ _ _ _ _ us hl => match us, hl with | [_, _], _ => rfl
def aNoLot (mk : Str) (ev : List Str) (m : Nat) : Ask := fun ss P => ∃ z L, ValidL m L ∧ L.length ≤ 60 ∧ (L = [] ∨ z = mk) ∧ ss = [.dat (.str z), .dat (eLots ev L)] ∧ P (.dat .non)
theorem cNoLot (M : Mf mg) (c_is_lot : Cal P w K mg base 3 "is_lot" (spD (V0 w) (aIsLot mk ev m)) []) (D : Dn K mg "first_no_lot" s_first_no_lot) : Cal P w K mg base 4 "first_no_lot" (spD (V0 w) (aNoLot mk ev m)) [] := by
  have sc := sc_first_no_lot
  refine cal_of D sc bd_first_no_lot (fine1 fun ss P ⟨z, L, _, _, _, e, _⟩ => ⟨[_, _], e, rfl⟩) (by decide) fun f cdv A' outer s H E hr => ⟨_, (pss_cons (ps_for PassesOwn.never rfl (show PI _ _ _ (iEnumT K _) from pi_enumT (by rfl) M.enumerate_ (pa_cons (pv 1) pa_nil)) (show PG _ _ (gTup K 2 _) from pg_tup rfl (pgs_cons (pg_name (i := 2) sc.nd rfl (by first | exact .inl rfl | exact .inr rfl)) (pgs_cons (pg_name (i := 3) sc.nd rfl (by first | exact .inl rfl | exact .inr rfl)) pgs_nil))) (pss_one (ps_if (pt_not (pt_val (pe_c c_is_lot hr (by decide) (by rfl) (pa_cons (pv 0) (pa_cons (pv 3) pa_nil))))) (pss_one (ps_ret (pv 2))) pss_nil)))
      (pss_one (ps_ret pe_non))), ?_⟩
  rintro ss Pp ⟨z, L, hv, hl, hz, rfl, hP⟩
  refine d_seq (d_forE (fun _ => [some (.dat (.str z)), some (.dat (eLots ev L)), none, none]) (i_enum (e_var rfl)) (by walk_at "fg") (fun i d hd => ?_) (d_ret e_non hP))
  obtain ⟨e, he, rfl⟩ := enD_get hd
  obtain ⟨hi, rfl⟩ := eLots_inv he
  have e : z = mk := by
    rcases hz with rfl | e
    · simp at hi
    · exact e
  subst e
  exact ⟨_, _, gd_tup (gds_cons gd_name (gds_cons gd_name gds_nil)), d_ifD (b := false) (b_not (a := true) (b_val (e_callD (ss := [.dat (.str z), .dat (eLot ev (L.getD i []))]) (ea_cons (e_var rfl) (ea_cons (e_var rfl) ea_nil)) ⟨_, hv _ (getD_mem hi), rfl, rfl⟩))) (fun z => by cases z) fun _ => d_next (by walk_at "fg")⟩
/-! ### Seats(..) -/
abbrev s_Seats_init : Stmt := inClass (topS 23) 0
theorem sc_Seats_init : FnScope ["self", "marks", "lots", "at"] ["self", "marks", "lots"] (defScope s_Seats_init) := ⟨rfl, rfl, rfl, by decide +kernel, rfl, by decide +kernel, by decide +kernel⟩
theorem bd_Seats_init : BdM "__init__" "Seats.__init__" s_Seats_init ["self", "marks", "lots"] := fun _ _ _ _ _ _ us hl => match us, hl with | [_, _, _], _ => rfl
def seatsF (ev : List Str) (z : Str) (L : Lots) : List (Str × Dt) := [("marks", .str z), ("lots", eLots ev L)]
def aSeats (mk : Str) (ev : List Str) (m : Nat) : AskI := fun ss fs => ∃ z L, mksB z = true ∧ ValidL m L ∧ L.length ≤ 40 ∧ (L = [] ∨ z = mk) ∧ ss = [.dat (.str z), .dat (eLots ev L)] ∧ fs = seatsF ev z L
theorem fineSeats (mk : Str) (ev : List Str) (m : Nat) : FineI (aSeats mk ev m) 3 := ⟨fun ss fs ⟨z, L, _, _, _, _, e, _⟩ => by subst e; exact ⟨rfl, fun s hs => by simp at hs; rcases hs with h | h <;> subst h <;> rfl⟩⟩
theorem pl_eLots (ev : List Str) (L : Lots) : plB 9 (eLots ev L) = true := by
  unfold eLots plB
  rw [List.all_map]
  refine List.all_eq_true.mpr fun a _ => ?_
  show plB 8 (eLot ev a) = true
  unfold eLot plB
  rw [List.all_map]
  exact List.all_eq_true.mpr fun k _ => rfl
theorem pl_eMoves (M : Moves) : plB 9 (eMoves M) = true := by
  unfold eMoves plB
  rw [List.all_map]
  refine List.all_eq_true.mpr fun a _ => ?_
  show plB 8 (eRow a) = true
  unfold eRow plB
  rw [List.all_map]
  exact List.all_eq_true.mpr fun k _ => rfl
theorem kSeats {CR CS : Addr} (kc : Kc K CR CS) (M : Mf mg) (c_is_marks : Cal P w K mg base 2 "is_marks" (spD (V0 w) aMarks) []) (c_first_no_lot : Cal P w K mg base 4 "first_no_lot" (spD (V0 w) (aNoLot mk ev m)) []) (D : DnI K mg "Seats" "Seats.__init__" s_Seats_init CS) : Mak P w K mg base 5 "Seats" CS (spInit w CS (aSeats mk ev m)) [] := by
  have sc := sc_Seats_init
  refine mak_of D sc bd_Seats_init (fineSeats mk ev m) (by decide) fun f cdv A' outer s H E hr => ⟨_, (pss_cons (ps_if (pt_not (pt_val (pe_c c_is_marks hr (by decide) (by rfl) (pa_cons (pv 1) pa_nil)))) (pss_one ps_never) pss_nil)
      (pss_cons (ps_if (PW.pt (pw_or (pt_not (pt_val (pe_callB (show CallR _ _ (rIsi K) from call_isi) (by rfl) M.isinstance_ boot_isinstance (pa_cons (pv 2) (pa_cons (pe_bltn (v := .ty "tuple") (by rfl) M.tuple_ boot_tuple rfl) pa_nil))))) (pw_or1 (pt_cmpR op_gt (pe_callB (show CallR _ _ (rLen K) from call_len_seq) (by rfl) M.len_ PySem.boot_len (pa_cons (pv 2) pa_nil)) (pe_gc (by rfl) M.MOST_SEATS) (nomark _))))) (pss_one ps_never) pss_nil)
      (pss_cons (ps_set (i := 3) sc.nd rfl (by first | exact .inl rfl | exact .inr rfl) (pe_c c_first_no_lot hr (by decide) (by rfl) (pa_cons (pv 1) (pa_cons (pv 2) pa_nil))))
      (pss_cons (ps_if (pt_cmpR op_notN (pv 3) pe_non (nomark _)) (pss_one ps_never) pss_nil)
      (pss_cons (show PS _ _ (sFld K _ _ _) from ps_fld (pv 0) (pv 1) rfl)
      (pss_one (show PS _ _ (sFld K _ _ _) from ps_fld (pv 0) (pv 2) rfl))))))), ?_⟩
  rintro x ss fs ⟨z, L, hz, hv, hl, hzk, rfl, rfl⟩
  refine tail_seq (d_ifD (b := false) (b_not (a := true) (b_val (e_callD (ss := [.dat (.str z)]) (ea_cons (e_var rfl) ea_nil) ⟨z, hz, rfl, rfl⟩))) (fun z => by cases z) fun _ => d_next ?_)
  refine tail_seq (d_ifD (b := false) ((b_orD (b_not (a := true) (b_val (e_isiB (e_var rfl) rfl kitT))) fun _ => b_test (e_opD (e_cb1 (e_var rfl) (rc_lenTn (n := L.length) (by rw [List.length_map]))) e_int rp_gt)).imp fun b e => ?_) (fun z => by cases z) fun _ => d_next ?_)
  · rw [e, decide_eq_false (by omega)]
    rfl
  refine tail_seq (d_asg (e_callD (ss := [.dat (.str z), .dat (eLots ev L)]) (ea_cons (e_var rfl) (ea_cons (e_var rfl) ea_nil)) ⟨z, L, hv, by omega, hzk, rfl, rfl⟩) ?_)
  refine tail_seq (d_ifD (b := false) (b_test (e_opD (e_var rfl) e_non rp_notNn)) (fun z => by cases z) fun _ => d_next ?_)
  exact tail_fld2 kc.s kc.sm kc.sl (by decide) rfl rfl rfl rfl (pl_eLots ev L)
/-! ### is_integer, is_within, is_pair, is_stand -/
abbrev s_is_integer : Stmt := topS 10
theorem sc_is_integer : FnScope ["thing"] ["thing"] (defScope s_is_integer) := ⟨rfl, rfl, rfl, by decide +kernel, rfl, by decide +kernel, by decide +kernel⟩
theorem bd_is_integer : Bd "is_integer" s_is_integer ["thing"] := fun _ _ _ _ _ _ us hl => match us, hl with | [_], _ => rfl
def aInt : Ask := fun ss P => ∃ i, ss = [.dat (.int i)] ∧ P (.dat (.bl true))
theorem cInt (M : Mf mg) (D : Dn K mg "is_integer" s_is_integer) : Cal P w K mg base 1 "is_integer" (spD (V0 w) aInt) [] := by
  have sc := sc_is_integer
  refine cal_of D sc bd_is_integer (fine1 fun ss P ⟨z, e, _⟩ => ⟨[_], e, rfl⟩) (by decide) fun f cdv A' outer s H E hr => ⟨_, (pss_one (ps_ret (pe_and (pe_callB (show CallR _ _ (rIsi K) from call_isi) (by rfl) M.isinstance_ boot_isinstance (pa_cons (pv 0) (pa_cons (pe_bltn (v := .ty "int") (by rfl) M.int_ boot_int rfl) pa_nil))) (pe_one (pe_not (pe_callB (show CallR _ _ (rIsi K) from call_isi) (by rfl) M.isinstance_ boot_isinstance (pa_cons (pv 0) (pa_cons (pe_bltn (v := .ty "bool") (by rfl) M.bool_ boot_bool rfl) pa_nil)))))))), ?_⟩
  rintro ss Pp ⟨i, rfl, hP⟩
  exact d_ret (d := .bl (true && !false)) (e_andV (e_isiB (e_var rfl) rfl kitI) fun _ => e_notV (e_isiB (e_var rfl) rfl kitIB)) hP
abbrev s_is_within : Stmt := topS 11
theorem sc_is_within : FnScope ["thing", "least", "most"] ["thing", "least", "most"] (defScope s_is_within) := ⟨rfl, rfl, rfl, by decide +kernel, rfl, by decide +kernel, by decide +kernel⟩
theorem bd_is_within : Bd "is_within" s_is_within ["thing", "least", "most"] := fun _ _ _ _ _ _ us hl => match us, hl with | [_, _, _], _ => rfl
def aWithin : Ask := fun ss P => ∃ i lo hi : Int, lo ≤ i ∧ i ≤ hi ∧ ss = [.dat (.int i), .dat (.int lo), .dat (.int hi)] ∧ P (.dat (.bl true))
theorem cWithin (M : Mf mg) (c_is_integer : Cal P w K mg base 1 "is_integer" (spD (V0 w) aInt) []) (D : Dn K mg "is_within" s_is_within) : Cal P w K mg base 2 "is_within" (spD (V0 w) aWithin) [] := by
  have sc := sc_is_within
  refine cal_of D sc bd_is_within (fine1 fun ss P ⟨_, _, _, _, _, e, _⟩ => ⟨[_, _, _], e, rfl⟩) (by decide) fun f cdv A' outer s H E hr => ⟨_, (pss_one (ps_ret (pe_and (pe_c c_is_integer hr (by decide) (by rfl) (pa_cons (pv 0) pa_nil)) (pe_one (pe_chain op_le op_le (pv 1) (pv 0) (pv 2)))))), ?_⟩
  rintro ss Pp ⟨i, lo, hi, h1, h2, rfl, hP⟩
  refine d_ret (d := .bl (true && (decide (lo ≤ i) && decide (i ≤ hi)))) (e_andV (e_callD (ss := [.dat (.int i)]) (ea_cons (e_var rfl) ea_nil) ⟨i, rfl, rfl⟩) fun _ => e_chain (e_var rfl) (e_var rfl) (e_var rfl) rp_le fun _ => rp_le) ?_
  rw [decide_eq_true h1, decide_eq_true h2]
  exact hP
abbrev s_is_pair : Stmt := topS 12
theorem sc_is_pair : FnScope ["thing"] ["thing"] (defScope s_is_pair) := ⟨rfl, rfl, rfl, by decide +kernel, rfl, by decide +kernel, by decide +kernel⟩
theorem bd_is_pair : Bd "is_pair" s_is_pair ["thing"] := fun _ _ _ _ _ _ us hl => match us, hl with | [_], _ => rfl
def aPair : Ask := fun ss P => ∃ p, ss = [.dat (eMv p)] ∧ P (.dat (.bl true))
theorem cPair (M : Mf mg) (D : Dn K mg "is_pair" s_is_pair) : Cal P w K mg base 1 "is_pair" (spD (V0 w) aPair) [] := by
  have sc := sc_is_pair
  refine cal_of D sc bd_is_pair (fine1 fun ss P ⟨_, e, _⟩ => ⟨[_], e, rfl⟩) (by decide) fun f cdv A' outer s H E hr => ⟨_, (pss_one (ps_ret (pe_and (pe_callB (show CallR _ _ (rIsi K) from call_isi) (by rfl) M.isinstance_ boot_isinstance (pa_cons (pv 0) (pa_cons (pe_bltn (v := .ty "tuple") (by rfl) M.tuple_ boot_tuple rfl) pa_nil))) (pe_one (pe_cmpR op_eq (pe_callB (show CallR _ _ (rLen K) from call_len_seq) (by rfl) M.len_ PySem.boot_len (pa_cons (pv 0) pa_nil)) pe_int (nomark _)))))), ?_⟩
  rintro ss Pp ⟨p, rfl, hP⟩
  exact d_ret (d := .bl (true && decide ((2 : Int) = 2))) (e_andV (e_isiB (e_var rfl) rfl kitT) fun _ => e_opD (e_cb1 (e_var rfl) (rc_lenTn (n := 2) rfl)) e_int rp_eqI) hP
abbrev s_is_stand : Stmt := topS 33
theorem sc_is_stand : FnScope ["thing", "kinds", "stands", "move"] ["thing", "kinds", "stands"] (defScope s_is_stand) := ⟨rfl, rfl, rfl, by decide +kernel, rfl, by decide +kernel, by decide +kernel⟩
theorem bd_is_stand : Bd "is_stand" s_is_stand ["thing", "kinds", "stands"] := fun _ _ _ _ _ _ us hl => match us, hl with | [_, _, _], _ => rfl
def aStand (m : Nat) : Ask := fun ss P => ∃ (M : Moves) (s : Nat), RuleOk M m ∧ s < M.length ∧ ss = [.dat (eRow (M.getD s [])), .dat (.int (m : Int)), .dat (.int (M.length : Int))] ∧ P (.dat (.bl true))
theorem cStand (M : Mf mg) (c_is_pair : Cal P w K mg base 1 "is_pair" (spD (V0 w) aPair) []) (c_is_within : Cal P w K mg base 2 "is_within" (spD (V0 w) aWithin) []) (D : Dn K mg "is_stand" s_is_stand) : Cal P w K mg base 3 "is_stand" (spD (V0 w) (aStand m)) [] := by
  have sc := sc_is_stand
  refine cal_of D sc bd_is_stand (fine1 fun ss P ⟨_, _, _, _, e, _⟩ => ⟨[_, _, _], e, rfl⟩) (by decide) fun f cdv A' outer s H E hr => ⟨_, (pss_cons (ps_if (PW.pt (pw_or (pt_not (pt_val (pe_callB (show CallR _ _ (rIsi K) from call_isi) (by rfl) M.isinstance_ boot_isinstance (pa_cons (pv 0) (pa_cons (pe_bltn (v := .ty "tuple") (by rfl) M.tuple_ boot_tuple rfl) pa_nil))))) (pw_or1 (pt_cmpR op_ne (pe_callB (show CallR _ _ (rLen K) from call_len_seq) (by rfl) M.len_ PySem.boot_len (pa_cons (pv 0) pa_nil)) (pv 1) (nomark _))))) (pss_one (ps_ret pe_bl)) pss_nil)
      (pss_cons (ps_for PassesOwn.never rfl (show PI _ _ _ (iTup K _) from pi_tup (pv 0)) (pg_name (i := 3) sc.nd rfl (by first | exact .inl rfl | exact .inr rfl)) (pss_one (ps_if (PW.pt (pw_or (pt_not (pt_val (pe_c c_is_pair hr (by decide) (by rfl) (pa_cons (pv 3) pa_nil)))) (pw_or (pt_not (pt_val (pe_callB (show CallR _ _ (rIsi K) from call_isi) (by rfl) M.isinstance_ boot_isinstance (pa_cons (pe_ix (show IxR _ (rIxT K) from ix_tup) (pv 3) pe_int (fun _ _ => rfl)) (pa_cons (pe_bltn (v := .ty "bool") (by rfl) M.bool_ boot_bool rfl) pa_nil))))) (pw_or1 (pt_not (pt_val (pe_c c_is_within hr (by decide) (by rfl) (pa_cons (pe_ix (show IxR _ (rIxT K) from ix_tup) (pv 3) pe_int (fun _ _ => rfl)) (pa_cons pe_int (pa_cons (pe_op op_sub (pv 2) pe_int) pa_nil)))))))))) (pss_one (ps_ret pe_bl)) pss_nil)))
      (pss_one (ps_ret pe_bl)))), ?_⟩
  rintro ss Pp ⟨R, s, hR, hs, rfl, hP⟩
  refine d_seq (d_ifD (b := false) ((b_orD (b_not (a := true) (b_val (e_isiB (e_var rfl) rfl kitT))) fun _ => b_test (e_opD (e_cb1 (e_var rfl) (rc_lenTn (n := m) (row_len hR hs))) (e_var rfl) rp_neI)).imp fun b e => ?_) (fun z => by cases z) fun _ => d_next ?_)
  · rw [e, decide_eq_true rfl]
    rfl
  refine d_seq (d_forE (fun _ => [some (.dat (eRow (R.getD s []))), some (.dat (.int (m : Int))), some (.dat (.int (R.length : Int))), none]) (i_tupD (e_var rfl)) (by walk_at "fg") (fun k d hd => ?_) (d_ret e_bl hP))
  obtain ⟨hk, rfl⟩ := row_inv hR hs hd
  have hg : (mvR R s k).2 < R.length := hR.next
  exact ⟨_, _, gd_name, d_ifD (b := false) (b_orD (a := false) (b := false || false) (b_not (a := true) (b_val (e_callD (ss := [.dat (eMv (mvR R s k))]) (ea_cons (e_var rfl) ea_nil) ⟨_, rfl, rfl⟩))) fun _ =>
    b_orD (b_not (a := true) (b_val (e_isiB (d := .bl (mvR R s k).1) (e_opD (e_var rfl) e_int (rp_ixT (j := 0) rfl)) rfl kitBB))) fun _ =>
      b_not (a := true) (b_val (e_callD (ss := [.dat (.int ((mvR R s k).2 : Int)), .dat (.int 0), .dat (.int ((R.length : Int) - 1))]) (ea_cons (e_opD (e_var rfl) e_int (rp_ixT (j := 1) rfl)) (ea_cons e_int (ea_cons (e_opD (e_var rfl) e_int rp_sub) ea_nil))) ⟨_, _, _, by omega, by omega, rfl, rfl⟩))) (fun z => by cases z) fun _ => d_next (by walk_at "fg")⟩
/-! ### Rule(..) -/
abbrev s_Rule_init : Stmt := inClass (topS 34) 0
theorem sc_Rule_init : FnScope ["self", "marks", "moves", "kinds", "at", "stand"] ["self", "marks", "moves"] (defScope s_Rule_init) := ⟨rfl, rfl, rfl, by decide +kernel, rfl, by decide +kernel, by decide +kernel⟩
theorem bd_Rule_init : BdM "__init__" "Rule.__init__" s_Rule_init ["self", "marks", "moves"] := fun _ _ _ _ _ _ us hl => match us, hl with | [_, _, _], _ => rfl
def ruleF (mk : Str) (M : Moves) : List (Str × Dt) := [("marks", .str mk), ("moves", eMoves M)]
def aRule (mk : Str) (m : Nat) : AskI := fun ss fs => ∃ M : Moves, RuleOk M m ∧ M.length ≤ 60 ∧ ss = [.dat (.str mk), .dat (eMoves M)] ∧ fs = ruleF mk M
theorem fineRule (mk : Str) (m : Nat) : FineI (aRule mk m) 3 := ⟨fun ss fs ⟨M, _, _, e, _⟩ => by subst e; exact ⟨rfl, fun s hs => by simp at hs; rcases hs with h | h <;> subst h <;> rfl⟩⟩
theorem kRule {CR CS : Addr} (h : MkLaw mk ev m) (kc : Kc K CR CS) (M : Mf mg) (c_is_marks : Cal P w K mg base 2 "is_marks" (spD (V0 w) aMarks) []) (c_all_kinds : Cal P w K mg base 1 "all_kinds" (spD (V0 w) (a_all_kinds mk ev)) []) (c_is_stand : Cal P w K mg base 3 "is_stand" (spD (V0 w) (aStand m)) []) (D : DnI K mg "Rule" "Rule.__init__" s_Rule_init CR) : Mak P w K mg base 4 "Rule" CR (spInit w CR (aRule mk m)) [] := by
  have sc := sc_Rule_init
  refine mak_of D sc bd_Rule_init (fineRule mk m) (by decide) fun f cdv A' outer s H E hr => ⟨_, (pss_cons (ps_if (pt_not (pt_val (pe_c c_is_marks hr (by decide) (by rfl) (pa_cons (pv 1) pa_nil)))) (pss_one ps_never) pss_nil)
      (pss_cons (ps_if (PW.pt (pw_or (pt_not (pt_val (pe_callB (show CallR _ _ (rIsi K) from call_isi) (by rfl) M.isinstance_ boot_isinstance (pa_cons (pv 2) (pa_cons (pe_bltn (v := .ty "tuple") (by rfl) M.tuple_ boot_tuple rfl) pa_nil))))) (pw_or1 (pt_not (pt_chain op_le op_le pe_int (pe_callB (show CallR _ _ (rLen K) from call_len_seq) (by rfl) M.len_ PySem.boot_len (pa_cons (pv 2) pa_nil)) (pe_gc (by rfl) M.MOST_STANDS)))))) (pss_one ps_never) pss_nil)
      (pss_cons (ps_set (i := 3) sc.nd rfl (by first | exact .inl rfl | exact .inr rfl) (pe_c c_all_kinds hr (by decide) (by rfl) (pa_cons (pv 1) pa_nil)))
      (pss_cons (ps_for PassesOwn.never rfl (show PI _ _ _ (iEnumT K _) from pi_enumT (by rfl) M.enumerate_ (pa_cons (pv 2) pa_nil)) (show PG _ _ (gTup K 2 _) from pg_tup rfl (pgs_cons (pg_name (i := 4) sc.nd rfl (by first | exact .inl rfl | exact .inr rfl)) (pgs_cons (pg_name (i := 5) sc.nd rfl (by first | exact .inl rfl | exact .inr rfl)) pgs_nil))) (pss_one (ps_if (pt_not (pt_val (pe_c c_is_stand hr (by decide) (by rfl) (pa_cons (pv 5) (pa_cons (pe_callB (show CallR _ _ (rLen K) from call_len_seq) (by rfl) M.len_ PySem.boot_len (pa_cons (pv 3) pa_nil)) (pa_cons (pe_callB (show CallR _ _ (rLen K) from call_len_seq) (by rfl) M.len_ PySem.boot_len (pa_cons (pv 2) pa_nil)) pa_nil)))))) (pss_one ps_never) pss_nil)))
      (pss_cons (show PS _ _ (sFld K _ _ _) from ps_fld (pv 0) (pv 1) rfl)
      (pss_one (show PS _ _ (sFld K _ _ _) from ps_fld (pv 0) (pv 2) rfl))))))), ?_⟩
  rintro x ss fs ⟨R, hR, hl, rfl, rfl⟩
  have hpos := hR.pos
  refine tail_seq (d_ifD (b := false) (b_not (a := true) (b_val (e_callD (ss := [.dat (.str mk)]) (ea_cons (e_var rfl) ea_nil) ⟨mk, h.marks, rfl, rfl⟩))) (fun z => by cases z) fun _ => d_next ?_)
  refine tail_seq (d_ifD (b := false) ((b_orD (b_not (a := true) (b_val (e_isiB (e_var rfl) rfl kitT))) fun _ => b_not (b_test (e_chain e_int (e_cb1 (e_var rfl) (rc_lenTn (n := R.length) (by rw [List.length_map]))) e_int rp_le fun _ => rp_le))).imp fun b e => ?_) (fun z => by cases z) fun _ => d_next ?_)
  · rw [e, decide_eq_true (by omega), decide_eq_true (by omega)]
    rfl
  refine tail_seq (d_asgN (e_callN (ss := [.dat (.str mk)]) (ea_cons (e_var rfl) ea_nil) ⟨rfl, rfl⟩) ?_)
  refine tail_seq (d_forE (fun _ => [some (.dat (.adr x)), some (.dat (.str mk)), some (.dat (eMoves R)), some (.rl (ev.map .str)), none, none]) (i_enum (e_var rfl)) (by walk_at "fg") (fun i d hd => ?_) ?_)
  · obtain ⟨e, he, rfl⟩ := enD_get hd
    have hi : i < R.length := by have := (List.getElem?_eq_some_iff.mp he).1; rwa [List.length_map] at this
    rw [row_get hi] at he
    cases he
    exact ⟨_, _, gd_tup (gds_cons gd_name (gds_cons gd_name gds_nil)), d_ifD (b := false) (b_not (a := true) (b_val (e_callD (ss := [.dat (eRow (R.getD i [])), .dat (.int (m : Int)), .dat (.int (R.length : Int))]) (ea_cons (e_var rfl) (ea_cons (e_cb1 (e_rl rfl) (rc_lenLn (by rw [List.length_map, h.ok.evk.len]))) (ea_cons (e_cb1 (e_var rfl) (rc_lenTn (n := R.length) (by rw [List.length_map]))) ea_nil))) ⟨R, i, hR, hi, rfl, rfl⟩))) (fun z => by cases z) fun _ => d_next (by walk_at "fg")⟩
  exact tail_fld2 kc.r kc.rm kc.rv (by decide) rfl rfl rfl rfl (pl_eMoves R)
/-! ### Seats == Seats -/
abbrev s_Seats_eq : Stmt := inClass (topS 23) 1
theorem sc_Seats_eq : FnScope ["self", "other"] ["self", "other"] (defScope s_Seats_eq) := ⟨rfl, rfl, rfl, by decide +kernel, rfl, by decide +kernel, by decide +kernel⟩
theorem bd_Seats_eq : BdM "__eq__" "Seats.__eq__" s_Seats_eq ["self", "other"] := fun _ _ _ _ _ _ us hl => match us, hl with | [_, _], _ => rfl
def aSeq (mk : Str) (ev : List Str) (m : Nat) (CS : Addr) : Ask := fun ss P => ∃ L, ValidL m L ∧ ss = [.dat (seatsD CS ev mk L), .dat (seatsD CS ev mk L)] ∧ P (.dat (.bl true))
theorem mSeatsEq {CR CS : Addr} (h : MkOk mk ev m) (kc : Kc K CR CS) (ik : InK K CS) (M : Mf mg) (mSeats : ∃ u, mg "Seats" = some u ∧ RelV (.ref CS) u) (D : DnM K "__eq__" "Seats.__eq__" s_Seats_eq CS) : Met P w K mg base 1 CS "__eq__" (spD (V0 w) (aSeq mk ev m CS)) [] := by
  have sc := sc_Seats_eq
  refine met_of D sc bd_Seats_eq (fine1 fun ss P ⟨L, _, e, _⟩ => ⟨[_, _], e, rfl⟩) (by decide) fun f cdv A' outer s H E hr => ⟨_, (pss_cons (ps_if (pt_not (pt_val (pe_callB (show CallR _ _ (rIsi K) from call_isi) (by rfl) M.isinstance_ boot_isinstance (pa_cons (pv 1) (pa_cons (pe_gc (by rfl) mSeats) pa_nil))))) (pss_one (ps_ret pe_bl)) pss_nil)
      (pss_one (ps_ret (pe_and (pe_cmpR op_eq (show PE _ _ (tFld K _ _) from pe_fld (pv 0) rfl) (show PE _ _ (tFld K _ _) from pe_fld (pv 1) rfl) (nomark _)) (pe_one (pe_cmpR (show OpR _ _ (rEqD K) from (op_eqD hr.units)) (show PE _ _ (tFld K _ _) from pe_fld (pv 0) rfl) (show PE _ _ (tFld K _ _) from pe_fld (pv 1) rfl) (nomark _))))))), ?_⟩
  rintro ss Pp ⟨L, hv, rfl, hP⟩
  have hc : cl 9 (eLots ev L) = true := cl_eLots h (fun a ha => (hv a ha).2.2) 7
  refine d_seq (d_ifD (b := false) (b_not (b_val (e_isiO (e_var rfl) ik))) (fun z => by cases z) fun _ => d_next ?_)
  refine d_ret (d := .bl (decide (mk = mk) && true)) (e_andV (e_opD (e_fld (e_var rfl) kc.s kc.sm rfl) (e_fld (e_var rfl) kc.s kc.sm rfl) rp_eqS) fun _ => e_opD (e_fld (e_var rfl) kc.s kc.sl rfl) (e_fld (e_var rfl) kc.s kc.sl rfl) (rp_eqD hc hc (by simp))) ?_
  rw [decide_eq_true rfl]
  exact hP
end
end K13
end
section
set_option Elab.async false
set_option linter.all false
set_option maxRecDepth 100000
set_option maxHeartbeats 4000000
set_option autoImplicit false
/-! volatile worlds side by side; a nested function that is called elsewhere -/
namespace K13
open PySem PySem.Spec PyProof.Rows L2
/-- what U' has for volatile is so for U -/
structure Sub (U' U : Vol) : Prop where
  w : U'.w = U.w
  bad : ∀ a o, U'.bad a o → U.bad a o
  inv : ∀ H, U.inv H → U'.inv H
  back : ∀ H H', U.inv H → Xt U' H H' → U'.inv H' → U.inv H'
section
variable {U U' : Vol}
theorem sub0 : Sub (V0 U.w) U := ⟨rfl, fun _ _ h => h.elim, fun _ _ => trivial, fun H H' iv x _ => U.ex H H' iv x.same⟩
theorem Sub.refl : Sub U U := ⟨rfl, fun _ _ h => h, fun _ h => h, fun _ _ _ _ h => h⟩
theorem Sub.xt (sb : Sub U' U) {H H' : Hp} (x : Xt U' H H') : Xt U H H' := ⟨fun a o e n => x.1 a o e fun b => n (sb.bad a o b), x.2⟩
theorem Sub.hold (sb : Sub U' U) {H : Hp} : ∀ {s : Sl} {v : V}, Hold U H v s → Hold U' H v s
  | .dat _, _, h => h
  | .rl _, _, h => let ⟨a, xs, e, h1, h2, h3⟩ := h; ⟨a, xs, e, h1, fun b => h2 (sb.bad _ _ b), h3⟩
  | .ol _, _, h => let ⟨a, xs, e, h1, h2, h3⟩ := h; ⟨a, xs, e, h1, fun b => h2 (sb.bad _ _ b), h3⟩
  | .oi _, _, h => let ⟨a, e, h1, h2⟩ := h; ⟨a, e, h1, fun b => h2 (sb.bad _ _ b)⟩
  | .on _, _, h => let ⟨a, xs, e, h1, h2, h3⟩ := h; ⟨a, xs, e, by rw [sb.w]; exact h1, fun b => h2 (by rw [sb.w] at b; exact sb.bad _ _ b), h3⟩
  | .ra _ _, _, h => let ⟨a, xs, e, h1, h2, h3⟩ := h; ⟨a, xs, e, h1, fun b => h2 (sb.bad _ _ b), h3⟩
theorem Sub.all (sb : Sub U' U) {H : Hp} {vs : List V} {ss : List Sl} (h : HAll U H vs ss) : HAll U' H vs ss := by
  induction h with
  | nil => exact .nil
  | cons h _ ih => exact .cons (sb.hold h) ih
theorem Sub.holdN (sb : Sub U' U) {H H' : Hp} (iv : U.inv H) : ∀ {s : Sl} {v : V}, (s.mut = true → s.own = true) → HoldN U' H H' v s → HoldN U H H' v s
  | .dat _, _, _, h => .dat h.1
  | .rl _, _, z, _ => by cases z rfl
  | .ra _ _, _, z, _ => by cases z rfl
  | .ol _, v, _, ⟨⟨a, xs, e, h1, _, h3⟩, n⟩ => ⟨⟨a, xs, e, h1, U.nw _ _ _ iv (n rfl a e) (.b rfl), h3⟩, n⟩
  | .oi _, v, _, ⟨⟨a, e, h1, _⟩, n⟩ => ⟨⟨a, e, h1, U.nw _ _ _ iv (n rfl a e) (.b rfl)⟩, n⟩
  | .on _, v, _, ⟨⟨a, xs, e, h1, _, h3⟩, n⟩ => ⟨⟨a, xs, e, by rw [← sb.w]; exact h1, by rw [← sb.w]; exact U.nw _ _ _ iv (n rfl a e) ord_nd, h3⟩, n⟩
theorem e_callS {E : DEnv} {Ew : XK} {ta : TA} {A : Ask} {ss : List Sl} {P : Sl → Prop} (sb : Sub U' U) (h : EvA U ta E (· = ss)) (ha : A ss P) (hm : ∀ s, P s → s.mut = true → s.own = true) : EvP U (tCall (spD U' A) [] Ew ta) E P := fun H0 σ H S Q q =>
  h H0 σ H S _ fun xs H1 ss' x1 i1 p1 n1 => by
    subst p1
    rw [List.append_nil]
    refine ⟨ss', P, sb.all n1, sb.inv _ i1, ha, fun v H' s x i p n => ?_⟩
    exact q v H' s (x1.trans (sb.xt x)) (sb.back _ _ i1 x i) p ((sb.holdN i1 (hm s p) n).later x1)
theorem e_callSD {E : DEnv} {Ew : XK} {ta : TA} {A : Ask} {ss : List Sl} {d : Dt} (sb : Sub U' U) (h : EvA U ta E (· = ss)) (ha : A ss (· = .dat d)) : EvD U (tCall (spD U' A) [] Ew ta) E d := e_callS sb h ha own_dat
end
/-! ### lists whose place is told -/
section
variable {U : Vol} {E : DEnv} {i : Nat} {ka : Addr} {ds : List Dt}
theorem l_ra (h : E[i]? = some (some (.ra ka ds))) : EvL U (tVar i) E (· = ds) := fun H0 σ H S Q q => by
  obtain ⟨v, h1, ⟨a, xs, rfl, h2, h3, h4⟩, _⟩ := S.sl i _ h
  refine ⟨_, h1, q a xs H ds .refl S.inv rfl h2 h3 h4.1 fun j s e o e2 => ?_⟩
  by_cases hji : j = i
  · subst hji
    rw [h] at e
    cases e
    cases o
  · exact S.sep j i s _ _ hji e h o rfl e2 h1
theorem e_ra (h : E[i]? = some (some (.ra ka ds))) : EvP U (tVar i) E (· = .rl ds) := fun H0 σ H S Q q => by
  obtain ⟨v, h1, ⟨a, xs, e, h2, h3, h4⟩, _⟩ := S.sl i _ h
  exact ⟨v, h1, Post.of q rfl S.inv ⟨⟨a, xs, e, h2, h3, h4.1⟩, fun z => by cases z⟩⟩
theorem e_raa (h : E[i]? = some (some (.ra ka ds))) : EvP U (tVar i) E (· = .ra ka ds) := fun H0 σ H S Q q => by
  obtain ⟨v, h1, h2, _⟩ := S.sl i _ h
  exact ⟨v, h1, Post.of q rfl S.inv ⟨h2, fun z => by cases z⟩⟩
theorem e_adr {a : Addr} (h : E[i]? = some (some (.dat (.adr a)))) : EvD U (tVar i) E (.adr a) := e_var h
end
/-! ### the tables of code objects -/
open NdefX LamX
def VT (w : World) (T : List NTab) : Vol where
  w := w
  bad := fun a o => (∃ ps, o = .tbl ps) ∨ ∃ q, o = CodeO a q
  inv := fun H => TabsN T H
  nb := fun a o h => by
    rcases h with ⟨ps, rfl⟩ | ⟨q, rfl⟩ <;> rfl
  ex := fun H H' iv s => iv.ext s
  nw := fun H p o _ _ od h => by
    rcases h with ⟨ps, e⟩ | ⟨q, e⟩
    · exact od.1 ps e
    · exact od.2 _ q e
  st := fun H a o o' iv ha _ nb od p hp => by
    obtain ⟨ps, h1, h2, h3⟩ := iv p hp
    refine ⟨ps, ?_, h2, fun pos cv hc => ?_⟩
    · rw [upd_ne (fun z => nb (.inl ⟨ps, by rw [z] at h1; exact Option.some.inj (ha.symm.trans h1)⟩))]
      exact h1
    · obtain ⟨c, e, hcc⟩ := h3 pos cv hc
      refine ⟨c, e, ?_⟩
      rw [upd_ne (fun z => nb (.inr ⟨p.2 pos.line pos.col, by rw [z] at hcc; exact Option.some.inj (ha.symm.trans hcc)⟩))]
      exact hcc
  sb := fun H a o o' _ _ _ od h => by
    rcases h with ⟨ps, e⟩ | ⟨q, e⟩
    · exact od.1 ps e
    · exact od.2 _ q e
/-- .. and one function, of which the datum dr is captured as vr -/
def VF (w : World) (T : List NTab) (f : Addr) (F : NF) (vr : V) (dr : Dt) : Vol where
  w := w
  bad := fun a o => (VT w T).bad a o ∨ ((a = f ∨ a = F.c) ∧ isTI o = false)
  inv := fun H => TabsN T H ∧ H f = some (FnO f F) ∧ H F.c = some (CodeO F.c F.qual) ∧ DT H vr dr
  nb := fun a o h => by
    rcases h with h | h
    · exact (VT w T).nb a o h
    · exact h.2
  ex := fun H H' iv s => ⟨iv.1.ext s, s _ _ iv.2.1, s _ _ iv.2.2.1, iv.2.2.2.kp fun a o e _ => s a o e⟩
  nw := fun H p o iv np od h => by
    rcases h with h | ⟨h, _⟩
    · exact (VT w T).nw H p o iv.1 np od h
    · rcases h with h | h
      · rw [h, iv.2.1] at np; cases np
      · rw [h, iv.2.2.1] at np; cases np
  st := fun H a o o' iv ha ti nb od => by
    have n1 : f ≠ a := fun z => nb (.inr ⟨.inl z.symm, ti⟩)
    have n2 : F.c ≠ a := fun z => nb (.inr ⟨.inr z.symm, ti⟩)
    refine ⟨(VT w T).st H a o o' iv.1 ha ti (fun z => nb (.inl z)) od, by rw [upd_ne n1]; exact iv.2.1, by rw [upd_ne n2]; exact iv.2.2.1, iv.2.2.2.kp fun b u e t => ?_⟩
    rw [upd_ne (fun z => by rw [z, ha] at e; cases e; rw [ti] at t; cases t)]
    exact e
  sb := fun H a o o' iv ha nb od h => by
    rcases h with h | ⟨h, _⟩
    · exact (VT w T).sb H a o o' iv.1 ha (fun z => nb (.inl z)) od h
    · refine nb (.inr ⟨h, ?_⟩)
      rcases h with h | h
      · rw [h, iv.2.1] at ha; cases ha; rfl
      · rw [h, iv.2.2.1] at ha; cases ha; rfl
section
variable {w : World} {T : List NTab} {f : Addr} {F : NF} {vr : V} {dr : Dt} {H H' : Hp}
theorem vf_out (iv : (VF w T f F vr dr).inv H) (x : Xt (VF w T f F vr dr) H H') (iv' : (VF w T f F vr dr).inv H') : Xt (VT w T) H H' := ⟨fun a o e n => by
  by_cases hf : a = f
  · rw [hf, iv.2.1] at e
    rw [hf, ← e]
    exact iv'.2.1
  · by_cases hc : a = F.c
    · rw [hc, iv.2.2.1] at e
      rw [hc, ← e]
      exact iv'.2.2.1
    · exact x.1 a o e fun b => b.elim n fun z => z.1.elim hf hc, x.2⟩
end
/-! ### calls of the function -/
/-- its promise, in data: behind the arguments stand the captured ones -/
def spN (w : World) (n : Nat) (A : Ask) : List (Option V) → Sp := fun ws vs H Q _ => ∃ us ss P, vs.length = n ∧ ws = us.map some ∧ HAll (V0 w) H (vs ++ us) ss ∧ A ss P ∧ Post (V0 w) H P Q
/-- f(..), f a name that holds the function F -/
def tCallS (f : Addr) (F : NF) (i : Nat) (ws : List (Option V)) (sp : List (Option V) → Sp) (E : XK) (t : TA) : TE := fun σ H Q => σ[i]? = some (some (.ref f)) ∧ H f = some (FnO f F) ∧
  t σ H fun vs H1 => H1 f = some (FnO f F) ∧ H1 F.c = some (CodeO F.c F.qual) ∧ sp ws vs H1 Q E
section
variable {X : Cx} {CX : CXT} {F : NF} {f : Addr} {ps fr : List Str} {ws : List (Option V)} {i j k : Nat} {x : Str} {sp : List (Option V) → Sp} {E : XK} {t : TA} {e : Expr} {es : List Expr} {p pos : Pos}
theorem pe_callS (Fn : NOk X.prog X.w X.K X.mg X.base CX k f F ps fr sp) (C : CellsAt F.cl fr ws X.s_0.heap X.H_0) (nf : ∀ y c, F.cl.lookup y = some c → c ∉ X.fs) (hxx : X.ex = []) (hr : Room j X.A) (hk : k ≤ j) (hx : Passes CX X E) (hN : X.N[i]? = some x) (hv : Vis X.env.scope x) (ha : PA X (e :: es) t)
    (hd : (x == ("__debug__" : Str)) = false := by decide) (hcd : (x == ("__classdict__" : Str)) = false := by decide)
    (he : starEach (e :: es) X.env = (false, eval e X.env) :: starEach es X.env := by rfl) (hpl : (backTo pos (starEach es X.env)).any (·.1) = false := by rfl) :
    PE X (.Call (.Name x p) (e :: es) [] pos) (tCallS f F i ws sp E t) := by
  refine ⟨fun pins s σ H Q I h => ?_⟩
  obtain ⟨hs, hf, ht⟩ := h
  refine wpAny_Call_Name_kw (thn ((pe_var (pos := p) hN hv hd hcd).run pins s σ H (fun v H1 => v = .ref f ∧ H1 = H) I ⟨.ref f, hs, rfl, rfl⟩) fun u s1 ⟨v, H1, I1, r1, q1⟩ => ?_)
  obtain ⟨ev, eH⟩ := q1
  subst ev
  rw [eH] at I1
  obtain rfl : u = Value.ref f := r1
  refine PySem.W.callWith_F (first := []) (fnAt_of I1 hf) (thn (ha.run pos pins s1 σ H _ I1 ht) fun us s2 ⟨vs, H2, I2, r, h1, h2, q⟩ => ⟨fnAt_of I2 h1, ?_⟩) he hpl
  show wpAny _ _ (call (.ref f) us) _ _ _
  refine wpAny_call (codeAny_mono (Fn.run X.A X.stack s2 H2 us vs ws Q E (hr.mono hk) I2.env0 h1 h2 (C.later nf (fun y c _ => by rw [hxx]; simp) I2) r q) fun r s' hq => ?_)
  cases r with
  | error e => exact hx pins σ H2 s2 e s' I2 hq
  | ok fl =>
    cases fl with
    | ret u => exact I2.after hq
    | next => exact False.elim hq
    | brk => exact False.elim hq
    | cont => exact False.elim hq
end
theorem e_step {w : World} {T : List NTab} {f : Addr} {F : NF} {vr : V} {dr : Dt} {E : DEnv} {Ew : XK} {i i0 n : Nat} {ka : Addr} {ks : List Dt} {A : Ask} {ss : List Sl} {P : Sl → Prop} {ta : TA} (hi : E[i]? = some (some (.dat (.adr f)))) (h0 : E[i0]? = some (some (.ra ka ks))) (h : EvA (VF w T f F vr dr) ta E (· = ss)) (hn : ss.length = n) (ha : A (ss ++ [.dat dr, .rl ks]) P)
    (hm : ∀ s, P s → s.mut = true → s.own = true) : EvP (VF w T f F vr dr) (tCallS f F i [some vr, some (.ref ka)] (spN w n A) Ew ta) E P := fun H0 σ H S Q q => by
  obtain ⟨v, h1, h2, _⟩ := S.sl i _ hi
  have h2 : DT H v (.adr f) := h2
  cases h2
  refine ⟨h1, S.inv.2.1, h H0 σ H S _ fun vs H1 ss' x1 i1 p1 n1 => ?_⟩
  subst p1
  obtain ⟨u, g1, ⟨a, xs, rfl, g2, g3, g4, g5⟩, _⟩ := (S.go x1 i1).sl i0 _ h0
  subst g5
  refine ⟨i1.2.1, i1.2.2.1, [vr, .ref a], ss' ++ [.dat dr, .rl ks], P, by rw [n1.len, hn], rfl, ?_, ha, fun v H' s x i p n => ?_⟩
  · have app : ∀ {vs ws : List V} {ss ts : List Sl}, HAll (V0 w) H1 vs ss → HAll (V0 w) H1 ws ts → HAll (V0 w) H1 (vs ++ ws) (ss ++ ts) := fun a b => by
      induction a with
      | nil => exact b
      | cons h _ ih => exact .cons h ih
    refine app n1.v0 (.cons i1.2.2.2 (.cons ⟨a, xs, rfl, g2, id, g4⟩ .nil))
  · have sm := x.same
    exact q v H' s (x1.trans (.of sm)) ((VF w T f F vr dr).ex _ _ i1 sm) p ((n.of_v0 i1 (hm s p)).later x1)
/-! ### the function's promise from its body -/
theorem startF_eq (N : List Str) (vs us : List V) : startF N vs (us.map some) = L2.start N (vs ++ us) := by
  unfold startF L2.start
  rw [List.map_append, List.append_assoc, List.length_append, List.length_map, Nat.sub_sub]
section
variable {P : Program} {w : World} {K : PySem.W.Frag} {mg : Str → Option Value} {base : Heap} {F : NF} {f : Addr} {N ps fr : List Str} {k : Nat} {A : Ask}
theorem nok_data (S : NScope N ps fr F.scope) (hb : ∀ (doc pm ctv : Value) (us : List Value), us.length = ps.length → bindArgs (F.fd doc pm ctv) ⟨us, []⟩ = pure (ps.zip us)) (hA : Fine A (ps.length + fr.length)) (hN : ps.length + fr.length ≤ N.length)
    (body : ∀ (A' : Around) (outer : List Env) (s : Shared) (H : Hp) (E : XK), Room k (A'.deeper (envF F f s.heap.objs.size)) → ∃ t, PSs (ncx C8.CX0 P w K mg base N F f A' outer s H E).nox F.body t ∧ ∀ ss Pp, A ss Pp → DS (V0 w) t (startE N ss) { nx := fun _ => Pp (.dat .non), rt := Pp }) :
    NOk P w K mg base C8.CX0 (k + 1) f F ps fr (spN w ps.length A) := by
  refine nok_of S hb (fun ws vs H Q E ⟨_, _, _, h, _⟩ => h) fun A' outer s H vs ws Q E hr hf hc hl hsp => ?_
  obtain ⟨t, h1, h2⟩ := body A' outer s H E hr
  obtain ⟨us, ss, Pp, hv, rfl, h3, h4, h5⟩ := hsp
  refine ⟨t, h1.nox, ?_⟩
  rw [startF_eq]
  exact body_of (E := E) hA hN h2 ⟨ss, Pp, h3, trivial, h4, h5⟩
end
/-! ### a def whose promise is told of the very state -/
/-- the def stands under its name, its code object at c -/
def DnC (K : PySem.W.Frag) (mg : Str → Option Value) (x : Str) (st : Stmt) (c : Addr) : Prop := ∃ f, (∃ fd, FunD K x x (defArgs st) (defBody st) (defScope st) [] [] f fd ∧ fd.code = .ref c) ∧ mg x = some (.ref f)
section
variable {P : Program} {w : World} {K : PySem.W.Frag} {mg : Str → Option Value} {base : Heap}
theorem cal_ofC {x : Str} {st : Stmt} {N ps : List Str} {k : Nat} {U : Vol} {A : Ask} {c : Addr} (D : DnC K mg x st c) (S : FnScope N ps (defScope st)) (hb : Bd x st ps) (hA : Fine A ps.length) (hN : ps.length ≤ N.length)
    (body : ∀ (f : Addr) (A' : Around) (outer : List Env) (s : Shared) (H : Hp) (E : XK), Room k (A'.deeper (envOfC x (defScope st) s.heap.objs.size f (.ref c))) →
      ∃ t, PSs (cxOf C8.CX0 P w K mg base N x (defScope st) f (.ref c) A' outer s H E).nox (defBody st) t ∧ ∀ ss Pp, A ss Pp → DS U t (startE N ss) { nx := fun _ => Pp (.dat .non), rt := Pp }) : C8.Cal P w K mg base (k + 1) x (spD U A) [] := by
  obtain ⟨f, ⟨fd, F, hc⟩, gm⟩ := D
  have hB := F.bindsN hb
  have hkp := F.kp
  obtain ⟨oc, od, dV, kV, doc, pm, an, cdv, ct, osl, rfl, lk, hcd, _, _⟩ := F.ex
  have hc : cdv = .ref c := hc
  subst hc
  refine ⟨f, _, ps, [], fn_of lk hcd S (len_of hA) (fun A' outer s H vs Q E hr hsp => ?_), gm, hkp, hB, .nil⟩
  obtain ⟨t, h1, h2⟩ := body f A' outer s H E hr
  exact ⟨t, h1.nox, body_of hA hN h2 hsp⟩
end
section
variable {X : Cx} {x : Str} {st : Stmt} {N ps : List Str} {k : Nat} {t : TA} {TT : Sg → List V → Hp → VK → Prop} {e : Expr} {es : List Expr} {p pos : Pos}
theorem pe_callAt (D : Dn X.K X.mg x st) (Sf : FnScope N ps (defScope st)) (hb : Bd x st ps) (hr : Room (k + 1) X.A) (hg : Gl X x) (hlen : ∀ σ vs H Q, TT σ vs H Q → vs.length = ps.length)
    (body : ∀ (g : Addr) (cdv : Value) (pins : List (Addr × Obj)) (s : Shared) (σ : Sg) (H : Hp) (vs : List V) (Q : VK), Inv X pins σ H s → Room k (X.A.deeper (envOfC x (defScope st) s.heap.objs.size g cdv)) → TT σ vs H Q →
      ∃ t', PSs (cxOf C8.CX0 X.prog X.w X.K X.mg X.base N x (defScope st) g cdv X.A X.stack s H C8.E0).nox (defBody st) t' ∧ t' { nx := fun _ H' => Q .non H', rt := Q } (L2.start N vs) H)
    (ha : PA X (e :: es) t) (hdb : (x == ("__debug__" : Str)) = false := by decide) (he : starEach (e :: es) X.env = (false, eval e X.env) :: starEach es X.env := by rfl) (hpl : (backTo pos (starEach es X.env)).any (·.1) = false := by rfl) :
    PE X (.Call (.Name x p) (e :: es) [] pos) (fun σ H Q => t σ H fun vs H1 => TT σ vs H1 Q) := by
  obtain ⟨f, fd, F, gm⟩ := D
  have hB := F.bindsN hb
  have hkp := F.kp
  obtain ⟨oc, od, dV, kV, doc, pm, an, cdv, ct, osl, rfl, lk, hcd, _, _⟩ := F.ex
  refine ⟨fun pins s σ H Q I h => ?_⟩
  refine wpAny_Call_Name_kw (ld_glob I hg gm ?_ hdb)
  refine PySem.W.callWith_K (h₀ := X.base) I.ok.mod.kin hkp (thn (ha.run pos pins s σ H _ I h) fun us s1 ⟨vs, H1, I1, r, q⟩ => ⟨I1.kIn, ?_⟩) he hpl
  have hl := hlen _ _ _ _ q
  have hbt := hB s1 us I1.kIn (by rw [List.append_nil, ← r.length]; exact hl)
  rw [List.append_nil] at hbt
  have rc : codeAny (model X.prog X.w) X.A (.call (.ref f) ⟨us, []⟩) (CR C8.CX0 X.stack X.prog X.w H1 s1 Q C8.E0) s1 := by
    refine run_ofS (N := N) (ps := ps) (us := us) (vs := vs) lk hcd Sf hr I1.env0 hbt r hl fun hr' => ?_
    obtain ⟨t', ht', hq'⟩ := body f cdv pins s1 σ H1 vs Q I1 hr' q
    exact ⟨t', ht'.nox, hq'⟩
  refine wpAny_call (codeAny_mono rc fun r s2 hq => ?_)
  cases r with
  | error e => exact (show False from hq).elim
  | ok fl =>
    cases fl with
    | ret u => exact I1.after hq
    | next => exact False.elim hq
    | brk => exact False.elim hq
    | cont => exact False.elim hq
/-- the running frame's cells are no frames -/
theorem cells_nofr {pins : List (Addr × Obj)} {s : Shared} {σ : Sg} {H : Hp} (I : Inv X pins σ H s) (hfn : ∀ y, X.fn y = true) {y : Str} {c : Addr} (h : X.env.cells.lookup y = some c) : c ∉ frs X.stack := fun hb => by
  rcases List.mem_cons.mp (I.stkSub c hb) with e | e
  · exact I.cne y c h e
  · obtain ⟨_, o, ho, _⟩ := I.ok.funs.mem e
    exact absurd (Heap.lt_size ho) (Nat.not_lt.mpr (I.ok.cab y c (hfn y) h))
end
end K13
end
section
set_option Elab.async false
set_option linter.all false
set_option maxRecDepth 100000
set_option maxHeartbeats 4000000
set_option autoImplicit false
local macro_rules | `(tactic| walk_at "fg") => `(tactic| (repeat' (first | exact True.intro | exact rfl | constructor)))
namespace K13
open PySem PySem.Spec PyProof.Rows L2 C8 NdefX LamX
/-! ### pairs of a stand and a list -/
def pairD (ev : List Str) (p : Nat × Lots) : Dt := .tup [.int (p.1 : Int), eLots ev p.2]
def rowD (ev : List Str) (r : List Nat) : Dt := .tup (r.map fun k => .str (kd ev k))
def oRow (ev : List Str) (m : Nat) : Option Nat → Dt
  | none => .non
  | some n => rowD ev (rowOf m n)
theorem eLot_inj {ev : List Str} {m : Nat} (h : EvOk ev m) {a b : Lot} (ha : ∀ j ∈ a, j < m) (hb : ∀ j ∈ b, j < m) (e : eLot ev a = eLot ev b) : a = b := by
  unfold eLot at e
  have e := Dt.tup.inj e
  rw [List.map_map, List.map_map] at e
  induction a generalizing b with
  | nil => cases b with | nil => rfl | cons _ _ => cases e
  | cons x a ih =>
    cases b with
    | nil => cases e
    | cons y b =>
      rw [List.map_cons, List.map_cons, List.cons.injEq] at e
      rw [kd_inj h (ha x List.mem_cons_self) (hb y List.mem_cons_self) (Dt.str.inj e.1), ih (fun j hj => ha j (List.mem_cons_of_mem _ hj)) (fun j hj => hb j (List.mem_cons_of_mem _ hj)) (by rw [List.map_map, List.map_map]; exact congrArg Dt.tup e.2)]
      exact e.2
theorem eLots_inj {ev : List Str} {m : Nat} (h : EvOk ev m) {L M : Lots} (hL : ValidL m L) (hM : ValidL m M) (e : eLots ev L = eLots ev M) : L = M := by
  unfold eLots at e
  have e := Dt.tup.inj e
  induction L generalizing M with
  | nil => cases M with | nil => rfl | cons _ _ => cases e
  | cons x L ih =>
    cases M with
    | nil => cases e
    | cons y M =>
      rw [List.map_cons, List.map_cons, List.cons.injEq] at e
      rw [eLot_inj h (hL x List.mem_cons_self).2.2 (hM y List.mem_cons_self).2.2 e.1, ih (fun a ha => hL a (List.mem_cons_of_mem _ ha)) (fun a ha => hM a (List.mem_cons_of_mem _ ha)) (congrArg Dt.tup e.2)]
      exact e.2
theorem pairD_inj {ev : List Str} {m : Nat} (h : EvOk ev m) {p q : Nat × Lots} (hp : ValidL m p.2) (hq : ValidL m q.2) (e : pairD ev p = pairD ev q) : p = q := by
  unfold pairD at e
  have e := Dt.tup.inj e
  rw [List.cons.injEq, List.cons.injEq] at e
  have e1 := Dt.int.inj e.1
  exact Prod.ext (by omega) (eLots_inj h hp hq e.2.1)
theorem key_eLots (ev : List Str) (L : Lots) (n : Nat) : keyB (n + 2) (eLots ev L) = true := by
  unfold eLots keyB
  rw [List.all_map]
  refine List.all_eq_true.mpr fun a _ => ?_
  show keyB (n + 1) (eLot ev a) = true
  unfold eLot keyB
  rw [List.all_map]
  exact List.all_eq_true.mpr fun k _ => by cases n <;> rfl
theorem key_pairD (ev : List Str) (p : Nat × Lots) : keyB 8 (pairD ev p) = true := by
  unfold pairD keyB
  rw [List.all_cons, List.all_cons, key_eLots ev p.2 5]
  rfl
section
variable {P : Program} {w : World} {K : PySem.W.Frag} {mg : Str → Option Value} {base : Heap} {mk : Str} {ev : List Str} {m : Nat}
/-! ### step, the def within part_of_lots -/
def s_step : Stmt := (defBody (topS 45)).getD 1 (.Pass ⟨0, 0, 0, 0⟩)
abbrev stepN : List Str := ["pair", "kind", "rule", "kinds", "flag", "goal", "its", "rest"]
theorem sc_step : NScope stepN ["pair", "kind"] ["rule", "kinds"] (C8.fnScope s_step) := nscope_by (by decide +kernel)
abbrev stepF (q : Str) (cl : List (Str × Addr)) (c : Addr) : NF := NF.of s_step "step" q cl c
def aStep (mk : Str) (ev : List Str) (m : Nat) (CR : Addr) : Ask := fun ss P => ∃ (M : Moves) (s k : Nat) (C : Lots), RuleOk M m ∧ s < M.length ∧ k < m ∧ ValidL m C ∧ C.length ≤ 60 ∧ ss = [.dat (pairD ev (s, C)), .dat (.str (kd ev k)), .dat (ruleD CR mk M), .rl (ev.map .str)] ∧
  P (.dat (.tup [.bl (mvR M s k).1, .bl (hasK C k), pairD ev ((mvR M s k).2, behindL C k)]))
theorem fineStep (mk : Str) (ev : List Str) (m : Nat) (CR : Addr) : Fine (aStep mk ev m CR) 4 := ⟨fun ss P ⟨_, _, _, _, _, _, _, _, _, e, _⟩ => by subst e; exact ⟨rfl, fun s hs => by simp at hs; rcases hs with h | h | h | h <;> subst h <;> rfl⟩⟩
theorem nStep {CR CS : Addr} {q : Str} {cl : List (Str × Addr)} {c f : Addr} (h : MkOk mk ev m) (kc : Kc K CR CS) (M : Mf mg) (c_behind : Cal P w K mg base 5 "behind" (spD (V0 w) (aBehind ev m)) []) : NOk P w K mg base C8.CX0 6 f (stepF q cl c) ["pair", "kind"] ["rule", "kinds"] (spN w 2 (aStep mk ev m CR)) := by
  have sc := sc_step
  refine nok_data sc (fun doc pm ctv us hl => match us, hl with | [_, _], _ => rfl) (fineStep mk ev m CR) (by decide) fun A' outer s H E hr => ⟨_, (pss_cons (ps_asg (pe_ix (show IxR _ (rIxT K) from ix_tup) (pe_ix (show IxR _ (rIxT K) from ix_tup) (show PE _ _ (tFld K _ _) from pe_fld (pv 2) rfl) (pe_ix (show IxR _ (rIxT K) from ix_tup) (pv 0) pe_int (fun _ _ => rfl)) (fun _ _ => rfl)) (show PE _ _ (tBM K _ _ _ _) from pe_bm PySem.F.plainAttrs_list PySem.F.slot_list_index PySem.F.type_list_index mt_index (pv 3) (pa_cons (pv 1) pa_nil)) (fun _ _ => rfl)) (show PG _ _ (gTup K 2 _) from pg_tup rfl (pgs_cons (pg_name (i := 4) sc.nd rfl (by first | exact .inl rfl | exact .inr rfl)) (pgs_cons (pg_name (i := 5) sc.nd rfl (by first | exact .inl rfl | exact .inr rfl)) pgs_nil))))
      (pss_cons (ps_asg (pe_c c_behind hr (by decide) (by rfl) (pa_cons (pe_ix (show IxR _ (rIxT K) from ix_tup) (pv 0) pe_int (fun _ _ => rfl)) (pa_cons (pv 1) pa_nil))) (show PG _ _ (gTup K 2 _) from pg_tup rfl (pgs_cons (pg_name (i := 6) sc.nd rfl (by first | exact .inl rfl | exact .inr rfl)) (pgs_cons (pg_name (i := 7) sc.nd rfl (by first | exact .inl rfl | exact .inr rfl)) pgs_nil))))
      (pss_one (ps_ret (pe_tup (pa_cons (pv 4) (pa_cons (pv 6) (pa_cons (pe_tup (pa_cons (pv 5) (pa_cons (pv 7) pa_nil))) pa_nil)))))))), ?_⟩
  rintro ss Pp ⟨R, s, k, C, hR, hs, hk, hv, hl, rfl, hP⟩
  have hkd : ev[k]? = some (kd ev k) := by unfold kd; rw [List.getD_eq_getElem?_getD, List.getElem?_eq_getElem (by rw [h.evk.len]; exact hk)]; rfl
  have hne : ∀ j < k, ev[j]? ≠ some (kd ev k) := fun j hj e => by
    have hjm : j < ev.length := by rw [h.evk.len]; omega
    have e2 : kd ev j = kd ev k := by unfold kd at e ⊢; rw [List.getD_eq_getElem?_getD, e]; rfl
    have := kd_inj h.evk (by omega) hk e2
    omega
  refine d_seq (d_unp (d := eMv (mvR R s k)) (e_opD (e_opD (e_fld (e_var rfl) kc.r kc.rv rfl) (e_opD (e_var rfl) e_int (rp_ixT (j := 0) rfl)) (rp_ixT (row_get hs))) (e_index (e_rl rfl) (e_var rfl) hkd hne) (rp_ixT (mv_get hR hs hk))) (gd_tup (gds_cons gd_name (gds_cons gd_name gds_nil))) ?_)
  refine d_seq (d_unp (d := .tup [.bl (hasK C k), eLots ev (behindL C k)]) (e_callD (ss := [.dat (eLots ev C), .dat (.str (kd ev k))]) (ea_cons (e_opD (e_var rfl) e_int (rp_ixT (j := 1) rfl)) (ea_cons (e_var rfl) ea_nil)) ⟨C, k, hv, hl, hk, rfl, rfl⟩) (gd_tup (gds_cons gd_name (gds_cons gd_name gds_nil))) ?_)
  exact d_ret (e_tup (ds := [.bl (mvR R s k).1, .bl (hasK C k), pairD ev ((mvR R s k).2, behindL C k)]) (ea_cons (e_var rfl) (ea_cons (e_var rfl) (ea_cons (e_tup (ds := [.int ((mvR R s k).2 : Int), eLots ev (behindL C k)]) (ea_cons (e_var rfl) (ea_cons (e_var rfl) ea_nil))) ea_nil)))) hP
/-! ### parting_row -/
abbrev s_parting_row : Stmt := topS 38
theorem sc_parting_row : FnScope ["kinds", "begin", "step", "pairs", "known", "done", "pair", "row", "kind", "one", "other", "goal"] ["kinds", "begin", "step"] (defScope s_parting_row) := ⟨rfl, rfl, rfl, by decide +kernel, rfl, by decide +kernel, by decide +kernel⟩
theorem bd_parting_row : Bd "parting_row" s_parting_row ["kinds", "begin", "step"] := fun _ _ _ _ _ _ us hl => match us, hl with | [_, _, _], _ => rfl
/-- the places found, each with its row -/
def qD (ev : List Str) (m : Nat) (e : (Nat × Lots) × Nat) : Dt := .tup [pairD ev e.1, rowD ev (rowOf m e.2)]
def knQ (ev : List Str) (qs : List ((Nat × Lots) × Nat)) : List (Dt × V) := qs.map fun e => (pairD ev e.1, .bl true)
theorem knQ_snoc (ev : List Str) (qs : List ((Nat × Lots) × Nat)) (e : (Nat × Lots) × Nat) : knQ ev (qs ++ [e]) = knQ ev qs ++ [(pairD ev e.1, .bl true)] := by unfold knQ; rw [List.map_append]; rfl
theorem row_cat {ev : List Str} {m c k : Nat} (hk : k < m) : rowD ev (rowOf m (c * m + k + 1)) = .tup (((rowOf m c).map fun k => .str (kd ev k)) ++ [.str (kd ev k)]) := by
  rw [row_snoc hk]
  unfold rowD
  rw [List.map_append]
  rfl
structure Deep (m : Nat) {α : Type} (qs : List (α × Nat)) : Prop where
  row : ∀ i e, qs[i]? = some e → (rowOf m e.2).length ≤ i
theorem Deep.one {m : Nat} {α : Type} {a : α} : Deep m [(a, 0)] := ⟨fun i e h => by
  cases i with
  | zero => cases h; rw [row_zero]; exact Nat.le_refl 0
  | succ i => simp at h⟩
theorem Deep.snoc {m : Nat} {α : Type} {qs : List (α × Nat)} {done k : Nat} {e : α × Nat} {a : α} (h : Deep m qs) (he : qs[done]? = some e) (hk : k < m) : Deep m (qs ++ [(a, e.2 * m + k + 1)]) := ⟨fun i x hx => by
  by_cases hi : i < qs.length
  · rw [List.getElem?_append_left hi] at hx
    exact h.row i x hx
  · rw [List.getElem?_append_right (by omega)] at hx
    have e0 : i - qs.length = 0 := by
      cases q : i - qs.length with
      | zero => rfl
      | succ j => rw [q] at hx; simp at hx
    rw [e0] at hx
    cases hx
    show (rowOf m (e.2 * m + k + 1)).length ≤ i
    rw [row_snoc hk, List.length_append, List.length_singleton]
    have h1 := h.row done e he
    have h2 : done < qs.length := (List.getElem?_eq_some_iff.mp he).1
    omega⟩
theorem bne_dec (a b : Bool) : (a != b) = !decide (a = b) := by cases a <;> cases b <;> rfl
theorem parting_runs {CR : Addr} {f ka g : Addr} {F : NF} {vr : V} {T : List NTab} {R : Moves} {L : Lots} {cdv : Value} {A : Around} {outer : List Env} {s : Shared} {H : Hp} (h : MkOk mk ev m) (hm : 0 < m) (M : Mf mg) (hR : RuleOk R m) (hRl : R.length ≤ 60) (hv : ValidL m L) (hl : L.length ≤ 12)
    (Fn : NOk P w K mg base C8.CX0 6 f F ["pair", "kind"] ["rule", "kinds"] (spN w 2 (aStep mk ev m CR))) (C : CellsAt F.cl ["rule", "kinds"] [some vr, some (.ref ka)] s.heap H) (nf : ∀ y c, F.cl.lookup y = some c → c ∉ frs outer) (hr : Room 6 (A.deeper (envOfC "parting_row" (defScope s_parting_row) s.heap.objs.size g cdv))) :
    ∃ t, PSs (cxOf C8.CX0 P w K mg base ["kinds", "begin", "step", "pairs", "known", "done", "pair", "row", "kind", "one", "other", "goal"] "parting_row" (defScope s_parting_row) g cdv A outer s H C8.E0).nox (defBody s_parting_row) t ∧
      ∀ Pp : Sl → Prop, (∀ r, (partL R L).first m r → Pp (.dat (oRow ev m r))) → DS (VF w T f F vr (ruleD CR mk R)) t (startE ["kinds", "begin", "step", "pairs", "known", "done", "pair", "row", "kind", "one", "other", "goal"] [.ra ka (ev.map .str), .dat (pairD ev (0, leastOf L)), .dat (.adr f)]) { nx := fun _ => Pp (.dat .non), rt := Pp } := by
  have sc := sc_parting_row
  refine ⟨_, (pss_cons (ps_set (i := 3) sc.nd rfl (by first | exact .inl rfl | exact .inr rfl) (pe_lst (pa_cons (pe_tup (pa_cons (pv 1) (pa_cons (pe_tup pa_nil) pa_nil))) pa_nil)))
      (pss_cons (ps_set (i := 4) sc.nd rfl (by first | exact .inl rfl | exact .inr rfl) (show PE _ _ (tNOne w _ _) from pe_none_ hr.units (pv 1) pe_bl))
      (pss_cons (ps_set (i := 5) sc.nd rfl (by first | exact .inl rfl | exact .inr rfl) pe_int)
      (pss_cons (ps_while PassesOwn.never (pt_cmpR op_lt (pv 5) (pe_callB (show CallR _ _ (rLen K) from call_len_seq) (by rfl) M.len_ PySem.boot_len (pa_cons (pv 3) pa_nil)) (nomark _)) (pss_cons (ps_asg (pe_ix (show IxR _ (rIxL K) from ix_list) (pv 3) (pv 5) (fun _ _ => rfl)) (show PG _ _ (gTup K 2 _) from pg_tup rfl (pgs_cons (pg_name (i := 6) sc.nd rfl (by first | exact .inl rfl | exact .inr rfl)) (pgs_cons (pg_name (i := 7) sc.nd rfl (by first | exact .inl rfl | exact .inr rfl)) pgs_nil))))
      (pss_cons (ps_for PassesOwn.never rfl (show PI _ _ _ (iList K _) from pi_list (pv 0)) (pg_name (i := 8) sc.nd rfl (by first | exact .inl rfl | exact .inr rfl)) (pss_cons (ps_asg (pe_callS (i := 2) (E := C8.E0) Fn C nf rfl hr (by decide) C8.pass0 rfl (.inl rfl) (pa_cons (pv 6) (pa_cons (pv 8) pa_nil))) (show PG _ _ (gTup K 3 _) from pg_tup rfl (pgs_cons (pg_name (i := 9) sc.nd rfl (by first | exact .inl rfl | exact .inr rfl)) (pgs_cons (pg_name (i := 10) sc.nd rfl (by first | exact .inl rfl | exact .inr rfl)) (pgs_cons (pg_name (i := 11) sc.nd rfl (by first | exact .inl rfl | exact .inr rfl)) pgs_nil)))))
      (pss_cons (ps_if (pt_cmpR op_ne (pv 9) (pv 10) (nomark _)) (pss_one (ps_ret (pe_op (show OpR _ _ (rCatA K) from op_catA) (pv 7) (pe_tup (pa_cons (pv 8) pa_nil))))) pss_nil)
      (pss_one (ps_if (pt_cmpR (show OpR _ _ (rNIn w true) from (op_notInN hr.units)) (pv 11) (pv 4) (by rfl)) (pss_cons (show PS _ _ (sNPut w _ _ _) from ps_nput hr.units (pv 4) (pv 11) pe_bl rfl)
      (pss_one (ps_expr (show PE _ _ (tBM K _ _ _ _) from pe_bm PySem.F.plainAttrs_list PySem.F.slot_list_append PySem.F.type_list_append mt_append (pv 3) (pa_cons (pe_tup (pa_cons (pv 11) (pa_cons (pe_op (show OpR _ _ (rCatA K) from op_catA) (pv 7) (pe_tup (pa_cons (pv 8) pa_nil))) pa_nil))) pa_nil))))) pss_nil)))))
      (pss_one (ps_aug (i := 5) sc.nd rfl (by first | exact .inl rfl | exact .inr rfl) pe_int ip_add)))))
      (pss_one (ps_ret pe_non)))))), ?_⟩
  intro Pp hP
  have hF := hv.full
  obtain ⟨tt, htl, hin⟩ := partL_small (L := L) hR hm hF
  have hpow : 2 ^ L.length ≤ 2 ^ 12 := Nat.pow_le_pow_right (by decide) hl
  have hsz : R.length * 2 ^ L.length ≤ 60 * 2 ^ 12 := Nat.mul_le_mul hRl hpow
  have lt : ∀ qs : List ((Nat × Lots) × Nat), (qs.map (·.1)).Nodup → (∀ e ∈ qs, e.1 = (partL R L).st m e.2) → qs.length ≤ 245760 := fun qs h1 h2 => by
    have q := nodup_le _ tt h1 fun x hx => by
      obtain ⟨e, he, rfl⟩ := List.mem_map.mp hx
      rw [h2 e he]
      exact hin _
    rw [List.length_map, htl] at q
    omega
  have val : ∀ n, ((partL R L).st m n).1 < R.length ∧ ValidL m ((partL R L).st m n).2 ∧ ((partL R L).st m n).2.length ≤ 60 := fun n => by
    obtain ⟨a, S, hS, e⟩ := partL_in (L := L) hR hm hF n
    have hSv := hv.sub hS
    have hSl := hS.length_le
    rw [e]
    exact ⟨a, hSv.least, by rw [least_len]; omega⟩
  have hmem : ∀ (qs : List ((Nat × Lots) × Nat)) (n : Nat), (∀ e ∈ qs, e.1 = (partL R L).st m e.2) → (decide ((partL R L).st m n ∈ qs.map (·.1)) = true ↔ pairD ev ((partL R L).st m n) ∈ (knQ ev qs).map (·.1)) := fun qs n hs => by
    rw [decide_eq_true_eq]
    unfold knQ
    rw [List.map_map]
    constructor
    · intro hx
      obtain ⟨e, he, e2⟩ := List.mem_map.mp hx
      exact List.mem_map.mpr ⟨e, he, by show pairD ev e.1 = _; rw [e2]⟩
    · intro hx
      obtain ⟨e, he, e2⟩ := List.mem_map.mp hx
      have e2 : pairD ev e.1 = pairD ev ((partL R L).st m n) := e2
      refine List.mem_map.mpr ⟨e, he, pairD_inj h.evk ?_ (val n).2.1 e2⟩
      rw [hs e he]
      exact (val _).2.1
  refine d_seq (d_asgN (ds := [((0, leastOf L), 0)].map (qD ev m)) (e_lst (ds := [qD ev m ((0, leastOf L), 0)]) (ea_cons (e_tup (ds := [pairD ev (0, leastOf L), rowD ev (rowOf m 0)]) (ea_cons (e_var rfl) (ea_cons (by rw [row_zero]; exact e_tup (ds := []) ea_nil) ea_nil))) ea_nil)) ?_)
  refine d_seq (d_asgP (P := (· = .on (knQ ev [((0, leastOf L), 0)]))) (e_oneN (v := .bl true) (ds := [.int ((0 : Nat) : Int), eLots ev (leastOf L)]) (e_var rfl) e_bl (key_pairD ev (0, leastOf L)) bl_val) own_on ?_)
  rintro _ rfl
  refine d_seq (d_asg e_int ?_)
  refine d_seq (d_whileS (α := List ((Nat × Lots) × Nat) × Nat) (fun n x => n = 250000 - x.2 ∧ (x.1.map (·.1)).Nodup ∧ (∀ e ∈ x.1, e.1 = (partL R L).st m e.2) ∧ x.2 ≤ x.1.length ∧ BqH (partL R L) m x.1 x.2 ∧ Deep m x.1)
    (fun x => [some (.ra ka (ev.map .str)), some (.dat (pairD ev (0, leastOf L))), some (.dat (.adr f)), some (.ol (x.1.map (qD ev m))), some (.on (knQ ev x.1)), some (.dat (.int (x.2 : Int))), none, none, none, none, none, none]) 250000 ([((0, leastOf L), 0)], 0)
    ⟨⟨rfl, by simp, fun e he => by rw [List.mem_singleton.mp he, st_zero]; rfl, Nat.zero_le _, BqH.start, .one⟩, by walk_at "fg"⟩ (fun n x hx => ⟨decide ((x.2 : Int) < (x.1.length : Int)), b_test (e_opD (e_var rfl) (e_cb1 (e_ol rfl) (rc_lenLn (List.length_map _))) rp_lt), fun hb => ?_, fun hb => ?_⟩))
  · obtain ⟨qs, done⟩ := x
    obtain ⟨rfl, hnd, hst, hle, hq, hdp⟩ := hx
    have hd : done < qs.length := by have z : (done : Int) < (qs.length : Int) := of_decide_eq_true hb; omega
    have hle := lt qs hnd hst
    have hnd : (qs.map (·.1)).Nodup := hnd
    have hst : ∀ e ∈ qs, e.1 = (partL R L).st m e.2 := hst
    have hdp : Deep m qs := hdp
    obtain ⟨e, hp, hB⟩ : ∃ e, qs[done]? = some e ∧ Bq (partL R L) m qs (e.2 * m + 1) := by
      rcases hq with q | q
      · exact q
      · exact absurd q.1 (by show ¬ done = qs.length; omega)
    have hes := hst e (List.mem_of_getElem? hp)
    obtain ⟨v1, v2, v3⟩ := val e.2
    rw [← hes] at v1 v2 v3
    have hrow := hdp.row done e hp
    have hg : (qs.map (qD ev m))[done]? = some (qD ev m e) := by rw [List.getElem?_map, hp]; rfl
    refine d_seq (d_unp (d := qD ev m e) (e_opD (e_ol rfl) (e_var rfl) (rp_ixL hg)) (gd_tup (gds_cons gd_name (gds_cons gd_name gds_nil))) ?_)
    refine d_seq (d_forS (α := List ((Nat × Lots) × Nat)) (fun k gs => Bq (partL R L) m gs (e.2 * m + k + 1) ∧ gs[done]? = some e ∧ Deep m gs)
      (fun _ gs => [some (.ra ka (ev.map .str)), some (.dat (pairD ev (0, leastOf L))), some (.dat (.adr f)), some (.ol (gs.map (qD ev m))), some (.on (knQ ev gs)), some (.dat (.int (done : Int))), some (.dat (pairD ev e.1)), some (.dat (rowD ev (rowOf m e.2))), none, none, none, none])
      (i_list (l_ra rfl)) qs ⟨⟨hB, hp, hdp⟩, by walk_at "fg"⟩ (fun k d gs hd hx => ?_) fun gs hx => ?_)
    · obtain ⟨hG, hgp, hgd⟩ := hx
      have hkm : k < m := by have z := (List.getElem?_eq_some_iff.mp hd).1; rw [List.length_map, h.evk.len] at z; exact z
      obtain rfl : d = .str (kd ev k) := by
        rw [List.getElem?_map, List.getElem?_eq_getElem (by rw [h.evk.len]; exact hkm)] at hd
        unfold kd
        rw [List.getD_eq_getElem?_getD, List.getElem?_eq_getElem (by rw [h.evk.len]; exact hkm)]
        exact (Option.some.inj hd).symm
      have hst' : (partL R L).st m (e.2 * m + k + 1) = (partL R L).nxt e.1 k := by rw [st_snoc hkm, hes]
      have hpt : (partL R L).pt m (e.2 * m + k + 1) = ((mvR R e.1.1 k).1 != hasK e.1.2 k) := by rw [pt_snoc hkm, ← hes]; rfl
      have hdone : done < gs.length := (List.getElem?_eq_some_iff.mp hgp).1
      have hgl := lt gs hG.nd hG.st
      have hcat : ∀ {E : DEnv}, E[7]? = some (some (.dat (rowD ev (rowOf m e.2)))) → E[8]? = some (some (.dat (.str (kd ev k)))) → EvD (VF w T f F vr (ruleD CR mk R)) (tOp (rCatA K) (tVar 7) (tTup (tCons (tVar 8) tNil))) E (rowD ev (rowOf m (e.2 * m + k + 1))) := fun h1 h2 => by
        rw [row_cat hkm]
        exact e_opD (e_var h1) (e_tup (ds := [.str (kd ev k)]) (ea_cons (e_var h2) ea_nil)) (rp_catT (by rw [List.length_map]; show (rowOf m e.2).length + 1 ≤ 1000000; omega))
      refine ⟨_, _, gd_name, d_seq (d_unp (d := .tup [.bl (mvR R e.1.1 k).1, .bl (hasK e.1.2 k), pairD ev ((partL R L).nxt e.1 k)]) (e_step (i0 := 0) (hi := rfl) (h0 := rfl) (h := ea_cons (e_var rfl) (ea_cons (e_var rfl) ea_nil)) (hn := rfl) (ha := ⟨R, e.1.1, k, e.1.2, hR, v1, hkm, v2, v3, rfl, rfl⟩) (hm := own_dat)) (gd_tup (gds_cons gd_name (gds_cons gd_name (gds_cons gd_name gds_nil)))) ?_)⟩
      refine d_seq (d_ifD (b := !decide ((mvR R e.1.1 k).1 = hasK e.1.2 k)) (b_test (e_opD (e_var rfl) (e_var rfl) rp_neB)) (fun hb => ?_) fun hb => d_next ?_)
      · have hb : (partL R L).pt m (e.2 * m + k + 1) = true := by
          rw [hpt, bne_dec]
          exact hb
        exact d_ret (hcat rfl rfl) (hP (some (e.2 * m + k + 1)) ⟨hb, hG.no⟩)
      have hb : (partL R L).pt m (e.2 * m + k + 1) = false := by
        rw [hpt, bne_dec]
        exact hb
      refine d_ifD (b := !decide ((partL R L).st m (e.2 * m + k + 1) ∈ gs.map (·.1))) (b_test (e_notInN (ds := [.int (((partL R L).nxt e.1 k).1 : Int), eLots ev ((partL R L).nxt e.1 k).2]) rfl (e_var rfl) (key_pairD ev _) ?_)) (fun hb2 => ?_) fun hb2 => d_next ⟨gs, ⟨hG.old hb (by simpa using hb2), hgp, hgd⟩, by walk_at "fg"⟩
      · have q := hmem gs (e.2 * m + k + 1) hG.st
        rw [hst'] at q ⊢
        exact q
      have hn : (partL R L).st m (e.2 * m + k + 1) ∉ gs.map (·.1) := by simpa using hb2
      refine d_seq (d_putN (v := .bl true) (ds := [.int (((partL R L).nxt e.1 k).1 : Int), eLots ev ((partL R L).nxt e.1 k).2]) rfl e_bl (e_var rfl) (key_pairD ev _) (fun z => hn (of_decide_eq_true ((hmem gs (e.2 * m + k + 1) hG.st).mpr (by rw [hst']; exact z)))) bl_val (by unfold knQ; rw [List.length_map]; omega) ?_)
      refine d_app (d := qD ev m ((partL R L).nxt e.1 k, e.2 * m + k + 1)) rfl (e_tup (ds := [pairD ev ((partL R L).nxt e.1 k), rowD ev (rowOf m (e.2 * m + k + 1))]) (ea_cons (e_var rfl) (ea_cons (hcat rfl rfl) ea_nil))) (by rw [List.length_map]; omega) ⟨gs ++ [((partL R L).nxt e.1 k, e.2 * m + k + 1)], ⟨?_, get_app hgp, hgd.snoc hgp hkm⟩, ?_⟩
      · have q := hG.new hb hn
        rw [hst'] at q
        exact q
      · show Fg _ _
        rw [List.map_append, knQ_snoc]
        walk_at "fg"
    · obtain ⟨hG, hgp, hgd⟩ := hx
      rw [List.length_map, h.evk.len] at hG
      have hl2 : done < gs.length := (List.getElem?_eq_some_iff.mp hgp).1
      refine d_aug (f := fun i j => i + j) (a := (done : Int)) (b := 1) rfl e_int ⟨250000 - (done + 1), (gs, done + 1), by show 250000 - (done + 1) < 250000 - done; omega, ⟨rfl, hG.nd, hG.st, hl2, hG.turn hm hgp, hgd⟩, ?_⟩
      show Fg _ _
      rw [show ((done + 1 : Nat) : Int) = (done : Int) + 1 by omega]
      walk_at "fg"
  · obtain ⟨qs, done⟩ := x
    obtain ⟨rfl, hnd, hst, hle, hq, hdp⟩ := hx
    have hd : ¬ done < qs.length := by have z : ¬ (done : Int) < (qs.length : Int) := of_decide_eq_false hb; omega
    rcases hq with ⟨e, hp, _⟩ | q
    · exact absurd (List.getElem?_eq_some_iff.mp hp).1 hd
    · exact d_ret e_non (hP none q.2)
/-! ### part_of_lots -/
abbrev s_part_of_lots : Stmt := topS 45
theorem sc_part_of_lots : FnScope ["rule", "lots", "kinds", "step"] ["rule", "lots"] (defScope s_part_of_lots) := ⟨rfl, rfl, rfl, by decide +kernel, rfl, by decide +kernel, by decide +kernel⟩
theorem bd_part_of_lots : Bd "part_of_lots" s_part_of_lots ["rule", "lots"] := fun _ _ _ _ _ _ us hl => match us, hl with | [_, _], _ => rfl
theorem nd_step : ndefB (defScope s_part_of_lots) (C8.fnScope s_step) ["rule", "kinds"] = true := by decide +kernel
/-- the table of part_of_lots, the name that it tells -/
def TQ (Pt : Addr) : List NTab := [(Pt, fun _ _ => "part_of_lots.<locals>.step")]
def aPart (mk : Str) (ev : List Str) (m : Nat) (CR : Addr) : Ask := fun ss P => ∃ (M : Moves) (L : Lots), RuleOk M m ∧ M.length ≤ 60 ∧ ValidL m L ∧ L.length ≤ 12 ∧ ss = [.dat (ruleD CR mk M), .dat (eLots ev L)] ∧ ∀ r, (partL M L).first m r → P (.dat (oRow ev m r))
def aPart3 (ev : List Str) (m : Nat) (M : Moves) (L : Lots) (ka f : Addr) : Ask := fun ss P => ss = [.ra ka (ev.map .str), .dat (pairD ev (0, leastOf L)), .dat (.adr f)] ∧ ∀ r, (partL M L).first m r → P (.dat (oRow ev m r))
theorem finePart3 (ev : List Str) (m : Nat) (M : Moves) (L : Lots) (ka f : Addr) : Fine (aPart3 ev m M L ka f) 3 := ⟨fun ss P ⟨e, _⟩ => by subst e; exact ⟨rfl, fun s hs => by simp at hs; rcases hs with h | h | h <;> subst h <;> rfl⟩⟩
def partMk (s : Shared) (f c : Addr) : Addr → NF := NF.of s_step "step" ((envOfC "part_of_lots" (defScope s_part_of_lots) s.heap.objs.size f (.ref c)).qual ++ "step") (cloFrom (envOfC "part_of_lots" (defScope s_part_of_lots) s.heap.objs.size f (.ref c)).cells (C8.fnScope s_step).names [])
/-- what the call of parting_row is told -/
def TTpart (w : World) (T : List NTab) (mk : Str) (ev : List Str) (m : Nat) (CR : Addr) (mkF : Addr → NF) : Sg → List V → Hp → VK → Prop := fun σ vs H Q => ∃ (M : Moves) (L : Lots) (vr : V) (ka f c' : Addr), RuleOk M m ∧ M.length ≤ 60 ∧ ValidL m L ∧ L.length ≤ 12 ∧ σ[0]? = some (some vr) ∧ σ[2]? = some (some (V.ref ka)) ∧
  (VF w T f (mkF c') vr (ruleD CR mk M)).inv H ∧ HAll (VF w T f (mkF c') vr (ruleD CR mk M)) H vs [.ra ka (ev.map .str), .dat (pairD ev (0, leastOf L)), .dat (.adr f)] ∧ Post (VF w T f (mkF c') vr (ruleD CR mk M)) H (fun s => ∃ r, (partL M L).first m r ∧ s = .dat (oRow ev m r)) Q
theorem cPart {CR CS c Pt : Addr} (h : MkOk mk ev m) (hm : 0 < m) (kc : Kc K CR CS) (M : Mf mg) (TB : TabB base mg c Pt) (c_all_kinds : Cal P w K mg base 1 "all_kinds" (spD (V0 w) (a_all_kinds mk ev)) []) (c_least_of : Cal P w K mg base 4 "least_of" (spD (V0 w) (aLeast ev m)) []) (c_behind : Cal P w K mg base 5 "behind" (spD (V0 w) (aBehind ev m)) [])
    (Dp : Dn K mg "parting_row" s_parting_row) (D : DnC K mg "part_of_lots" s_part_of_lots c) : Cal P w K mg base 8 "part_of_lots" (spD (VT w (TQ Pt)) (aPart mk ev m CR)) [] := by
  have sc := sc_part_of_lots
  refine cal_ofC D sc bd_part_of_lots (fine1 fun ss P ⟨_, _, _, _, _, _, e, _⟩ => ⟨[_, _], e, rfl⟩) (by decide) fun f A' outer s H E hr => ⟨_, (pss_cons (ps_set (i := 2) sc.nd rfl (by first | exact .inl rfl | exact .inr rfl) (pe_c c_all_kinds hr (by decide) (by rfl) (pa_cons (show PE _ _ (tFld K _ _) from pe_fld (pv 0) rfl) pa_nil)))
      (pss_cons (show PS _ _ (tNdefM (TQ Pt) 3 (partMk s f c)) from ps_ndefMS (st := s_step) (T := TQ Pt) (nm := fun _ _ => "part_of_lots.<locals>.step") (i := 3) rfl TB rfl List.mem_cons_self (by rfl) (fun p hp _ => by rw [List.mem_singleton.mp hp]) (ndef_free nd_step) rfl rfl rfl sc.nd rfl (by first | exact .inl rfl | exact .inr rfl) (.inl rfl))
      (pss_one (ps_ret (pe_callAt (TT := TTpart w (TQ Pt) mk ev m CR (partMk s f c)) Dp sc_parting_row bd_parting_row hr (by rfl) (fun σ vs H Q z => ?_) (fun g cdv pins sq σ Hq vs Q I hr2 z => ?_) (pa_cons (pv 2) (pa_cons (pe_tup (pa_cons pe_int (pa_cons (pe_c c_least_of hr (by decide) (by rfl) (pa_cons (pv 1) pa_nil)) pa_nil))) (pa_cons (pv 3) pa_nil)))))))), ?_⟩
  · obtain ⟨_, _, _, _, _, _, _, _, _, _, _, _, _, hall, _⟩ := z
    exact hall.len
  · obtain ⟨R, L, vr, ka, fa, c', hR, hRl, hv, hl, s0, s2, iv, hall, post⟩ := z
    have cm := cells_of I (Caps.made (fr := ["rule", "kinds"]) (js := [0, 2]) (scope := C8.fnScope s_step) I.ok (ndef_free nd_step) (ndef_fr nd_step) rfl)
    have e : [0, 2].map (slotAt σ) = [some vr, some (V.ref ka)] := by
      show [slotAt σ 0, slotAt σ 2] = _
      rw [slotAt_of s0, slotAt_of s2]
    rw [e] at cm
    have hfree : ∀ y ∈ (C8.fnScope s_step).names, y.2 = .free → ∃ c, (envOfC "part_of_lots" (defScope s_part_of_lots) s.heap.objs.size f (.ref c)).cells.lookup y.1 = some c := fun y hy e => (ndef_free nd_step y hy e).elim (fun z => I.ok.has _ (.inl z)) fun z => I.ok.has _ (.inr z)
    obtain ⟨t', ht, hd⟩ := parting_runs (P := P) (w := w) (K := K) (mg := mg) (base := base) (T := TQ Pt) (cdv := cdv) (g := g) (f := fa) (F := partMk s f c c') h hm M hR hRl hv hl (nStep h kc M c_behind) cm (fun y c h' => cells_nofr I (fun _ => rfl) (clo_cm hfree h')) hr2
    refine ⟨t', ht, body_of (E := C8.E0) (finePart3 ev m R L ka fa) (by decide) (fun ss Pp ⟨e, hP⟩ => by subst e; exact hd Pp hP) ⟨_, _, hall, iv, ⟨rfl, fun r hr => ⟨r, hr, rfl⟩⟩, post⟩⟩
  · rintro ss Pp ⟨R, L, hR, hRl, hv, hl, rfl, hP⟩
    refine d_seq (d_asgN (e_callN (ss := [.dat (.str mk)]) (ea_cons (e_fld (e_var rfl) kc.r kc.rm rfl) ea_nil) ⟨rfl, rfl⟩) ?_)
    intro D H0 σ H1 S Fit
    refine ⟨S.inv, fun fa c' H2 eN nn T1 f0 f1 c1 => ?_⟩
    have x1 : Xt (VT w (TQ Pt)) H1 H2 := ⟨fun a o e nb => eN a o e fun ps z => nb (.inl ⟨ps, z⟩), fun a e z => e (nn a z)⟩
    have S1 := S.go x1 T1
    obtain ⟨vr, r1, r2, _⟩ := S1.sl 0 _ rfl
    obtain ⟨vl, l1, l2, _⟩ := S1.sl 1 _ rfl
    obtain ⟨vk, k1, ⟨ka, xs, rfl, k2, k3, k4⟩, _⟩ := S1.sl 2 (.ol (ev.map .str)) rfl
    have iv : (VF w (TQ Pt) fa (partMk s f c c') vr (ruleD CR mk R)).inv H2 := ⟨T1, f1, c1, r2⟩
    have nka : ¬ (VF w (TQ Pt) fa (partMk s f c c') vr (ruleD CR mk R)).bad ka (.lst xs) := fun b => by
      rcases b with b | ⟨b | b, _⟩
      · exact k3 b
      · rw [b, f1] at k2; cases k2
      · rw [b] at k2
        rw [show H2 (partMk s f c c').c = _ from c1] at k2
        cases k2
    have hlen : σ.length = 4 := S.len.symm
    have S2 : SD (VF w (TQ Pt) fa (partMk s f c c') vr (ruleD CR mk R)) H2 [some (.dat (ruleD CR mk R)), some (.dat (eLots ev L)), some (.ra ka (ev.map .str)), some (.dat (.adr fa))] (σ.set 3 (some (.ref fa))) H2 := by
      refine ⟨by rw [List.length_set, hlen]; rfl, .refl, iv, fun i t e => ?_, fun i j t u v ne e1 e2 o => ?_⟩
      · match i, e with
        | 0, e => cases e; exact ⟨vr, by rw [List.getElem?_set_ne (by decide)]; exact r1, .dat r2⟩
        | 1, e => cases e; exact ⟨vl, by rw [List.getElem?_set_ne (by decide)]; exact l1, .dat l2⟩
        | 2, e => cases e; exact ⟨.ref ka, by rw [List.getElem?_set_ne (by decide)]; exact k1, ⟨ka, xs, rfl, k2, nka, k4, rfl⟩, fun z => by cases z⟩
        | 3, e => cases e; exact ⟨.ref fa, by rw [List.getElem?_set_self (by rw [hlen]; decide)], .dat (.adr fa)⟩
        | i + 4, e => simp at e
      · match i, e1 with
        | 0, e => cases e; cases o
        | 1, e => cases e; cases o
        | 2, e => cases e; cases o
        | 3, e => cases e; cases o
        | i + 4, e => simp at e
    have args : EvA (VF w (TQ Pt) fa (partMk s f c c') vr (ruleD CR mk R)) (tCons (tVar 2) (tCons (tTup (tCons (tC (V.int 0)) (tCons (tCall (spD (V0 w) (aLeast ev m)) [] C8.E0 (tCons (tVar 1) tNil)) tNil))) (tCons (tVar 3) tNil))) [some (.dat (ruleD CR mk R)), some (.dat (eLots ev L)), some (.ra ka (ev.map .str)), some (.dat (.adr fa))] (· = [.ra ka (ev.map .str), .dat (pairD ev (0, leastOf L)), .dat (.adr fa)]) := (ea_cons (s := .ra ka (ev.map .str)) (ss := [.dat (pairD ev (0, leastOf L)), .dat (.adr fa)]) (e_raa rfl) (ea_cons (s := .dat (pairD ev (0, leastOf L))) (ss := [.dat (.adr fa)]) (e_tup (ds := [.int 0, eLots ev (leastOf L)]) (ea_cons e_int (ea_cons (s := .dat (eLots ev (leastOf L))) (ss := []) (e_callD (ss := [.dat (eLots ev L)]) (ea_cons (e_var rfl) ea_nil) ⟨L, hv, by omega, rfl, rfl⟩) ea_nil))) (ea_cons (e_adr (a := fa) rfl) ea_nil)))
    show tCons (tVar 2) (tCons (tTup (tCons (tC (V.int 0)) (tCons (tCall (spD (V0 w) (aLeast ev m)) [] C8.E0 (tCons (tVar 1) tNil)) tNil))) (tCons (tVar 3) tNil)) (List.set σ 3 (some (V.ref fa))) H2 (fun vs H1 => TTpart w (TQ Pt) mk ev m CR (partMk s f c) (List.set σ 3 (some (V.ref fa))) vs H1 D.rt)
    refine args H2 _ H2 S2 _ fun vs H3 ss3 x3 i3 p3 n3 => ?_
    subst p3
    refine ⟨R, L, vr, ka, fa, c', hR, hRl, hv, hl, by rw [List.getElem?_set_ne (by decide)]; exact r1, by rw [List.getElem?_set_ne (by decide)]; exact k1, i3, n3, fun v H4 s4 x4 i4 p4 n4 => ?_⟩
    obtain ⟨r, hr, rfl⟩ := p4
    exact Fit.rt v H4 _ (hP r hr) ((S.xt.trans x1).trans (vf_out iv (x3.trans x4) i4)) i4.1 (.dat n4.1)
end
end K13
end
section
set_option Elab.async false
set_option linter.all false
set_option maxRecDepth 100000
set_option maxHeartbeats 4000000
set_option autoImplicit false
/-! numbers of what was found, as a dict -/
namespace K13
open PySem PySem.Spec PyProof.Rows L2
section
variable {β : Type} (enc : β → Dt)
def numD (ls : List β) : List (Dt × V) := ls.zipIdx.map fun p => (enc p.1, V.int (p.2 : Int))
variable {enc} {ls : List β} {x : β}
theorem numD_keys : (numD enc ls).map (·.1) = ls.map enc := by
  unfold numD
  rw [List.map_map]
  have e : ((fun p : Dt × V => p.1) ∘ fun p : β × Nat => (enc p.1, V.int (p.2 : Int))) = enc ∘ Prod.fst := rfl
  rw [e, ← List.map_map, List.zipIdx_map_fst]
theorem numD_snoc : numD enc (ls ++ [x]) = numD enc ls ++ [(enc x, V.int (ls.length : Int))] := by
  unfold numD
  rw [List.zipIdx_append, List.map_append]
  simp
theorem numD_len : (numD enc ls).length = ls.length := by
  unfold numD
  rw [List.length_map, List.length_zipIdx]
theorem numD_at {j : Nat} (h : ls[j]? = some x) : (enc x, V.int (j : Int)) ∈ numD enc ls := by
  unfold numD
  refine List.mem_map.mpr ⟨(x, j), ?_, rfl⟩
  refine List.mem_iff_getElem?.mpr ⟨j, ?_⟩
  rw [List.getElem?_zipIdx, h]
  simp
theorem numD_mem (inj : ∀ l ∈ ls, enc l = enc x → l = x) : enc x ∈ (numD enc ls).map (·.1) ↔ x ∈ ls := by
  rw [numD_keys, List.mem_map]
  constructor
  · rintro ⟨l, hl, e⟩
    rw [← inj l hl e]
    exact hl
  · intro h
    exact ⟨x, h, rfl⟩
end
theorem int_val {n : Int} : ∀ H y, DT H y (.int n) → y = .int n := fun _ _ h => h.int_inv
theorem numD_get {β : Type} {ls : List β} {x : β} (h : x ∈ ls) : ∃ j : Nat, ls[j]? = some x := List.mem_iff_getElem?.mp h
end K13
end
section
set_option Elab.async false
set_option linter.all false
set_option maxRecDepth 100000
set_option maxHeartbeats 4000000
set_option autoImplicit false
local macro_rules | `(tactic| walk_at "fg") => `(tactic| (repeat' (first | exact True.intro | exact rfl | constructor)))
namespace K13
open PySem PySem.Spec PyProof.Rows L2 C8 NdefX LamX
section
variable {P : Program} {w : World} {K : PySem.W.Frag} {mg : Str → Option Value} {base : Heap} {mk : Str} {ev : List Str} {m : Nat}
theorem val40 {mk : Str} {ev : List Str} {m : Nat} (h : MkLaw mk ev m) {L : Lots} (hv : ValidL m L) (hl : L.length ≤ 40) : aSeats mk ev m [.dat (.str mk), .dat (eLots ev L)] (seatsF ev mk L) := ⟨mk, L, h.marks, hv, hl, .inr rfl, rfl, rfl⟩
/-! ### form -/
abbrev s_form : Stmt := topS 28
theorem sc_form : FnScope ["seats"] ["seats"] (defScope s_form) := ⟨rfl, rfl, rfl, by decide +kernel, rfl, by decide +kernel, by decide +kernel⟩
theorem bd_form : Bd "form" s_form ["seats"] := fun _ _ _ _ _ _ us hl => match us, hl with | [_], _ => rfl
def aForm (mk : Str) (ev : List Str) (m : Nat) (CS : Addr) : Ask := fun ss P => ∃ L, ValidL m L ∧ L.length ≤ 40 ∧ ss = [.dat (seatsD CS ev mk L)] ∧ P (.dat (seatsD CS ev mk (leastOf L)))
theorem cForm {CR CS : Addr} (h : MkLaw mk ev m) (kc : Kc K CR CS) (M : Mf mg) (c_least_of : Cal P w K mg base 4 "least_of" (spD (V0 w) (aLeast ev m)) []) (k_Seats : Mak P w K mg base 5 "Seats" CS (spInit w CS (aSeats mk ev m)) []) (D : Dn K mg "form" s_form) : Cal P w K mg base 7 "form" (spD (V0 w) (aForm mk ev m CS)) [] := by
  have sc := sc_form
  refine cal_of D sc bd_form (fine1 fun ss P ⟨_, _, _, e, _⟩ => ⟨[_], e, rfl⟩) (by decide) fun f cdv A' outer s H E hr => ⟨_, (pss_one (ps_ret (show PE _ _ (tMake _ _ _ _ _) from pe_mk k_Seats hr (by decide) (by rfl) (pa_cons (show PE _ _ (tFld K _ _) from pe_fld (pv 0) rfl) (pa_cons (pe_c c_least_of hr (by decide) (by rfl) (pa_cons (show PE _ _ (tFld K _ _) from pe_fld (pv 0) rfl) pa_nil)) pa_nil))))), ?_⟩
  rintro ss Pp ⟨L, hv, hl, rfl, hP⟩
  exact d_ret (d := .obj CS (seatsF ev mk (leastOf L))) (e_mk (U := V0 w) (ss := [.dat (.str mk), .dat (eLots ev (leastOf L))]) (ea_cons (e_fld (e_var rfl) kc.s kc.sm rfl) (ea_cons (e_callD (ss := [.dat (eLots ev L)]) (ea_cons (e_fld (e_var rfl) kc.s kc.sl rfl) ea_nil) ⟨L, hv, by omega, rfl, rfl⟩) ea_nil)) (val40 h hv.least (by rw [least_len]; exact hl))) hP
/-! ### check_same_marks -/
abbrev s_check_same_marks : Stmt := topS 17
theorem sc_check_same_marks : FnScope ["one", "other"] ["one", "other"] (defScope s_check_same_marks) := ⟨rfl, rfl, rfl, by decide +kernel, rfl, by decide +kernel, by decide +kernel⟩
theorem bd_check_same_marks : Bd "check_same_marks" s_check_same_marks ["one", "other"] := fun _ _ _ _ _ _ us hl => match us, hl with | [_, _], _ => rfl
def aSame (mk : Str) (ev : List Str) (CR CS : Addr) : Ask := fun ss P => ∃ M L, ss = [.dat (ruleD CR mk M), .dat (seatsD CS ev mk L)] ∧ P (.dat .non)
theorem cSame {CR CS : Addr} (kc : Kc K CR CS) (D : Dn K mg "check_same_marks" s_check_same_marks) : Cal P w K mg base 1 "check_same_marks" (spD (V0 w) (aSame mk ev CR CS)) [] := by
  have sc := sc_check_same_marks
  refine cal_of D sc bd_check_same_marks (fine1 fun ss P ⟨_, _, e, _⟩ => ⟨[_, _], e, rfl⟩) (by decide) fun f cdv A' outer s H E hr => ⟨_, (pss_one (ps_if (pt_cmpR op_ne (show PE _ _ (tFld K _ _) from pe_fld (pv 0) rfl) (show PE _ _ (tFld K _ _) from pe_fld (pv 1) rfl) (nomark _)) (pss_one ps_never) pss_nil)), ?_⟩
  rintro ss Pp ⟨R, L, rfl, hP⟩
  refine d_ifD (b := false) ((b_test (e_opD (e_fld (e_var rfl) kc.r kc.rm rfl) (e_fld (e_var rfl) kc.s kc.sm rfl) rp_neS)).imp fun b e => ?_) (fun z => by cases z) fun _ => d_next hP
  rw [e, decide_eq_true rfl]
  rfl
/-! ### list_of -/
abbrev s_list_of : Stmt := topS 47
theorem sc_list_of : FnScope ["rule", "lots"] ["rule"] (defScope s_list_of) := ⟨rfl, rfl, rfl, by decide +kernel, rfl, by decide +kernel, by decide +kernel⟩
theorem bd_list_of : Bd "list_of" s_list_of ["rule"] := fun _ _ _ _ _ _ us hl => match us, hl with | [_], _ => rfl
def LR (M : Moves) (m : Nat) (o : Option Lots) : Prop := (∃ c, candidate M m = some c ∧ Sim M m 0 c ∧ o = some (leastOf c)) ∨ ((∀ c, candidate M m = some c → ¬ Sim M m 0 c) ∧ o = none)
def oSeats (CS : Addr) (ev : List Str) (mk : Str) : Option Lots → Dt
  | none => .non
  | some L => seatsD CS ev mk L
def aListOf (mk : Str) (ev : List Str) (m : Nat) (CR CS : Addr) : Ask := fun ss P => ∃ M : Moves, RuleOk M m ∧ M.length ≤ 60 ∧ ss = [.dat (ruleD CR mk M)] ∧ ∀ o, LR M m o → P (.dat (oSeats CS ev mk o))
theorem cListOf {CR CS Pt : Addr} (h : MkLaw mk ev m) (hm : 0 < m) (kc : Kc K CR CS) (M : Mf mg) (c_candidate : Cal P w K mg base 4 "candidate" (spD (V0 w) (aCand mk ev m CR)) []) (c_least_of : Cal P w K mg base 4 "least_of" (spD (V0 w) (aLeast ev m)) [])
    (c_part_of_lots : Cal P w K mg base 8 "part_of_lots" (spD (VT w (TQ Pt)) (aPart mk ev m CR)) []) (k_Seats : Mak P w K mg base 5 "Seats" CS (spInit w CS (aSeats mk ev m)) []) (D : Dn K mg "list_of" s_list_of) : Cal P w K mg base 9 "list_of" (spD (VT w (TQ Pt)) (aListOf mk ev m CR CS)) [] := by
  have sc := sc_list_of
  refine cal_of D sc bd_list_of (fine1 fun ss P ⟨_, _, _, e, _⟩ => ⟨[_], e, rfl⟩) (by decide) fun f cdv A' outer s H E hr => ⟨_, (pss_cons (ps_set (i := 1) sc.nd rfl (by first | exact .inl rfl | exact .inr rfl) (pe_c c_candidate hr (by decide) (by rfl) (pa_cons (pv 0) pa_nil)))
      (pss_cons (ps_if (PW.pt (pw_or (pt_cmpR op_isN (pv 1) pe_non (nomark _)) (pw_or1 (pt_cmpR op_notN (pe_c c_part_of_lots hr (by decide) (by rfl) (pa_cons (pv 0) (pa_cons (pv 1) pa_nil))) pe_non (nomark _))))) (pss_one (ps_ret pe_non)) pss_nil)
      (pss_one (ps_ret (show PE _ _ (tMake _ _ _ _ _) from pe_mk k_Seats hr (by decide) (by rfl) (pa_cons (show PE _ _ (tFld K _ _) from pe_fld (pv 0) rfl) (pa_cons (pe_c c_least_of hr (by decide) (by rfl) (pa_cons (pv 1) pa_nil)) pa_nil))))))), ?_⟩
  rintro ss Pp ⟨R, hR, hl, rfl, hP⟩
  refine d_seq (d_asg (d := oLots ev (candidate R m)) (e_callD (ss := [.dat (ruleD CR mk R)]) (ea_cons (e_var rfl) ea_nil) ⟨R, hR, rfl, rfl⟩) ?_)
  cases hc : candidate R m with
  | none =>
    refine d_seq (d_ifD (b := true || true) (b_orD (a := true) (b_test (e_opD (e_var rfl) e_non rp_isNn)) fun z => by cases z) (fun _ => d_ret e_non (hP none (.inr ⟨(fun c e => by rw [hc] at e; cases e), rfl⟩))) fun z => by cases z)
  | some c =>
    obtain ⟨cv, cl⟩ := candidate_valid hc
    obtain ⟨r, hr⟩ := first_is (partL R c) m
    have call : ∀ {E : DEnv}, E[0]? = some (some (.dat (ruleD CR mk R))) → E[1]? = some (some (.dat (eLots ev c))) → EvD (VT w (TQ Pt)) (tCall (spD (VT w (TQ Pt)) (aPart mk ev m CR)) [] C8.E0 (tCons (tVar 0) (tCons (tVar 1) tNil))) E (oRow ev m r) := fun h1 h2 =>
      e_callSD .refl (ss := [.dat (ruleD CR mk R), .dat (eLots ev c)]) (ea_cons (e_var h1) (ea_cons (e_var h2) ea_nil)) ⟨R, c, hR, hl, cv, cl, rfl, fun r' hr' => by rw [first_one hr' hr]⟩
    cases r with
    | none =>
      have hs := (none_sim (L := c) hm cv.full).mp hr
      refine d_seq (d_ifD (b := false || false) (b_orD (a := false) (b_test (e_opD (e_var (d := eLots ev c) rfl) e_non (rp_isN (fun z => by cases z)))) fun _ => b_test (e_opD (call rfl rfl) e_non rp_notNn)) (fun z => by cases z) fun _ => d_next ?_)
      exact d_ret (d := .obj CS (seatsF ev mk (leastOf c))) (e_mk (U := VT w (TQ Pt)) (ss := [.dat (.str mk), .dat (eLots ev (leastOf c))]) (ea_cons (e_fld (e_var rfl) kc.r kc.rm rfl) (ea_cons (e_callD (ss := [.dat (eLots ev c)]) (ea_cons (e_var rfl) ea_nil) ⟨c, cv, by omega, rfl, rfl⟩) ea_nil)) (val40 h cv.least (by rw [least_len]; omega))) (hP (some (leastOf c)) (.inl ⟨c, hc, hs, rfl⟩))
    | some n =>
      refine d_seq (d_ifD (b := false || true) (b_orD (a := false) (b_test (e_opD (e_var (d := eLots ev c) rfl) e_non (rp_isN (fun z => by cases z)))) fun _ => b_test (e_opD (call rfl rfl) e_non (rp_notN (fun z => by cases z)))) (fun _ => d_ret e_non (hP none (.inr ⟨fun c' e hs => ?_, rfl⟩))) fun z => by cases z)
      rw [hc] at e
      cases e
      have q := (none_sim (L := c) hm cv.full).mpr hs n
      rw [hr.1] at q
      cases q
/-! ### part_from, where nothing is refused -/
abbrev s_part_from : Stmt := topS 46
theorem sc_part_from : FnScope ["rule", "seats"] ["rule", "seats"] (defScope s_part_from) := ⟨rfl, rfl, rfl, by decide +kernel, rfl, by decide +kernel, by decide +kernel⟩
theorem bd_part_from : Bd "part_from" s_part_from ["rule", "seats"] := fun _ _ _ _ _ _ us hl => match us, hl with | [_, _], _ => rfl
def aFrom (mk : Str) (ev : List Str) (m : Nat) (CR CS : Addr) : Ask := fun ss P => ∃ (M : Moves) (L : Lots), RuleOk M m ∧ M.length ≤ 60 ∧ ValidL m L ∧ L.length ≤ 12 ∧ ss = [.dat (ruleD CR mk M), .dat (seatsD CS ev mk L)] ∧ ∀ r, (partL M L).first m r → P (.dat (oRow ev m r))
theorem cFrom {CR CS Pt : Addr} (kc : Kc K CR CS) (M : Mf mg) (c_check_same_marks : Cal P w K mg base 1 "check_same_marks" (spD (V0 w) (aSame mk ev CR CS)) []) (c_part_of_lots : Cal P w K mg base 8 "part_of_lots" (spD (VT w (TQ Pt)) (aPart mk ev m CR)) []) (D : Dn K mg "part_from" s_part_from) : Cal P w K mg base 9 "part_from" (spD (VT w (TQ Pt)) (aFrom mk ev m CR CS)) [] := by
  have sc := sc_part_from
  refine cal_of D sc bd_part_from (fine1 fun ss P ⟨_, _, _, _, _, _, e, _⟩ => ⟨[_, _], e, rfl⟩) (by decide) fun f cdv A' outer s H E hr => ⟨_, (pss_cons (ps_expr (pe_c c_check_same_marks hr (by decide) (by rfl) (pa_cons (pv 0) (pa_cons (pv 1) pa_nil))))
      (pss_cons (ps_if (pt_cmpR op_gt (pe_callB (show CallR _ _ (rLen K) from call_len_seq) (by rfl) M.len_ PySem.boot_len (pa_cons (show PE _ _ (tFld K _ _) from pe_fld (pv 1) rfl) pa_nil)) (pe_gc (by rfl) M.MOST_KNOWN) (nomark _)) (pss_one ps_never) pss_nil)
      (pss_one (ps_ret (pe_c c_part_of_lots hr (by decide) (by rfl) (pa_cons (pv 0) (pa_cons (show PE _ _ (tFld K _ _) from pe_fld (pv 1) rfl) pa_nil))))))), ?_⟩
  rintro ss Pp ⟨R, L, hR, hRl, hv, hl, rfl, hP⟩
  obtain ⟨r, hr⟩ := first_is (partL R L) m
  refine d_seq (d_drop (P := (· = .dat .non)) (e_callD (ss := [.dat (ruleD CR mk R), .dat (seatsD CS ev mk L)]) (ea_cons (e_var rfl) (ea_cons (e_var rfl) ea_nil)) ⟨R, L, rfl, rfl⟩) ?_)
  refine d_seq (d_ifD (b := false) ((b_test (e_opD (e_cb1 (e_fld (e_var rfl) kc.s kc.sl rfl) (rc_lenTn (n := L.length) (List.length_map _))) e_int rp_gt)).imp fun b e => ?_) (fun z => by cases z) fun _ => d_next ?_)
  · rw [e, decide_eq_false (by omega)]
  · exact d_ret (d := oRow ev m r) (e_callSD .refl (ss := [.dat (ruleD CR mk R), .dat (eLots ev L)]) (ea_cons (e_var rfl) (ea_cons (e_fld (e_var rfl) kc.s kc.sl rfl) ea_nil)) ⟨R, L, hR, hRl, hv, hl, rfl, fun r' hr' => by rw [first_one hr' hr]⟩) (hP r hr)
/-! ### rule_of -/
abbrev s_rule_of : Stmt := topS 36
theorem sc_rule_of : FnScope ["seats", "kinds", "stands", "numbers", "moves", "lots", "mine", "kind", "flag", "rest"] ["seats"] (defScope s_rule_of) := ⟨rfl, rfl, rfl, by decide +kernel, rfl, by decide +kernel, by decide +kernel⟩
theorem bd_rule_of : Bd "rule_of" s_rule_of ["seats"] := fun _ _ _ _ _ _ us hl => match us, hl with | [_], _ => rfl
def aRuleOf (mk : Str) (ev : List Str) (m : Nat) (CR CS : Addr) : Ask := fun ss P => ∃ L : Lots, ValidL m L ∧ L.length ≤ 40 ∧ (∃ t : List Lots, t.length ≤ 60 ∧ ∀ C, ReachL m L C → C ∈ t) ∧ ss = [.dat (seatsD CS ev mk L)] ∧ ∀ M : Moves, RuleOk M m → M.length ≤ 60 → Sim M m 0 L → P (.dat (ruleD CR mk M))
theorem cRuleOf {CR CS : Addr} (h : MkLaw mk ev m) (hm : 0 < m) (kc : Kc K CR CS) (M : Mf mg) (c_all_kinds : Cal P w K mg base 1 "all_kinds" (spD (V0 w) (a_all_kinds mk ev)) []) (c_least_of : Cal P w K mg base 4 "least_of" (spD (V0 w) (aLeast ev m)) []) (c_behind : Cal P w K mg base 5 "behind" (spD (V0 w) (aBehind ev m)) [])
    (k_Rule : Mak P w K mg base 4 "Rule" CR (spInit w CR (aRule mk m)) []) (D : Dn K mg "rule_of" s_rule_of) : Cal P w K mg base 6 "rule_of" (spD (V0 w) (aRuleOf mk ev m CR CS)) [] := by
  have sc := sc_rule_of
  refine cal_of D sc bd_rule_of (fine1 fun ss P ⟨_, _, _, _, e, _⟩ => ⟨[_], e, rfl⟩) (by decide) fun f cdv A' outer s H E hr => ⟨_, (pss_cons (ps_set (i := 1) sc.nd rfl (by first | exact .inl rfl | exact .inr rfl) (pe_c c_all_kinds hr (by decide) (by rfl) (pa_cons (show PE _ _ (tFld K _ _) from pe_fld (pv 0) rfl) pa_nil)))
      (pss_cons (ps_set (i := 2) sc.nd rfl (by first | exact .inl rfl | exact .inr rfl) (pe_lst (pa_cons (pe_c c_least_of hr (by decide) (by rfl) (pa_cons (show PE _ _ (tFld K _ _) from pe_fld (pv 0) rfl) pa_nil)) pa_nil)))
      (pss_cons (ps_set (i := 3) sc.nd rfl (by first | exact .inl rfl | exact .inr rfl) (show PE _ _ (tNOne w _ _) from pe_none_ hr.units (pe_ix (show IxR _ (rIxL K) from ix_list) (pv 2) pe_int (fun _ _ => rfl)) pe_int))
      (pss_cons (ps_set (i := 4) sc.nd rfl (by first | exact .inl rfl | exact .inr rfl) (pe_lst pa_nil))
      (pss_cons (ps_while PassesOwn.never (pt_cmpR op_lt (pe_callB (show CallR _ _ (rLen K) from call_len_seq) (by rfl) M.len_ PySem.boot_len (pa_cons (pv 4) pa_nil)) (pe_callB (show CallR _ _ (rLen K) from call_len_seq) (by rfl) M.len_ PySem.boot_len (pa_cons (pv 2) pa_nil)) (nomark _)) (pss_cons (ps_set (i := 5) sc.nd rfl (by first | exact .inl rfl | exact .inr rfl) (pe_ix (show IxR _ (rIxL K) from ix_list) (pv 2) (pe_callB (show CallR _ _ (rLen K) from call_len_seq) (by rfl) M.len_ PySem.boot_len (pa_cons (pv 4) pa_nil)) (fun _ _ => rfl)))
      (pss_cons (ps_set (i := 6) sc.nd rfl (by first | exact .inl rfl | exact .inr rfl) (pe_lst pa_nil))
      (pss_cons (ps_for PassesOwn.never rfl (show PI _ _ _ (iList K _) from pi_list (pv 1)) (pg_name (i := 7) sc.nd rfl (by first | exact .inl rfl | exact .inr rfl)) (pss_cons (ps_asg (pe_c c_behind hr (by decide) (by rfl) (pa_cons (pv 5) (pa_cons (pv 7) pa_nil))) (show PG _ _ (gTup K 2 _) from pg_tup rfl (pgs_cons (pg_name (i := 8) sc.nd rfl (by first | exact .inl rfl | exact .inr rfl)) (pgs_cons (pg_name (i := 9) sc.nd rfl (by first | exact .inl rfl | exact .inr rfl)) pgs_nil))))
      (pss_cons (ps_if (pt_cmpR (show OpR _ _ (rNIn w true) from (op_notInN hr.units)) (pv 9) (pv 3) (by rfl)) (pss_cons (ps_if (pt_cmpR op_eq (pe_callB (show CallR _ _ (rLen K) from call_len_seq) (by rfl) M.len_ PySem.boot_len (pa_cons (pv 2) pa_nil)) (pe_gc (by rfl) M.MOST_STANDS) (nomark _)) (pss_one ps_never) pss_nil)
      (pss_cons (show PS _ _ (sNPut w _ _ _) from ps_nput hr.units (pv 3) (pv 9) (pe_callB (show CallR _ _ (rLen K) from call_len_seq) (by rfl) M.len_ PySem.boot_len (pa_cons (pv 2) pa_nil)) rfl)
      (pss_one (ps_expr (show PE _ _ (tBM K _ _ _ _) from pe_bm PySem.F.plainAttrs_list PySem.F.slot_list_append PySem.F.type_list_append mt_append (pv 2) (pa_cons (pv 9) pa_nil)))))) pss_nil)
      (pss_one (ps_expr (show PE _ _ (tBM K _ _ _ _) from pe_bm PySem.F.plainAttrs_list PySem.F.slot_list_append PySem.F.type_list_append mt_append (pv 6) (pa_cons (pe_tup (pa_cons (pv 8) (pa_cons (show PE _ _ (tOp (rNGet w) _ _) from pe_nget hr.units (pv 3) (pv 9) (fun _ _ => rfl)) pa_nil))) pa_nil)))))))
      (pss_one (ps_expr (show PE _ _ (tBM K _ _ _ _) from pe_bm PySem.F.plainAttrs_list PySem.F.slot_list_append PySem.F.type_list_append mt_append (pv 4) (pa_cons (show PE _ _ (tThen _ (kTup K)) from pe_tupleOf (by rfl) M.tuple_ (pv 6)) pa_nil))))))))
      (pss_one (ps_ret (show PE _ _ (tMake _ _ _ _ _) from pe_mk k_Rule hr (by decide) (by rfl) (pa_cons (show PE _ _ (tFld K _ _) from pe_fld (pv 0) rfl) (pa_cons (show PE _ _ (tThen _ (kTup K)) from pe_tupleOf (by rfl) M.tuple_ (pv 4)) pa_nil)))))))))), ?_⟩
  rintro ss Pp ⟨L, hv, hl, ⟨tt, htl, hin⟩, rfl, hP⟩
  have hF := hv.full
  have rc : ∀ C, ReachL m L C → ValidL m C ∧ C.length ≤ 40 := fun C hC => by
    obtain ⟨S, hS, e⟩ := reachL_sub hF hC
    have := hS.length_le
    rw [e, least_len]
    exact ⟨(hv.sub hS).least, by omega⟩
  have inj : ∀ (ls : List Lots) (x : Lots), (∀ l ∈ ls, ReachL m L l) → ReachL m L x → ∀ l ∈ ls, eLots ev l = eLots ev x → l = x := fun ls x hls hx l hl e => eLots_inj h.ok.evk (rc l (hls l hl)).1 (rc x hx).1 e
  have small : ∀ ls : List Lots, ls.Nodup → (∀ l ∈ ls, ReachL m L l) → ls.length ≤ 60 := fun ls h1 h2 => Nat.le_trans (nodup_le ls tt h1 fun x hx => hin x (h2 x hx)) htl
  refine d_seq (d_asgN (e_callN (ss := [.dat (.str mk)]) (ea_cons (e_fld (e_var rfl) kc.s kc.sm rfl) ea_nil) ⟨rfl, rfl⟩) ?_)
  refine d_seq (d_asgN (ds := [leastOf L].map (eLots ev)) (e_lst (ds := [eLots ev (leastOf L)]) (ea_cons (e_callD (ss := [.dat (eLots ev L)]) (ea_cons (e_fld (e_var rfl) kc.s kc.sl rfl) ea_nil) ⟨L, hv, by omega, rfl, rfl⟩) ea_nil)) ?_)
  refine d_seq (d_asgP (P := (· = .on (numD (eLots ev) [leastOf L]))) (e_oneN (v := .int 0) (ds := (leastOf L).map (eLot ev)) (e_opD (e_ol rfl) e_int (rp_ixL (j := 0) rfl)) e_int (key_eLots ev _ 6) int_val) own_on ?_)
  rintro _ rfl
  refine d_seq (d_asgN (ds := []) (e_lst (ds := []) ea_nil) ?_)
  refine d_seq (d_whileS (α := List Lots × Moves) (fun n x => n = 61 - x.2.length ∧ Rof hasK behL (ReachL m L) m x.1 x.2 ∧ x.1[0]? = some (leastOf L))
    (fun x => [some (.dat (seatsD CS ev mk L)), some (.rl (ev.map .str)), some (.ol (x.1.map (eLots ev))), some (.on (numD (eLots ev) x.1)), some (.ol (x.2.map eRow)), none, none, none, none, none]) 61 ([leastOf L], [])
    ⟨⟨rfl, .start .base, rfl⟩, by walk_at "fg"⟩ (fun n x hx => ⟨decide ((x.2.length : Int) < (x.1.length : Int)), b_test (e_opD (e_cb1 (e_ol rfl) (rc_lenLn (List.length_map _))) (e_cb1 (e_ol rfl) (rc_lenLn (List.length_map _))) rp_lt), fun hb => ?_, fun hb => ?_⟩))
  · obtain ⟨ls, rows⟩ := x
    obtain ⟨rfl, hS, h0⟩ := hx
    have hS : Rof hasK behL (ReachL m L) m ls rows := hS
    have h0 : ls[0]? = some (leastOf L) := h0
    have hd : rows.length < ls.length := by have z : (rows.length : Int) < (ls.length : Int) := of_decide_eq_true hb; omega
    have hls := small ls hS.nd hS.rc
    obtain ⟨l, hl⟩ : ∃ l, ls[rows.length]? = some l := ⟨_, List.getElem?_eq_getElem hd⟩
    have hlr := hS.rc l (List.mem_of_getElem? hl)
    obtain ⟨lv, ll⟩ := rc l hlr
    refine d_seq (d_asg (d := eLots ev l) (e_opD (e_ol rfl) (e_cb1 (e_ol rfl) (rc_lenLn (List.length_map _))) (rp_ixL (by rw [List.getElem?_map, hl]; rfl))) ?_)
    refine d_seq (d_asgN (ds := []) (e_lst (ds := []) ea_nil) ?_)
    refine d_seq (d_forS (α := List Lots × List (Bool × Nat)) (fun k y => Rof hasK behL (ReachL m L) m y.1 rows ∧ y.1[0]? = some (leastOf L) ∧ y.1[rows.length]? = some l ∧ Mine hasK behL y.1 l k y.2)
      (fun _ y => [some (.dat (seatsD CS ev mk L)), some (.rl (ev.map .str)), some (.ol (y.1.map (eLots ev))), some (.on (numD (eLots ev) y.1)), some (.ol (rows.map eRow)), some (.dat (eLots ev l)), some (.ol (y.2.map eMv)), none, none, none])
      (i_list (l_rl rfl)) (ls, []) ⟨⟨hS, h0, hl, .start⟩, by walk_at "fg"⟩ (fun k d y hd hy => ?_) fun y hy => ?_)
    · obtain ⟨gs, mine⟩ := y
      obtain ⟨hG, g0, gl, hM⟩ := hy
      have hG : Rof hasK behL (ReachL m L) m gs rows := hG
      have hM : Mine hasK behL gs l k mine := hM
      have hkm : k < m := by have z := (List.getElem?_eq_some_iff.mp hd).1; rw [List.length_map, h.ok.evk.len] at z; exact z
      obtain rfl : d = .str (kd ev k) := by
        rw [List.getElem?_map, List.getElem?_eq_getElem (by rw [h.ok.evk.len]; exact hkm)] at hd
        unfold kd
        rw [List.getD_eq_getElem?_getD, List.getElem?_eq_getElem (by rw [h.ok.evk.len]; exact hkm)]
        exact (Option.some.inj hd).symm
      have hnr : ReachL m L (behL l k) := .step hlr hkm
      have hsm := h.ok.evk.sm
      have hgl := small gs hG.nd hG.rc
      refine ⟨_, _, gd_name, d_seq (d_unp (d := .tup [.bl (hasK l k), eLots ev (behL l k)]) (e_callD (ss := [.dat (eLots ev l), .dat (.str (kd ev k))]) (ea_cons (e_var rfl) (ea_cons (e_var rfl) ea_nil)) ⟨l, k, lv, by omega, hkm, rfl, rfl⟩) (gd_tup (gds_cons gd_name (gds_cons gd_name gds_nil))) ?_)⟩
      have rest : ∀ (G : DE) (gs' : List Lots), (∀ E' : DEnv, (∃ y : List Lots × List (Bool × Nat), (Rof hasK behL (ReachL m L) m y.1 rows ∧ y.1[0]? = some (leastOf L) ∧ y.1[rows.length]? = some l ∧ Mine hasK behL y.1 l (k + 1) y.2) ∧ Fg E' [some (.dat (seatsD CS ev mk L)), some (.rl (ev.map .str)), some (.ol (y.1.map (eLots ev))), some (.on (numD (eLots ev) y.1)), some (.ol (rows.map eRow)), some (.dat (eLots ev l)), some (.ol (y.2.map eMv)), none, none, none]) → G.nx E') → Rof hasK behL (ReachL m L) m gs' rows → gs'[0]? = some (leastOf L) → gs'[rows.length]? = some l → Mine hasK behL gs' l k mine → behL l k ∈ gs' →
          DS (V0 w) (tDrop (tBM K "list" rAppend (tVar 6) (tCons (tTup (tCons (tVar 8) (tCons (tOp (rNGet w) (tVar 3) (tVar 9)) tNil))) tNil))) [some (.dat (seatsD CS ev mk L)), some (.rl (ev.map .str)), some (.ol (gs'.map (eLots ev))), some (.on (numD (eLots ev) gs')), some (.ol (rows.map eRow)), some (.dat (eLots ev l)), some (.ol (mine.map eMv)), some (.dat (.str (kd ev k))), some (.dat (.bl (hasK l k))), some (.dat (eLots ev (behL l k)))]
            G := fun G gs' hnx a0 a1 a2 a3 a4 => by
        obtain ⟨j, hj⟩ := numD_get a4
        refine d_app (d := eMv (hasK l k, j)) rfl (e_tup (ds := [.bl (hasK l k), .int (j : Int)]) (ea_cons (e_var rfl) (ea_cons (e_getN (U := V0 w) (ds := (behL l k).map (eLot ev)) rfl (e_var rfl) (key_eLots ev _ 6) (numD_at (enc := eLots ev) hj) (fun H => .int _)) ea_nil))) (by rw [List.length_map, a3.len]; omega) (hnx _ ⟨(gs', mine ++ [(hasK l k, j)]), ⟨a0, a1, a2, a3.snoc hj⟩, ?_⟩)
        show Fg _ _
        rw [List.map_append]
        walk_at "fg"
      refine d_seq (d_ifD (b := !decide (behL l k ∈ gs)) (b_test (e_notInN (ds := (behL l k).map (eLot ev)) rfl (e_var rfl) (key_eLots ev _ 6) (by rw [decide_eq_true_eq]; exact (numD_mem (enc := eLots ev) (inj gs _ hG.rc hnr)).symm))) (fun hb => ?_) fun hb => d_next ?_)
      · have hn : behL l k ∉ gs := by simpa using hb
        have hG' := hG.ext hn hnr
        have hgl' := small _ hG'.nd hG'.rc
        rw [List.length_append, List.length_singleton] at hgl'
        refine d_seq (d_ifD (b := false) ((b_test (e_opD (e_cb1 (e_ol rfl) (rc_lenLn (List.length_map _))) e_int rp_eqI)).imp fun b e => ?_) (fun z => by cases z) fun _ => d_next ?_)
        · rw [e, decide_eq_false (show ¬ (gs.length : Int) = 60 by omega)]
        refine d_seq (d_putN (U := V0 w) (v := .int (gs.length : Int)) (ds := (behL l k).map (eLot ev)) rfl (e_cb1 (e_ol rfl) (rc_lenLn (List.length_map _))) (e_var rfl) (key_eLots ev _ 6) (fun z => hn ((numD_mem (enc := eLots ev) (inj gs _ hG.rc hnr)).mp z)) int_val (by rw [numD_len]; show gs.length < 1000000; omega) ?_)
        refine d_app (d := eLots ev (behL l k)) rfl (e_var rfl) (by rw [List.length_map]; show gs.length < 1000000; omega) ?_
        refine d_weak (rest _ (gs ++ [behL l k]) (fun E' q => q) hG' (get_snoc g0) (get_snoc gl) hM.ext (List.mem_append_right _ List.mem_cons_self)) ?_
        rw [List.map_append, numD_snoc]
        walk_at "fg"
      · exact rest _ gs (fun E' q => q) hG g0 gl hM (by simpa using hb)
    · obtain ⟨gs, mine⟩ := y
      obtain ⟨hG, g0, gl, hM⟩ := hy
      rw [List.length_map, h.ok.evk.len] at hM
      have hgl := small gs hG.nd hG.rc
      have hrl := (List.getElem?_eq_some_iff.mp gl).1
      refine d_app (d := eRow mine) rfl (e_tupleD (e_ol rfl)) (by rw [List.length_map]; have : rows.length < gs.length := hrl; omega) ⟨61 - (rows ++ [mine]).length, (gs, rows ++ [mine]), by rw [List.length_append]; show 61 - (rows.length + 1) < 61 - rows.length; have : rows.length < gs.length := hrl; have : gs.length ≤ 60 := hgl; omega, ⟨rfl, hG.row gl hM, g0⟩, ?_⟩
      show Fg _ _
      rw [List.map_append]
      walk_at "fg"
  · obtain ⟨ls, rows⟩ := x
    obtain ⟨rfl, hS, h0⟩ := hx
    have hS : Rof hasK behL (ReachL m L) m ls rows := hS
    have h0 : ls[0]? = some (leastOf L) := h0
    have hd : ¬ rows.length < ls.length := by have z : ¬ (rows.length : Int) < (ls.length : Int) := of_decide_eq_false hb; omega
    have hls := small ls hS.nd hS.rc
    have hall : rows.length = ls.length := by have := hS.le; omega
    have hok := hS.ok hall (List.getElem?_eq_some_iff.mp h0).1
    have hsim : Sim rows m 0 L := hS.sim hall (fun C D => Alike C D ∧ Full C) (fun C D k ⟨a, f⟩ hk => by
      refine ⟨a.has k, ?_⟩
      unfold behL
      have q := (a.step k).2
      by_cases hh : hasK C k = true
      · rw [if_pos hh]
        exact ⟨(alike_least _).symm.trans q, (f.step k).least⟩
      · rw [if_neg hh]
        rw [step_no (by simpa using hh)] at q
        exact ⟨q, f⟩) h0 ⟨(alike_least L).symm, hF.least⟩
    exact d_ret (d := .obj CR (ruleF mk rows)) (e_mk (U := V0 w) (ss := [.dat (.str mk), .dat (eMoves rows)]) (ea_cons (e_fld (e_var rfl) kc.s kc.sm rfl) (ea_cons (e_tupleD (e_ol rfl)) ea_nil)) ⟨rows, hok, by omega, rfl, rfl⟩) (hP rows hok (by omega) hsim)
end
end K13
end
section
set_option Elab.async false
set_option linter.all false
set_option maxRecDepth 100000
set_option maxHeartbeats 4000000
set_option autoImplicit false
local macro_rules | `(tactic| walk_at "fg") => `(tactic| (repeat' (first | exact True.intro | exact rfl | constructor)))
namespace K13
open PySem PySem.Spec PyProof.Rows L2 C8 NdefX LamX
theorem rp_ge {U : Vol} {i j : Int} : RP U (rI0 fun i j => .bl (decide (j ≤ i))) (.dat (.int i)) (.dat (.int j)) (· = .dat (.bl (decide (j ≤ i)))) := rp_I0 fun _ => .bl _
theorem rng_iL (n : Nat) : rngD 0 n = iL (List.range n) := by
  unfold rngD iL
  refine List.map_congr_left fun i _ => ?_
  rw [Int.zero_add]
theorem key_iLot (a : Lot) (n : Nat) : keyB (n + 1) (iLot a) = true := by
  unfold iLot keyB
  rw [List.all_map]
  exact List.all_eq_true.mpr fun k _ => by cases n <;> rfl
def oRowI (m : Nat) : Option Nat → Dt
  | none => .non
  | some n => iLot (rowOf m n)
theorem rowI_cat {m c k : Nat} (hk : k < m) : iLot (rowOf m (c * m + k + 1)) = .tup (((rowOf m c).map fun (j : Nat) => .int (j : Int)) ++ [.int (k : Int)]) := by
  rw [row_snoc hk]
  unfold iLot
  rw [List.map_append]
  rfl
section
variable {P : Program} {w : World} {K : PySem.W.Frag} {mg : Str → Option Value} {base : Heap} {mk : Str} {ev : List Str} {m : Nat}
/-! ### _law_part -/
abbrev s__law_part : Stmt := topS 63
theorem sc__law_part : FnScope ["_law_moves_here", "_law_others", "_law_many", "_law_found", "_law_known", "_law_turn", "_law_one", "_law_other", "_law_row_here", "_law_number", "_law_flag_here", "_law_goal", "_law_its", "_law_end"] ["_law_moves_here", "_law_others", "_law_many"] (defScope s__law_part) := ⟨rfl, rfl, rfl, by decide +kernel, rfl, by decide +kernel, by decide +kernel⟩
theorem bd__law_part : Bd "_law_part" s__law_part ["_law_moves_here", "_law_others", "_law_many"] := fun _ _ _ _ _ _ us hl => match us, hl with | [_, _, _], _ => rfl
def qI (m : Nat) (e : (Nat × Nat) × Nat) : Dt := .tup [pD e.1, iLot (rowOf m e.2)]
def aLPart (m : Nat) : Ask := fun ss P => ∃ M N : Moves, RuleOk M m ∧ RuleOk N m ∧ M.length ≤ 60 ∧ N.length ≤ 60 ∧ ss = [.dat (eMoves M), .dat (eMoves N), .dat (.int (m : Int))] ∧ ∀ r, (partR M N).first m r → (∀ n, r = some n → (rowOf m n).length ≤ 20000) → P (.dat (oRowI m r))
theorem cLPart (hm : 0 < m) (hm16 : m ≤ 16) (M : Mf mg) (D : Dn K mg "_law_part" s__law_part) : Cal P w K mg base 1 "_law_part" (spD (V0 w) (aLPart m)) [] := by
  have sc := sc__law_part
  refine cal_of D sc bd__law_part (fine1 fun ss P ⟨_, _, _, _, _, _, e, _⟩ => ⟨[_, _, _], e, rfl⟩) (by decide) fun f cdv A' outer s H E hr => ⟨_, (pss_cons (ps_set (i := 3) sc.nd rfl (by first | exact .inl rfl | exact .inr rfl) (pe_lst (pa_cons (pe_tup (pa_cons (pe_tup (pa_cons pe_int (pa_cons pe_int pa_nil))) (pa_cons (pe_tup pa_nil) pa_nil))) pa_nil)))
      (pss_cons (ps_set (i := 4) sc.nd rfl (by first | exact .inl rfl | exact .inr rfl) (show PE _ _ (tNNew w) from pe_nnew))
      (pss_cons (show PS _ _ (sNPut w _ _ _) from ps_nput hr.units (pv 4) (pe_tup (pa_cons pe_int (pa_cons pe_int pa_nil))) pe_bl rfl)
      (pss_cons (ps_for PassesOwn.never rfl (pi_range1 (by rfl) M.range_ (pa_cons pe_int pa_nil)) (pg_name (i := 5) sc.nd rfl (by first | exact .inl rfl | exact .inr rfl)) (pss_cons (ps_if (pt_cmpR op_ge (pv 5) (pe_callB (show CallR _ _ (rLen K) from call_len_seq) (by rfl) M.len_ PySem.boot_len (pa_cons (pv 3) pa_nil)) (nomark _)) (pss_one (ps_ret pe_non)) pss_nil)
      (pss_cons (ps_asg (pe_ix (show IxR _ (rIxL K) from ix_list) (pv 3) (pv 5) (fun _ _ => rfl)) (show PG _ _ (gTup K 2 _) from pg_tup rfl (pgs_cons (show PG _ _ (gTup K 2 _) from pg_tup rfl (pgs_cons (pg_name (i := 6) sc.nd rfl (by first | exact .inl rfl | exact .inr rfl)) (pgs_cons (pg_name (i := 7) sc.nd rfl (by first | exact .inl rfl | exact .inr rfl)) pgs_nil))) (pgs_cons (pg_name (i := 8) sc.nd rfl (by first | exact .inl rfl | exact .inr rfl)) pgs_nil))))
      (pss_one (ps_for PassesOwn.never rfl (pi_range1 (by rfl) M.range_ (pa_cons (pv 2) pa_nil)) (pg_name (i := 9) sc.nd rfl (by first | exact .inl rfl | exact .inr rfl)) (pss_cons (ps_asg (pe_ix (show IxR _ (rIxT K) from ix_tup) (pe_ix (show IxR _ (rIxT K) from ix_tup) (pv 0) (pv 6) (fun _ _ => rfl)) (pv 9) (fun _ _ => rfl)) (show PG _ _ (gTup K 2 _) from pg_tup rfl (pgs_cons (pg_name (i := 10) sc.nd rfl (by first | exact .inl rfl | exact .inr rfl)) (pgs_cons (pg_name (i := 11) sc.nd rfl (by first | exact .inl rfl | exact .inr rfl)) pgs_nil))))
      (pss_cons (ps_asg (pe_ix (show IxR _ (rIxT K) from ix_tup) (pe_ix (show IxR _ (rIxT K) from ix_tup) (pv 1) (pv 7) (fun _ _ => rfl)) (pv 9) (fun _ _ => rfl)) (show PG _ _ (gTup K 2 _) from pg_tup rfl (pgs_cons (pg_name (i := 12) sc.nd rfl (by first | exact .inl rfl | exact .inr rfl)) (pgs_cons (pg_name (i := 13) sc.nd rfl (by first | exact .inl rfl | exact .inr rfl)) pgs_nil))))
      (pss_cons (ps_if (pt_cmpR op_ne (pv 10) (pv 12) (nomark _)) (pss_one (ps_ret (pe_op (show OpR _ _ (rCatA K) from op_catA) (pv 8) (pe_tup (pa_cons (pv 9) pa_nil))))) pss_nil)
      (pss_one (ps_if (pt_cmpR (show OpR _ _ (rNIn w true) from (op_notInN hr.units)) (pe_tup (pa_cons (pv 11) (pa_cons (pv 13) pa_nil))) (pv 4) (by rfl)) (pss_cons (show PS _ _ (sNPut w _ _ _) from ps_nput hr.units (pv 4) (pe_tup (pa_cons (pv 11) (pa_cons (pv 13) pa_nil))) pe_bl rfl)
      (pss_one (ps_expr (show PE _ _ (tBM K _ _ _ _) from pe_bm PySem.F.plainAttrs_list PySem.F.slot_list_append PySem.F.type_list_append mt_append (pv 3) (pa_cons (pe_tup (pa_cons (pe_tup (pa_cons (pv 11) (pa_cons (pv 13) pa_nil))) (pa_cons (pe_op (show OpR _ _ (rCatA K) from op_catA) (pv 8) (pe_tup (pa_cons (pv 9) pa_nil))) pa_nil))) pa_nil))))) pss_nil))))))))))
      (pss_one (ps_ret pe_non)))))), ?_⟩
  rintro ss Pp ⟨R, N, hR, hN, hRl, hNl, rfl, hP⟩
  have val := partR_small hR hN hm
  have lt : ∀ qs : List ((Nat × Nat) × Nat), (qs.map (·.1)).Nodup → (∀ e ∈ qs, e.1 = (partR R N).st m e.2) → qs.length ≤ 3600 := fun qs h1 h2 => by
    have q := nodup_pairs (N := 60) h1 fun x hx => by
      obtain ⟨e, he, rfl⟩ := List.mem_map.mp hx
      rw [h2 e he]
      have := val e.2
      omega
    rw [List.length_map] at q
    exact q
  have hmem : ∀ (qs : List ((Nat × Nat) × Nat)) (p : Nat × Nat), (decide (p ∈ qs.map (·.1)) = true ↔ pD p ∈ (kn2 (qs.map (·.1))).map (·.1)) := fun qs p => by rw [decide_eq_true_eq]; exact kn2_mem.symm
  refine d_seq (d_asgN (ds := [((0, 0), 0)].map (qI m)) (e_lst (ds := [qI m ((0, 0), 0)]) (ea_cons (e_tup (ds := [pD (0, 0), iLot (rowOf m 0)]) (ea_cons (e_tup (ds := [.int 0, .int 0]) (ea_cons e_int (ea_cons e_int ea_nil))) (ea_cons (by rw [row_zero]; exact e_tup (ds := []) ea_nil) ea_nil))) ea_nil)) ?_)
  refine d_seq (d_asgP (P := (· = .on [])) (e_newN (U := V0 w)) own_on ?_)
  rintro _ rfl
  refine d_seq (d_putN (U := V0 w) (v := .bl true) (ds := [.int 0, .int 0]) rfl e_bl (e_tup (ds := [.int 0, .int 0]) (ea_cons e_int (ea_cons e_int ea_nil))) rfl (by simp) bl_val (by decide) ?_)
  refine d_seq (d_forS (α := List ((Nat × Nat) × Nat)) (fun t qs => (qs.map (·.1)).Nodup ∧ (∀ e ∈ qs, e.1 = (partR R N).st m e.2) ∧ t ≤ qs.length ∧ BqH (partR R N) m qs t ∧ Deep m qs)
    (fun _ qs => [some (.dat (eMoves R)), some (.dat (eMoves N)), some (.dat (.int (m : Int))), some (.ol (qs.map (qI m))), some (.on (kn2 (qs.map (·.1)))), none, none, none, none, none, none, none, none, none])
    (i_range1D (n := 20000) e_int (by decide)) [((0, 0), 0)] ⟨⟨by simp, fun e he => by rw [List.mem_singleton.mp he, st_zero]; rfl, Nat.zero_le _, BqH.start, .one⟩, by walk_at "fg"⟩ (fun t d qs hd hx => ?_) fun qs hx => ?_)
  · obtain ⟨rfl, ht⟩ := rng0_get hd
    obtain ⟨hnd, hst, hle, hq, hdp⟩ := hx
    have hle60 := lt qs hnd hst
    refine ⟨_, _, gd_name, ?_⟩
    refine d_seq (d_ifD (b := decide ((qs.length : Int) ≤ (t : Int))) (b_test (e_opD (e_var rfl) (e_cb1 (e_ol rfl) (rc_lenLn (List.length_map _))) rp_ge)) (fun hb => ?_) fun hb => d_next ?_)
    · have hb : qs.length ≤ t := by have z := of_decide_eq_true hb; omega
      rcases hq with ⟨e, hp, _⟩ | q
      · have := (List.getElem?_eq_some_iff.mp hp).1
        omega
      · exact d_ret e_non (hP none q.2 fun n z => by cases z)
    have hd : t < qs.length := by have z := of_decide_eq_false hb; omega
    obtain ⟨e, hp, hB⟩ : ∃ e, qs[t]? = some e ∧ Bq (partR R N) m qs (e.2 * m + 1) := by
      rcases hq with q | q
      · exact q
      · exact absurd q.1 (by omega)
    have hes := hst e (List.mem_of_getElem? hp)
    obtain ⟨v1, v2⟩ := val e.2
    rw [← hes] at v1 v2
    have hrow := hdp.row t e hp
    have hg : (qs.map (qI m))[t]? = some (qI m e) := by rw [List.getElem?_map, hp]; rfl
    refine d_seq (d_unp (d := qI m e) (e_opD (e_ol rfl) (e_var rfl) (rp_ixL hg)) (gd_tup (gds_cons (gd_tup (gds_cons gd_name (gds_cons gd_name gds_nil))) (gds_cons gd_name gds_nil))) ?_)
    refine d_forS (α := List ((Nat × Nat) × Nat)) (fun k gs => Bq (partR R N) m gs (e.2 * m + k + 1) ∧ gs[t]? = some e ∧ Deep m gs)
      (fun _ gs => [some (.dat (eMoves R)), some (.dat (eMoves N)), some (.dat (.int (m : Int))), some (.ol (gs.map (qI m))), some (.on (kn2 (gs.map (·.1)))), some (.dat (.int (t : Int))), some (.dat (.int (e.1.1 : Int))), some (.dat (.int (e.1.2 : Int))), some (.dat (iLot (rowOf m e.2))), none, none, none, none, none])
      (i_range1D (n := m) (e_var rfl) (by omega)) qs ⟨⟨hB, hp, hdp⟩, by walk_at "fg"⟩ (fun k d gs hd hx => ?_) fun gs hx => ?_
    · obtain ⟨rfl, hkm⟩ := rng0_get hd
      obtain ⟨hG, hgp, hgd⟩ := hx
      have hst' : (partR R N).st m (e.2 * m + k + 1) = ((mvR R e.1.1 k).2, (mvR N e.1.2 k).2) := by rw [st_snoc hkm, ← hes]; rfl
      have hpt : (partR R N).pt m (e.2 * m + k + 1) = ((mvR R e.1.1 k).1 != (mvR N e.1.2 k).1) := by rw [pt_snoc hkm, ← hes]; rfl
      have hgl := lt gs hG.nd hG.st
      have hcat : ∀ {E : DEnv}, E[8]? = some (some (.dat (iLot (rowOf m e.2)))) → E[9]? = some (some (.dat (.int (k : Int)))) → EvD (V0 w) (tOp (rCatA K) (tVar 8) (tTup (tCons (tVar 9) tNil))) E (iLot (rowOf m (e.2 * m + k + 1))) := fun h1 h2 => by
        rw [rowI_cat hkm]
        exact e_opD (e_var h1) (e_tup (ds := [.int (k : Int)]) (ea_cons (e_var h2) ea_nil)) (rp_catT (by rw [List.length_map]; show (rowOf m e.2).length + 1 ≤ 1000000; omega))
      have tg : ∀ {E : DEnv}, E[11]? = some (some (.dat (.int ((mvR R e.1.1 k).2 : Int)))) → E[13]? = some (some (.dat (.int ((mvR N e.1.2 k).2 : Int)))) → EvD (V0 w) (tTup (tCons (tVar 11) (tCons (tVar 13) tNil))) E (pD ((partR R N).st m (e.2 * m + k + 1))) := fun h1 h2 => by
        rw [hst']
        exact e_tup (ds := [.int ((mvR R e.1.1 k).2 : Int), .int ((mvR N e.1.2 k).2 : Int)]) (ea_cons (e_var h1) (ea_cons (e_var h2) ea_nil))
      refine ⟨_, _, gd_name, d_seq (d_unp (d := eMv (mvR R e.1.1 k)) (e_mv hR (e_var rfl) (e_var rfl) (e_var rfl) v1 hkm) (gd_tup (gds_cons gd_name (gds_cons gd_name gds_nil))) ?_)⟩
      refine d_seq (d_unp (d := eMv (mvR N e.1.2 k)) (e_mv hN (e_var rfl) (e_var rfl) (e_var rfl) v2 hkm) (gd_tup (gds_cons gd_name (gds_cons gd_name gds_nil))) ?_)
      refine d_seq (d_ifD (b := !decide ((mvR R e.1.1 k).1 = (mvR N e.1.2 k).1)) (b_test (e_opD (e_var rfl) (e_var rfl) rp_neB)) (fun hb => ?_) fun hb => d_next ?_)
      · have hb : (partR R N).pt m (e.2 * m + k + 1) = true := by
          rw [hpt, bne_dec]
          exact hb
        exact d_ret (hcat rfl rfl) (hP (some (e.2 * m + k + 1)) ⟨hb, hG.no⟩ fun n z => by
          cases z
          rw [row_snoc hkm, List.length_append]
          show (rowOf m e.2).length + 1 ≤ 20000
          omega)
      have hb : (partR R N).pt m (e.2 * m + k + 1) = false := by
        rw [hpt, bne_dec]
        exact hb
      refine d_ifD (b := !decide ((partR R N).st m (e.2 * m + k + 1) ∈ gs.map (·.1))) (b_test (e_notInN rfl (tg rfl rfl) rfl (hmem gs _))) (fun hb2 => ?_) fun hb2 => d_next ⟨gs, ⟨hG.old hb (by simpa using hb2), hgp, hgd⟩, by walk_at "fg"⟩
      have hn : (partR R N).st m (e.2 * m + k + 1) ∉ gs.map (·.1) := by simpa using hb2
      refine d_seq (d_putN (U := V0 w) (v := .bl true) rfl e_bl (tg rfl rfl) rfl (fun z => hn (of_decide_eq_true ((hmem gs _).mpr z))) bl_val (by rw [kn2_len, List.length_map]; omega) ?_)
      refine d_app (d := qI m ((partR R N).st m (e.2 * m + k + 1), e.2 * m + k + 1)) rfl (e_tup (ds := [pD ((partR R N).st m (e.2 * m + k + 1)), iLot (rowOf m (e.2 * m + k + 1))]) (ea_cons (tg rfl rfl) (ea_cons (hcat rfl rfl) ea_nil))) (by rw [List.length_map]; omega) ⟨gs ++ [((partR R N).st m (e.2 * m + k + 1), e.2 * m + k + 1)], ⟨hG.new hb hn, get_app hgp, hgd.snoc hgp hkm⟩, ?_⟩
      show Fg _ _
      have ek : kn2 ((gs ++ [((partR R N).st m (e.2 * m + k + 1), e.2 * m + k + 1)]).map (·.1)) = kn2 (gs.map (·.1)) ++ [(pD ((partR R N).st m (e.2 * m + k + 1)), .bl true)] := by rw [List.map_append]; exact kn2_snoc _ _
      rw [ek, List.map_append]
      walk_at "fg"
    · obtain ⟨hG, hgp, hgd⟩ := hx
      rw [rngD_len] at hG
      have hl2 : t < gs.length := (List.getElem?_eq_some_iff.mp hgp).1
      exact ⟨gs, ⟨hG.nd, hG.st, hl2, hG.turn hm hgp, hgd⟩, by walk_at "fg"⟩
  · obtain ⟨hnd, hst, hle, _, _⟩ := hx
    have hle60 := lt qs hnd hst
    rw [rngD_len] at hle
    omega
/-! ### _law_of_list -/
abbrev s__law_of_list : Stmt := topS 62
theorem sc__law_of_list : FnScope ["_law_lots_here", "_law_every", "_law_begin", "_law_stands", "_law_numbers", "_law_moves_here", "_law_turn", "_law_mine", "_law_kind", "_law_fitting", "_law_goal", "_law_seat"] ["_law_lots_here", "_law_every"] (defScope s__law_of_list) := ⟨rfl, rfl, rfl, by decide +kernel, rfl, by decide +kernel, by decide +kernel⟩
theorem bd__law_of_list : Bd "_law_of_list" s__law_of_list ["_law_lots_here", "_law_every"] := fun _ _ _ _ _ _ us hl => match us, hl with | [_, _], _ => rfl
def aOfList (ev : List Str) (m : Nat) : Ask := fun ss P => ∃ L : Lots, ValidL m L ∧ L.length ≤ 60 ∧ ss = [.dat (eLots ev L), .rl (ev.map .str)] ∧ ∀ M : Moves, (M.length ≤ 60 → RuleOk M m ∧ Sim M m 0 L ∧ ∃ tt : List (List Nat), tt.length ≤ 60 ∧ ∀ t, ReachT m L t → t ∈ tt) → ((∃ tt : List (List Nat), tt.length ≤ 60 ∧ ∀ t, ReachT m L t → t ∈ tt) → M.length ≤ 60) → M.length ≤ 4000 → P (.dat (eMoves M))
theorem fineOfList (ev : List Str) (m : Nat) : Fine (aOfList ev m) 2 := ⟨fun ss P ⟨_, _, _, e, _⟩ => by subst e; exact ⟨rfl, fun s hs => by simp at hs; rcases hs with h | h <;> subst h <;> rfl⟩⟩
theorem cOfList (h : MkOk mk ev m) (hm : 0 < m) (M : Mf mg) (D : Dn K mg "_law_of_list" s__law_of_list) : Cal P w K mg base 1 "_law_of_list" (spD (V0 w) (aOfList ev m)) [] := by
  have sc := sc__law_of_list
  refine cal_of D sc bd__law_of_list (fineOfList ev m) (by decide) fun f cdv A' outer s H E hr => ⟨_, (pss_cons (ps_set (i := 2) sc.nd rfl (by first | exact .inl rfl | exact .inr rfl) (pe_tupRg rfl (by rfl) M.tuple_ (prg_1 (by rfl) M.range_ (pe_callB (show CallR _ _ (rLen K) from call_len_seq) (by rfl) M.len_ PySem.boot_len (pa_cons (pv 0) pa_nil)))))
      (pss_cons (ps_set (i := 3) sc.nd rfl (by first | exact .inl rfl | exact .inr rfl) (pe_lst (pa_cons (pv 2) pa_nil)))
      (pss_cons (ps_set (i := 4) sc.nd rfl (by first | exact .inl rfl | exact .inr rfl) (show PE _ _ (tNNew w) from pe_nnew))
      (pss_cons (show PS _ _ (sNPut w _ _ _) from ps_nput hr.units (pv 4) (pv 2) pe_int rfl)
      (pss_cons (ps_set (i := 5) sc.nd rfl (by first | exact .inl rfl | exact .inr rfl) (pe_lst pa_nil))
      (pss_cons (ps_for PassesOwn.never rfl (pi_range1 (by rfl) M.range_ (pa_cons pe_int pa_nil)) (pg_name (i := 6) sc.nd rfl (by first | exact .inl rfl | exact .inr rfl)) (pss_cons (ps_if (pt_cmpR op_ge (pv 6) (pe_callB (show CallR _ _ (rLen K) from call_len_seq) (by rfl) M.len_ PySem.boot_len (pa_cons (pv 3) pa_nil)) (nomark _)) (pss_one ps_break) pss_nil)
      (pss_cons (ps_set (i := 7) sc.nd rfl (by first | exact .inl rfl | exact .inr rfl) (pe_lst pa_nil))
      (pss_cons (ps_for PassesOwn.never rfl (show PI _ _ _ (iList K _) from pi_list (pv 1)) (pg_name (i := 8) sc.nd rfl (by first | exact .inl rfl | exact .inr rfl)) (pss_cons (ps_set (i := 9) sc.nd rfl (by first | exact .inl rfl | exact .inr rfl) (pe_lc rfl sc.nd (show PI _ _ _ (iTup K _) from pi_tup (pe_ix (show IxR _ (rIxL K) from ix_list) (pv 3) (pv 6) (fun _ _ => rfl))) (blk_of (N := ["_law_lots_here", "_law_every", "_law_begin", "_law_stands", "_law_numbers", "_law_moves_here", "_law_turn", "_law_mine", "_law_kind", "_law_fitting", "_law_goal", "_law_seat"]) (sc := defScope s__law_of_list) (own := [("_law_seat", 11)]) (by decide +kernel)) (fun _ _ _ _ _ => (pg_name (i := 11) sc.nd rfl (by first | exact .inl rfl | exact .inr rfl))) (fun _ _ _ _ _ => (pts_one (pt_cmpR (show OpR _ _ (rIn K false) from op_in_seq) (pv 8) (pe_ix (show IxR _ (rIxT K) from ix_tup) (pv 0) (pv 11) (fun _ _ => rfl)) (by rfl)))) (fun _ _ _ _ _ => (pv 11))))
      (pss_cons (ps_set (i := 10) sc.nd rfl (by first | exact .inl rfl | exact .inr rfl) (pe_ix (show IxR _ (rIxL K) from ix_list) (pv 3) (pv 6) (fun _ _ => rfl)))
      (pss_cons (ps_if (pt_cmpR op_gt (pe_callB (show CallR _ _ (rLen K) from call_len_seq) (by rfl) M.len_ PySem.boot_len (pa_cons (pv 9) pa_nil)) pe_int (nomark _)) (pss_one (ps_set (i := 10) sc.nd rfl (by first | exact .inl rfl | exact .inr rfl) (show PE _ _ (tThen _ (kTup K)) from pe_tupleOf (by rfl) M.tuple_ (pe_lc rfl sc.nd (show PI _ _ _ (iTup K _) from pi_tup (pv 10)) (blk_of (N := ["_law_lots_here", "_law_every", "_law_begin", "_law_stands", "_law_numbers", "_law_moves_here", "_law_turn", "_law_mine", "_law_kind", "_law_fitting", "_law_goal", "_law_seat"]) (sc := defScope s__law_of_list) (own := [("_law_seat", 11)]) (by decide +kernel)) (fun _ _ _ _ _ => (pg_name (i := 11) sc.nd rfl (by first | exact .inl rfl | exact .inr rfl))) (fun _ _ _ _ _ => (pts_one (pt_cmpR op_ne (pv 11) (pe_ix (show IxR _ (rIxL K) from ix_list) (pv 9) pe_int (fun _ _ => rfl)) (nomark _)))) (fun _ _ _ _ _ => (pv 11)))))) pss_nil)
      (pss_cons (ps_if (pt_cmpR (show OpR _ _ (rNIn w true) from (op_notInN hr.units)) (pv 10) (pv 4) (by rfl)) (pss_cons (show PS _ _ (sNPut w _ _ _) from ps_nput hr.units (pv 4) (pv 10) (pe_callB (show CallR _ _ (rLen K) from call_len_seq) (by rfl) M.len_ PySem.boot_len (pa_cons (pv 3) pa_nil)) rfl)
      (pss_one (ps_expr (show PE _ _ (tBM K _ _ _ _) from pe_bm PySem.F.plainAttrs_list PySem.F.slot_list_append PySem.F.type_list_append mt_append (pv 3) (pa_cons (pv 10) pa_nil))))) pss_nil)
      (pss_one (ps_expr (show PE _ _ (tBM K _ _ _ _) from pe_bm PySem.F.plainAttrs_list PySem.F.slot_list_append PySem.F.type_list_append mt_append (pv 7) (pa_cons (pe_tup (pa_cons (pe_cmpR op_gt (pe_callB (show CallR _ _ (rLen K) from call_len_seq) (by rfl) M.len_ PySem.boot_len (pa_cons (pv 9) pa_nil)) pe_int (nomark _)) (pa_cons (show PE _ _ (tOp (rNGet w) _ _) from pe_nget hr.units (pv 4) (pv 10) (fun _ _ => rfl)) pa_nil))) pa_nil)))))))))
      (pss_one (ps_expr (show PE _ _ (tBM K _ _ _ _) from pe_bm PySem.F.plainAttrs_list PySem.F.slot_list_append PySem.F.type_list_append mt_append (pv 5) (pa_cons (show PE _ _ (tThen _ (kTup K)) from pe_tupleOf (by rfl) M.tuple_ (pv 7)) pa_nil))))))))
      (pss_one (ps_ret (show PE _ _ (tThen _ (kTup K)) from pe_tupleOf (by rfl) M.tuple_ (pv 5)))))))))), ?_⟩
  rintro ss Pp ⟨L, hv, hl, rfl, hP⟩
  have hsm := h.evk.sm
  have inj : ∀ (ls : List (List Nat)) (x : List Nat), ∀ l ∈ ls, iLot l = iLot x → l = x := fun ls x l _ e => iLot_inj.mp e
  have tget : ∀ (t : List Nat) (i : Nat), i < t.length → (iL t)[i]? = some (.int ((t.getD i 0 : Nat) : Int)) := fun t i hi => iL_get hi
  refine d_seq (d_asg (d := iLot (List.range L.length)) ((e_tupRg (n := L.length) (e_cb1 (e_var rfl) (rc_lenTn (List.length_map _))) (by omega)).imp fun s e => by rw [e, rng_iL]; rfl) ?_)
  refine d_seq (d_asgN (ds := [List.range L.length].map iLot) (e_lst (ds := [iLot (List.range L.length)]) (ea_cons (e_var rfl) ea_nil)) ?_)
  refine d_seq (d_asgP (P := (· = .on [])) (e_newN (U := V0 w)) own_on ?_)
  rintro _ rfl
  refine d_seq (d_putN (U := V0 w) (v := .int 0) (ds := iL (List.range L.length)) rfl e_int (e_var rfl) (key_iLot _ 7) (by simp) int_val (by decide) ?_)
  refine d_seq (d_asgN (ds := []) (e_lst (ds := []) ea_nil) ?_)
  have fin : ∀ (ls : List (List Nat)) (rows : Moves), Rof (flagT L) (nextT L) (ReachT m L) m ls rows → ls[0]? = some (List.range L.length) → (rows.length = ls.length ∨ rows.length = 4000) → rows.length ≤ 4000 →
      DS (V0 w) (tRet (tThen (tVar 5) (kTup K))) [some (.dat (eLots ev L)), some (.rl (ev.map .str)), none, none, none, some (.ol (rows.map eRow)), none, none, none, none, none, none] { nx := fun _ => Pp (.dat .non), rt := Pp } := fun ls rows hS h0 hend h4 => by
    refine d_ret (e_tupleD (e_ol rfl)) (hP rows (fun h60 => ?_) (fun ⟨tt, t1, t2⟩ => ?_) h4)
    · have hall : rows.length = ls.length := by omega
      exact ⟨hS.ok hall (List.getElem?_eq_some_iff.mp h0).1, hS.sim hall (fun t C => t.Nodup ∧ C = lotsT L t) (fun t C k ⟨n1, e⟩ hk => by
        obtain ⟨p1, p2⟩ := picT (L := L) (k := k) n1
        rw [e]
        exact ⟨p1, n1.sublist next_sub, p2.symm⟩) h0 ⟨List.nodup_range, (lotsT_all L).symm⟩, ls, by omega, fun t ht => by
          induction ht with
          | base => exact List.mem_of_getElem? h0
          | @step t k _ hk ih =>
            obtain ⟨i, hi⟩ := List.mem_iff_getElem?.mp ih
            exact List.mem_of_getElem? (hS.at_ hall hi hk).2⟩
    · exact Nat.le_trans hS.le (Nat.le_trans (nodup_le ls tt hS.nd fun x hx => t2 x (hS.rc x hx)) t1)
  refine d_seq (d_forS (α := List (List Nat) × Moves) (fun t y => Rof (flagT L) (nextT L) (ReachT m L) m y.1 y.2 ∧ y.2.length = t ∧ y.1[0]? = some (List.range L.length) ∧ y.1.length ≤ 1 + t * 16)
    (fun _ y => [some (.dat (eLots ev L)), some (.rl (ev.map .str)), none, some (.ol (y.1.map iLot)), some (.on (numD iLot y.1)), some (.ol (y.2.map eRow)), none, none, none, none, none, none])
    (i_range1D (n := 4000) e_int (by decide)) ([List.range L.length], []) ⟨⟨.start .base, rfl, rfl, Nat.le_refl 1⟩, by walk_at "fg"⟩ (fun t d y hd hx => ?_) fun y hx => ?_)
  · obtain ⟨ls, rows⟩ := y
    obtain ⟨rfl, ht⟩ := rng0_get hd
    obtain ⟨hS, hlen, h0, hlo⟩ := hx
    have hS : Rof (flagT L) (nextT L) (ReachT m L) m ls rows := hS
    have hlen : rows.length = t := hlen
    have h0 : ls[0]? = some (List.range L.length) := h0
    have hlo : ls.length ≤ 1 + t * 16 := hlo
    refine ⟨_, _, gd_name, ?_⟩
    refine d_seq (d_ifD (b := decide ((ls.length : Int) ≤ (t : Int))) (b_test (e_opD (e_var rfl) (e_cb1 (e_ol rfl) (rc_lenLn (List.length_map _))) rp_ge)) (fun hb => ?_) fun hb => d_next ?_)
    · have hb : ls.length ≤ t := by have z := of_decide_eq_true hb; omega
      refine d_break ?_
      exact d_weak (fin ls rows hS h0 (.inl (by have := hS.le; omega)) (by omega)) (by walk_at "fg")
    have hd : t < ls.length := by have z := of_decide_eq_false hb; omega
    obtain ⟨l, hl⟩ : ∃ l, ls[t]? = some l := ⟨_, List.getElem?_eq_getElem hd⟩
    have hlr := hS.rc l (List.mem_of_getElem? hl)
    have hlt := reachT_lt hlr
    have hln : l.length ≤ 60 := by have := (reachT_sub hlr).length_le; rw [List.length_range] at this; omega
    refine d_seq (d_asgN (ds := []) (e_lst (ds := []) ea_nil) ?_)
    refine d_seq (d_forS (α := List (List Nat) × List (Bool × Nat)) (fun k y => Rof (flagT L) (nextT L) (ReachT m L) m y.1 rows ∧ y.1[0]? = some (List.range L.length) ∧ y.1[t]? = some l ∧ Mine (flagT L) (nextT L) y.1 l k y.2 ∧ y.1.length ≤ 1 + t * 16 + k)
      (fun _ y => [some (.dat (eLots ev L)), some (.rl (ev.map .str)), none, some (.ol (y.1.map iLot)), some (.on (numD iLot y.1)), some (.ol (rows.map eRow)), some (.dat (.int (t : Int))), some (.ol (y.2.map eMv)), none, none, none, none])
      (i_list (l_rl rfl)) (ls, []) ⟨⟨hS, h0, hl, .start, by show ls.length ≤ _; omega⟩, by walk_at "fg"⟩ (fun k d y hd hy => ?_) fun y hy => ?_)
    · obtain ⟨gs, mine⟩ := y
      obtain ⟨hG, g0, gl, hM, glo⟩ := hy
      have hG : Rof (flagT L) (nextT L) (ReachT m L) m gs rows := hG
      have hM : Mine (flagT L) (nextT L) gs l k mine := hM
      have gl : gs[t]? = some l := gl
      have glo : gs.length ≤ 1 + t * 16 + k := glo
      have hkm : k < m := by have z := (List.getElem?_eq_some_iff.mp hd).1; rw [List.length_map, h.evk.len] at z; exact z
      obtain rfl : d = .str (kd ev k) := by
        rw [List.getElem?_map, List.getElem?_eq_getElem (by rw [h.evk.len]; exact hkm)] at hd
        unfold kd
        rw [List.getD_eq_getElem?_getD, List.getElem?_eq_getElem (by rw [h.evk.len]; exact hkm)]
        exact (Option.some.inj hd).symm
      have hnr : ReachT m L (nextT L l k) := .step hlr hkm
      have lget : (gs.map iLot)[t]? = some (iLot l) := by rw [List.getElem?_map, gl]; rfl
      refine ⟨_, _, gd_name, ?_⟩
      refine d_seq (d_asgN (ds := iL (fitT L l k)) (e_lcFn (n := l.length) (fun i => decide (k ∈ L.getD (l.getD i 0) [])) (fun i => .int ((l.getD i 0 : Nat) : Int)) (i_tupD (e_opD (e_ol rfl) (e_var rfl) (rp_ixL lget))) (iL_len l) (by omega) (range_filter l 0 (fun s => decide (k ∈ L.getD s [])) fun s => Dt.int (s : Int)) (fun i d hd => ?_)) ?_)
      · obtain ⟨hi, rfl⟩ := iL_inv (show (iL l)[i]? = some d from hd)
        have his := hlt _ (getD_mem (d := 0) hi)
        refine ⟨_, _, gd_name, by decide, b_test (e_opD (e_var rfl) (e_opD (e_var rfl) (e_var rfl) (rp_ixT (eLots_getD his))) ?_), fun _ => e_var rfl⟩
        rw [← kd_mem h.evk hkm (hv _ (getD_mem his)).2.2]
        exact rp_inT
      refine d_seq (d_asg (d := iLot l) (e_opD (e_ol rfl) (e_var rfl) (rp_ixL lget)) ?_)
      have hfl : (fitT L l k).length ≤ 60 := Nat.le_trans (List.length_filter_le _ _) hln
      have rest : ∀ (G : DE) (gs' : List (List Nat)), (∀ E' : DEnv, (∃ y : List (List Nat) × List (Bool × Nat), (Rof (flagT L) (nextT L) (ReachT m L) m y.1 rows ∧ y.1[0]? = some (List.range L.length) ∧ y.1[t]? = some l ∧ Mine (flagT L) (nextT L) y.1 l (k + 1) y.2 ∧ y.1.length ≤ 1 + t * 16 + (k + 1)) ∧ Fg E' [some (.dat (eLots ev L)), some (.rl (ev.map .str)), none, some (.ol (y.1.map iLot)), some (.on (numD iLot y.1)), some (.ol (rows.map eRow)), some (.dat (.int (t : Int))), some (.ol (y.2.map eMv)), none, none, none, none]) → G.nx E') →
          Rof (flagT L) (nextT L) (ReachT m L) m gs' rows → gs'[0]? = some (List.range L.length) → gs'[t]? = some l → Mine (flagT L) (nextT L) gs' l k mine → nextT L l k ∈ gs' → gs'.length ≤ 1 + t * 16 + (k + 1) →
          DS (V0 w) (tDrop (tBM K "list" rAppend (tVar 7) (tCons (tTup (tCons (tOp (rI0 fun i j => .bl (decide (j < i))) (tCB (rLen K) (tCons (tVar 9) tNil)) (tC (.int 0))) (tCons (tOp (rNGet w) (tVar 4) (tVar 10)) tNil))) tNil)))
            [some (.dat (eLots ev L)), some (.rl (ev.map .str)), none, some (.ol (gs'.map iLot)), some (.on (numD iLot gs')), some (.ol (rows.map eRow)), some (.dat (.int (t : Int))), some (.ol (mine.map eMv)), some (.dat (.str (kd ev k))), some (.rl (iL (fitT L l k))), some (.dat (iLot (nextT L l k))), none] G := fun G gs' hnx a0 a1 a2 a3 a4 a5 => by
        obtain ⟨j, hj⟩ := numD_get a4
        have ef : flagT L l k = decide ((0 : Int) < ((fitT L l k).length : Int)) := by
          unfold flagT
          rw [Bool.eq_iff_iff, decide_eq_true_eq, decide_eq_true_eq]
          omega
        refine d_app (d := eMv (flagT L l k, j)) rfl (e_tup (ds := [.bl (flagT L l k), .int (j : Int)]) (ea_cons (by rw [ef]; exact e_opD (e_cb1 (e_rl rfl) (rc_lenLn (iL_len _))) e_int rp_gt) (ea_cons (e_getN (U := V0 w) (ds := iL (nextT L l k)) rfl (e_var rfl) (key_iLot _ 7) (numD_at (enc := iLot) hj) (fun H => .int _)) ea_nil))) (by rw [List.length_map, a3.len]; omega) (hnx _ ⟨(gs', mine ++ [(flagT L l k, j)]), ⟨a0, a1, a2, a3.snoc hj, a5⟩, ?_⟩)
        show Fg _ _
        rw [List.map_append]
        walk_at "fg"
      have rest2 : ∀ (G : DE), (∀ E' : DEnv, (∃ y : List (List Nat) × List (Bool × Nat), (Rof (flagT L) (nextT L) (ReachT m L) m y.1 rows ∧ y.1[0]? = some (List.range L.length) ∧ y.1[t]? = some l ∧ Mine (flagT L) (nextT L) y.1 l (k + 1) y.2 ∧ y.1.length ≤ 1 + t * 16 + (k + 1)) ∧ Fg E' [some (.dat (eLots ev L)), some (.rl (ev.map .str)), none, some (.ol (y.1.map iLot)), some (.on (numD iLot y.1)), some (.ol (rows.map eRow)), some (.dat (.int (t : Int))), some (.ol (y.2.map eMv)), none, none, none, none]) → G.nx E') →
          DS (V0 w) (tSeq (tIfS (tTest (tOp (rNIn w true) (tVar 10) (tVar 4))) (tSeq (sNPut w (tVar 4) (tVar 10) (tCB (rLen K) (tCons (tVar 3) tNil))) (tDrop (tBM K "list" rAppend (tVar 3) (tCons (tVar 10) tNil)))) tNext) (tDrop (tBM K "list" rAppend (tVar 7) (tCons (tTup (tCons (tOp (rI0 fun i j => .bl (decide (j < i))) (tCB (rLen K) (tCons (tVar 9) tNil)) (tC (.int 0))) (tCons (tOp (rNGet w) (tVar 4) (tVar 10)) tNil))) tNil))))
            [some (.dat (eLots ev L)), some (.rl (ev.map .str)), none, some (.ol (gs.map iLot)), some (.on (numD iLot gs)), some (.ol (rows.map eRow)), some (.dat (.int (t : Int))), some (.ol (mine.map eMv)), some (.dat (.str (kd ev k))), some (.rl (iL (fitT L l k))), some (.dat (iLot (nextT L l k))), none] G := fun G hnx => by
        refine d_seq (d_ifD (b := !decide (nextT L l k ∈ gs)) (b_test (e_notInN (ds := iL (nextT L l k)) rfl (e_var rfl) (key_iLot _ 7) (by rw [decide_eq_true_eq]; exact (numD_mem (enc := iLot) (inj gs _)).symm))) (fun hb => ?_) fun hb => d_next ?_)
        · have hn : nextT L l k ∉ gs := by simpa using hb
          refine d_seq (d_putN (U := V0 w) (v := .int (gs.length : Int)) (ds := iL (nextT L l k)) rfl (e_cb1 (e_ol rfl) (rc_lenLn (List.length_map _))) (e_var rfl) (key_iLot _ 7) (fun z => hn ((numD_mem (enc := iLot) (inj gs _)).mp z)) int_val (by rw [numD_len]; omega) ?_)
          refine d_app (d := iLot (nextT L l k)) rfl (e_var rfl) (by rw [List.length_map]; omega) ?_
          refine d_weak (rest _ (gs ++ [nextT L l k]) hnx (hG.ext hn hnr) (get_snoc g0) (get_snoc gl) hM.ext (List.mem_append_right _ List.mem_cons_self) (by rw [List.length_append, List.length_singleton]; omega)) ?_
          rw [List.map_append, numD_snoc]
          walk_at "fg"
        · exact rest _ gs hnx hG g0 gl hM (by simpa using hb) (by omega)
      refine d_seq (d_ifD (b := decide ((0 : Int) < ((fitT L l k).length : Int))) (b_test (e_opD (e_cb1 (e_ol rfl) (rc_lenLn (iL_len _))) e_int rp_gt)) (fun hb => ?_) fun hb => d_next ?_)
      · cases hf : fitT L l k with
        | nil => rw [hf] at hb; cases hb
        | cons s r =>
          have hs0 : (iL (s :: r))[0]? = some (.int (s : Int)) := rfl
          refine d_asg (d := iLot (nextT L l k)) (e_tupleN (e_lcFn (n := l.length) (fun i => !decide (l.getD i 0 = s)) (fun i => .int ((l.getD i 0 : Nat) : Int)) (i_tupD (e_var (d := iLot l) rfl)) (iL_len l) (by omega) (es := iL (nextT L l k)) (by rw [next_cons hf]; exact range_filter l 0 (fun x => !decide (x = s)) fun x => Dt.int (x : Int)) (fun i d hd => ?_))) ?_
          · obtain ⟨hi, rfl⟩ := iL_inv (show (iL l)[i]? = some d from hd)
            refine ⟨_, _, gd_name, by decide, (b_test (e_opD (e_var rfl) (e_opD (e_ol rfl) e_int (rp_ixL (j := 0) hs0)) rp_neI)).imp fun b e => ?_, fun _ => e_var rfl⟩
            rw [e]
            congr 1
            rw [Bool.eq_iff_iff, decide_eq_true_eq, decide_eq_true_eq]
            omega
          · rw [← hf]
            exact d_weak (rest2 _ (fun E' q => q)) (by walk_at "fg")
      · have hf : fitT L l k = [] := by
          have z := of_decide_eq_false hb
          exact List.length_eq_zero_iff.mp (by omega)
        refine d_weak (rest2 _ (fun E' q => q)) ?_
        rw [next_nil hf]
        walk_at "fg"
    · obtain ⟨gs, mine⟩ := y
      obtain ⟨hG, g0, gl, hM, glo⟩ := hy
      rw [List.length_map, h.evk.len] at hM glo
      have glo : gs.length ≤ 1 + t * 16 + m := glo
      refine d_app (d := eRow mine) rfl (e_tupleD (e_ol rfl)) (by rw [List.length_map]; omega) ⟨(gs, rows ++ [mine]), ⟨hG.row (by rw [hlen]; exact gl) hM, by show (rows ++ [mine]).length = t + 1; rw [List.length_append, hlen]; rfl, g0, by show gs.length ≤ 1 + (t + 1) * 16; omega⟩, ?_⟩
      show Fg _ _
      rw [List.map_append]
      walk_at "fg"
  · obtain ⟨ls, rows⟩ := y
    obtain ⟨hS, hlen, h0, _⟩ := hx
    rw [rngD_len] at hlen
    have hlen : rows.length = 4000 := hlen
    exact d_weak (fin ls rows hS h0 (.inr hlen) (by omega)) (by walk_at "fg")
end
end K13
end
section
set_option Elab.async false
set_option linter.all false
set_option maxRecDepth 100000
set_option maxHeartbeats 4000000
set_option autoImplicit false
/-! list(x), one list under two names, a key put again, searches from a list -/
namespace K13
open PySem PySem.Spec PyProof.Rows L2
def rLst (K : PySem.W.Frag) : List V → Hp → VK → Prop := fun xs H Q => ∃ p ys, xs = [.ref p] ∧ (SqL K H p ys ∨ SqT K H p ys) ∧ ∀ l, H l = none → Q (.ref l) (upd H l (.lst ys))
section
variable {U : Vol} {E : DEnv} {G : DE} {K : PySem.W.Frag} {i j : Nat} {ds : List Dt}
theorem rc_lstL : RC U (rLst K) [.rl ds] (· = .ol ds) := fun H vs iv h Q q => by
  obtain ⟨v, rfl, a, xs, rfl, ha, _, hs⟩ := h.one
  exact ⟨a, xs, rfl, .inl (.of ha), fun p np => Post.newL q rfl iv hs np⟩
theorem rc_lstT : RC U (rLst K) [.dat (.tup ds)] (· = .ol ds) := fun H vs iv h Q q => by
  obtain ⟨v, rfl, h'⟩ := h.one
  obtain ⟨a, xs, rfl, ha, hs⟩ := DT.tup_inv h'
  exact ⟨a, xs, rfl, .inr (.of ha), fun p np => Post.newL q rfl iv hs np⟩
/-- y = x, a list that is read -/
theorem d_alias (h : E[j]? = some (some (.rl ds))) (k : G.nx (E.set i (some (.rl ds)))) : DS U (tAsg (tVar j) (gName i)) E G := fun D H0 σ H S F => by
  obtain ⟨v, h1, h2, h3⟩ := S.sl j _ h
  refine ⟨v, h1, F.nx _ _ _ k ⟨by rw [List.length_set, List.length_set]; exact S.len, S.xt, S.inv, fun q t e => ?_, fun q r t u y ne e1 e2 o m e3 e4 => ?_⟩⟩
  · rcases set_get e with ⟨rfl, e, hl⟩ | ⟨ne, e⟩
    · cases e
      exact ⟨v, by rw [List.getElem?_set_self (by rw [← S.len]; exact hl)], h2, fun z => by cases z⟩
    · obtain ⟨y, g1, g2⟩ := S.sl q t e
      exact ⟨y, by rw [List.getElem?_set_ne (Ne.symm ne)]; exact g1, g2⟩
  · rcases set_get e1 with ⟨_, f1, _⟩ | ⟨n1, f1⟩
    · cases f1
      cases o
    · rw [List.getElem?_set_ne (Ne.symm n1)] at e3
      rcases set_get e2 with ⟨hr, f2, hl⟩ | ⟨n2, f2⟩
      · rw [hr, List.getElem?_set_self (by rw [← S.len]; exact hl)] at e4
        cases e4
        by_cases hqj : q = j
        · rw [hqj, h] at f1
          cases f1
          cases o
        · exact S.sep q j t _ v hqj f1 h o rfl e3 h1
      · rw [List.getElem?_set_ne (Ne.symm n2)] at e4
        exact S.sep q r t u y ne f1 f2 o m e3 e4
/-- d[k] = v once more, the value the same -/
theorem d_putNs {kvs : List (Dt × V)} {ta tv : TE} {v : V} {dv : Dt} (h : E[i]? = some (some (.on kvs))) (hte : EvD U tv E dv) (ht : EvD U ta E (.tup ds)) (hk : keyB 8 (.tup ds) = true) (hn : Dt.tup ds ∈ kvs.map (·.1)) (hall : ∀ p ∈ kvs, p.2 = v) (hv : ∀ H y, DT H y dv → y = v) (hl : kvs.length < 1000000)
    (k : G.nx (E.set i (some (.on kvs)))) : DS U (sNPut U.w (tVar i) ta tv) E G := fun D H0 σ H S F => hte H0 σ H S _ fun y H1 s x1 i1 p1 n1 => by
  subst p1
  obtain rfl := hv H1 y n1.1
  have S1 := S.go x1 i1
  obtain ⟨w, hw, ⟨a, xs, rfl, ha, nb, nk⟩, _⟩ := S1.sl i _ h
  refine ⟨_, hw, ht H0 σ H1 S1 _ fun x H2 s x2 i2 p2 n2 => ?_⟩
  subst p2
  obtain ⟨c, rfl⟩ := dt_ref n2.1
  have ha2 := x2.1 a _ ha nb
  have nk2 := nk.kp x2.kp
  have hyes : hasN xs (nkOf (.tup ds)) = true := (nk.has hk).mpr hn
  have e2 : putN xs (nkOf (.tup ds)) c y = xs := by
    unfold putN
    rw [hyes, if_pos rfl]
  refine ⟨a, c, _, xs, kvs, rfl, rfl, n2.1, hk, ha2, nk2, fun e he _ => nk.all (Pv := (· = y)) hall e he, by rw [nk.len]; exact Nat.lt_of_lt_of_le hl (by decide), ?_⟩
  rw [e2]
  exact F.nx _ _ _ k ((S1.go x2 i2).turnO h rfl rfl hw ha2 rfl nb ord_nd fun H' kp h1 h2 => ⟨a, _, rfl, h1, h2, nk2.kp kp⟩)
end
/-! ### a search that begins with any list -/
structure Src (next : Nat × Nat → Nat → Nat × Nat) (R : Nat × Nat → Prop) (m : Nat) (B gs : List (Nat × Nat)) (done k : Nat) : Prop where
  nd : gs.Nodup
  dj : ∀ p ∈ gs, p ∉ B
  rc : ∀ p ∈ B ++ gs, R p
  le : done ≤ (B ++ gs).length
  cl : ∀ i p, i < done → (B ++ gs)[i]? = some p → ∀ j < m, next p j ∈ B ++ gs
  cr : ∀ p, (B ++ gs)[done]? = some p → ∀ j < k, next p j ∈ B ++ gs
section
variable {next : Nat × Nat → Nat → Nat × Nat} {R : Nat × Nat → Prop} {m : Nat} {B gs : List (Nat × Nat)} {done k : Nat} {p : Nat × Nat}
theorem Src.start (h : ∀ p ∈ B, R p) : Src next R m B [] 0 0 := ⟨by simp, (fun p hp => by cases hp), fun p hp => h p (by simpa using hp), Nat.zero_le _, fun _ _ h => by omega, fun _ _ j h => by omega⟩
theorem Src.old (h : Src next R m B gs done k) (hp : (B ++ gs)[done]? = some p) (hm : next p k ∈ B ++ gs) : Src next R m B gs done (k + 1) :=
  ⟨h.nd, h.dj, h.rc, h.le, h.cl, fun q hq j hj => by
    rw [hp] at hq
    cases hq
    by_cases e : j = k
    · rw [e]; exact hm
    · exact h.cr p hp j (by omega)⟩
theorem Src.new (h : Src next R m B gs done k) (hp : (B ++ gs)[done]? = some p) (hm : next p k ∉ B ++ gs) (hR : R (next p k)) : Src next R m B (gs ++ [next p k]) done (k + 1) := by
  have ea : B ++ (gs ++ [next p k]) = (B ++ gs) ++ [next p k] := by rw [List.append_assoc]
  have hl : done < (B ++ gs).length := (List.getElem?_eq_some_iff.mp hp).1
  have back : ∀ {i : Nat} {q : Nat × Nat}, i ≤ done → (B ++ (gs ++ [next p k]))[i]? = some q → (B ++ gs)[i]? = some q := fun {i q} hi hq => by
    rw [ea, List.getElem?_append_left (by omega)] at hq
    exact hq
  have up : ∀ {q : Nat × Nat}, q ∈ B ++ gs → q ∈ B ++ (gs ++ [next p k]) := fun {q} hq => by rw [ea]; exact List.mem_append_left _ hq
  refine ⟨nodup_snoc h.nd fun z => hm (List.mem_append_right _ z), fun q hq => ?_, fun q hq => ?_, by rw [ea, List.length_append]; omega, fun i q hi hq j hj => ?_, fun q hq j hj => ?_⟩
  · rcases List.mem_append.mp hq with hq | hq
    · exact h.dj q hq
    · rw [List.mem_singleton.mp hq]
      exact fun z => hm (List.mem_append_left _ z)
  · rw [ea] at hq
    rcases List.mem_append.mp hq with hq | hq
    · exact h.rc q hq
    · rw [List.mem_singleton.mp hq]; exact hR
  · exact up (h.cl i q hi (back (by omega) hq) j hj)
  · have hq := back (Nat.le_refl _) hq
    rw [hp] at hq
    cases hq
    by_cases e : j = k
    · rw [e, ea]; exact List.mem_append_right _ List.mem_cons_self
    · exact up (h.cr p hp j (by omega))
theorem Src.turn (h : Src next R m B gs done m) (hl : done < (B ++ gs).length) : Src next R m B gs (done + 1) 0 :=
  ⟨h.nd, h.dj, h.rc, hl, fun i q hi hq j hj => by
    by_cases e : i = done
    · subst e
      exact h.cr q hq j hj
    · exact h.cl i q (by omega) hq j hj, fun _ _ j hj => by omega⟩
theorem Src.all (h : Src next R m B gs done 0) (hl : (B ++ gs).length ≤ done) : ∀ p ∈ B ++ gs, ∀ j < m, next p j ∈ B ++ gs := fun p hp j hj => by
  obtain ⟨i, hi, e⟩ := List.mem_iff_getElem.mp hp
  exact h.cl i p (by omega) (by rw [List.getElem?_eq_getElem hi, e]) j hj
theorem Src.nodup (h : Src next R m B gs done k) (hB : B.Nodup) : (B ++ gs).Nodup := by
  rw [List.nodup_append]
  exact ⟨hB, h.nd, fun x hx y hy e => h.dj y hy (e ▸ hx)⟩
end
end K13
end
section
set_option Elab.async false
set_option linter.all false
set_option maxRecDepth 100000
set_option maxHeartbeats 4000000
set_option autoImplicit false
local macro_rules | `(tactic| walk_at "fg") => `(tactic| (repeat' (first | exact True.intro | exact rfl | constructor)))
namespace K13
open PySem PySem.Spec PyProof.Rows L2 C8 NdefX LamX
theorem nd_no {p : Prop} [Decidable p] (h : (!decide p) = false) : p := by simpa using h
theorem nd_yes {p : Prop} [Decidable p] (h : (!decide p) = true) : ¬ p := by simpa using h
section
variable {P : Program} {w : World} {K : PySem.W.Frag} {mg : Str → Option Value} {base : Heap} {mk : Str} {ev : List Str} {m : Nat}
/-! ### _law_reach -/
abbrev s__law_reach : Stmt := topS 64
theorem sc__law_reach : FnScope ["_law_moves_here", "_law_begins", "_law_found", "_law_known", "_law_pair", "_law_turn", "_law_one", "_law_other", "_law_number"] ["_law_moves_here", "_law_begins"] (defScope s__law_reach) := ⟨rfl, rfl, rfl, by decide +kernel, rfl, by decide +kernel, by decide +kernel⟩
theorem bd__law_reach : Bd "_law_reach" s__law_reach ["_law_moves_here", "_law_begins"] := fun _ _ _ _ _ _ us hl => match us, hl with | [_, _], _ => rfl
def aReach (m : Nat) : Ask := fun ss P => ∃ (M : Moves) (B : List (Nat × Nat)), RuleOk M m ∧ M.length ≤ 60 ∧ B.length ≤ 10000 ∧ (∀ p ∈ B, p.1 < M.length ∧ p.2 < M.length) ∧ ss = [.dat (eMoves M), .rl (B.map pD)] ∧
  ∀ fs : List (Nat × Nat), fs.length ≤ 20000 → (B.Nodup → fs.Nodup) → (∀ p, p ∈ fs ↔ Reach2 M m (· ∈ B) p) → P (.ol (fs.map pD))
theorem fineReach (m : Nat) : Fine (aReach m) 2 := ⟨fun ss P ⟨_, _, _, _, _, _, e, _⟩ => by subst e; exact ⟨rfl, fun s hs => by simp at hs; rcases hs with h | h <;> subst h <;> rfl⟩⟩
theorem cReach (hm16 : m ≤ 16) (M : Mf mg) (D : Dn K mg "_law_reach" s__law_reach) : Cal P w K mg base 1 "_law_reach" (spD (V0 w) (aReach m)) [] := by
  have sc := sc__law_reach
  refine cal_of D sc bd__law_reach (fineReach m) (by decide) fun f cdv A' outer s H E hr => ⟨_, (pss_cons (ps_set (i := 2) sc.nd rfl (by first | exact .inl rfl | exact .inr rfl) (pe_callTy (show CallR _ _ (rLst K) from call_list_of) (by rfl) M.list_ boot_list (pa_cons (pv 1) pa_nil)))
      (pss_cons (ps_set (i := 3) sc.nd rfl (by first | exact .inl rfl | exact .inr rfl) (show PE _ _ (tNNew w) from pe_nnew))
      (pss_cons (ps_for PassesOwn.never rfl (show PI _ _ _ (iList K _) from pi_list (pv 1)) (pg_name (i := 4) sc.nd rfl (by first | exact .inl rfl | exact .inr rfl)) (pss_one (show PS _ _ (sNPut w _ _ _) from ps_nput hr.units (pv 3) (pv 4) pe_bl rfl)))
      (pss_cons (ps_for PassesOwn.never rfl (pi_range1 (by rfl) M.range_ (pa_cons pe_int pa_nil)) (pg_name (i := 5) sc.nd rfl (by first | exact .inl rfl | exact .inr rfl)) (pss_cons (ps_if (pt_cmpR op_ge (pv 5) (pe_callB (show CallR _ _ (rLen K) from call_len_seq) (by rfl) M.len_ PySem.boot_len (pa_cons (pv 2) pa_nil)) (nomark _)) (pss_one ps_break) pss_nil)
      (pss_cons (ps_asg (pe_ix (show IxR _ (rIxL K) from ix_list) (pv 2) (pv 5) (fun _ _ => rfl)) (show PG _ _ (gTup K 2 _) from pg_tup rfl (pgs_cons (pg_name (i := 6) sc.nd rfl (by first | exact .inl rfl | exact .inr rfl)) (pgs_cons (pg_name (i := 7) sc.nd rfl (by first | exact .inl rfl | exact .inr rfl)) pgs_nil))))
      (pss_one (ps_for PassesOwn.never rfl (pi_range1 (by rfl) M.range_ (pa_cons (pe_callB (show CallR _ _ (rLen K) from call_len_seq) (by rfl) M.len_ PySem.boot_len (pa_cons (pe_ix (show IxR _ (rIxT K) from ix_tup) (pv 0) pe_int (fun _ _ => rfl)) pa_nil)) pa_nil)) (pg_name (i := 8) sc.nd rfl (by first | exact .inl rfl | exact .inr rfl)) (pss_cons (ps_set (i := 4) sc.nd rfl (by first | exact .inl rfl | exact .inr rfl) (pe_tup (pa_cons (pe_ix (show IxR _ (rIxT K) from ix_tup) (pe_ix (show IxR _ (rIxT K) from ix_tup) (pe_ix (show IxR _ (rIxT K) from ix_tup) (pv 0) (pv 6) (fun _ _ => rfl)) (pv 8) (fun _ _ => rfl)) pe_int (fun _ _ => rfl)) (pa_cons (pe_ix (show IxR _ (rIxT K) from ix_tup) (pe_ix (show IxR _ (rIxT K) from ix_tup) (pe_ix (show IxR _ (rIxT K) from ix_tup) (pv 0) (pv 7) (fun _ _ => rfl)) (pv 8) (fun _ _ => rfl)) pe_int (fun _ _ => rfl)) pa_nil))))
      (pss_one (ps_if (pt_cmpR (show OpR _ _ (rNIn w true) from (op_notInN hr.units)) (pv 4) (pv 3) (by rfl)) (pss_cons (show PS _ _ (sNPut w _ _ _) from ps_nput hr.units (pv 3) (pv 4) pe_bl rfl)
      (pss_one (ps_expr (show PE _ _ (tBM K _ _ _ _) from pe_bm PySem.F.plainAttrs_list PySem.F.slot_list_append PySem.F.type_list_append mt_append (pv 2) (pa_cons (pv 4) pa_nil))))) pss_nil))))))))
      (pss_one (ps_ret (pv 2))))))), ?_⟩
  rintro ss Pp ⟨R, B, hR, hl, hBl, hB, rfl, hP⟩
  have lt : ∀ gs : List (Nat × Nat), gs.Nodup → (∀ p ∈ B ++ gs, Reach2 R m (· ∈ B) p) → gs.length ≤ 3600 := fun gs h1 h2 => by
    have q := nodup_pairs (N := 60) h1 fun x hx => by
      have := reach2_lt hR hB (h2 x (List.mem_append_right _ hx))
      omega
    exact q
  refine d_seq (d_asgN (ds := B.map pD) (e_cb1 (e_rl rfl) rc_lstL) ?_)
  refine d_seq (d_asgP (P := (· = .on [])) (e_newN (U := V0 w)) own_on ?_)
  rintro _ rfl
  -- the keys: the pairs begun with, each once
  refine d_seq (d_forS (α := List (Nat × Nat)) (fun i ks => ks.Nodup ∧ ks.length ≤ i ∧ ∀ p, p ∈ ks ↔ p ∈ B.take i) (fun _ ks => [some (.dat (eMoves R)), some (.rl (B.map pD)), some (.ol (B.map pD)), some (.on (kn2 ks)), none, none, none, none, none]) (i_list (l_rl rfl)) [] ⟨⟨by simp, Nat.le_refl _, by simp⟩, by walk_at "fg"⟩ (fun i d ks hd hx => ?_) fun ks hx => ?_)
  · obtain ⟨hi, rfl⟩ := pD_inv hd
    obtain ⟨k1, k2, k3⟩ := hx
    have tk : ∀ p, p ∈ B.take (i + 1) ↔ p ∈ B.take i ∨ p = B.getD i (0, 0) := fun p => by
      rw [List.take_add_one, List.getElem?_eq_getElem hi, List.getD_eq_getElem?_getD, List.getElem?_eq_getElem hi, List.mem_append]
      simp
    generalize B.getD i (0, 0) = b at tk
    refine ⟨_, _, gd_name, ?_⟩
    by_cases hb : b ∈ ks
    · refine d_putNs (U := V0 w) (v := .bl true) (ds := [.int (b.1 : Int), .int (b.2 : Int)]) rfl e_bl (e_var rfl) rfl (kn2_mem.mpr hb) (fun p hp => by unfold kn2 at hp; obtain ⟨x, _, rfl⟩ := List.mem_map.mp hp; rfl) bl_val (by rw [kn2_len]; omega) ⟨ks, ⟨k1, by omega, fun p => ?_⟩, by walk_at "fg"⟩
      rw [k3, tk]
      constructor
      · intro z; exact .inl z
      · rintro (z | z)
        · exact z
        · rw [z]; exact (k3 b).mp hb
    · refine d_putN (U := V0 w) (v := .bl true) (ds := [.int (b.1 : Int), .int (b.2 : Int)]) rfl e_bl (e_var rfl) rfl (fun z => hb (kn2_mem.mp z)) bl_val (by rw [kn2_len]; omega) ⟨ks ++ [b], ⟨nodup_snoc k1 hb, by rw [List.length_append, List.length_singleton]; omega, fun p => ?_⟩, ?_⟩
      · rw [List.mem_append, k3, tk, List.mem_singleton]
      · show Fg _ _
        rw [kn2_snoc]
        walk_at "fg"
  obtain ⟨k1, k2, k3⟩ := hx
  rw [List.length_map] at k2 k3
  rw [List.take_length] at k3
  have mem : ∀ gs p, p ∈ ks ++ gs ↔ p ∈ B ++ gs := fun gs p => by rw [List.mem_append, List.mem_append, k3]
  have fin : ∀ gs, Src (stp R) (Reach2 R m (· ∈ B)) m B gs (B ++ gs).length 0 → Pp (.ol ((B ++ gs).map pD)) := fun gs hG => by
    have hgl := lt gs hG.nd hG.rc
    refine hP (B ++ gs) (by rw [List.length_append]; omega) hG.nodup (reach_all (fun p hp => List.mem_append_left _ hp) (hG.all (Nat.le_refl _)) hG.rc)
  refine d_seq (d_forS (α := List (Nat × Nat)) (fun t gs => Src (stp R) (Reach2 R m (· ∈ B)) m B gs t 0)
    (fun _ gs => [some (.dat (eMoves R)), some (.rl (B.map pD)), some (.ol ((B ++ gs).map pD)), some (.on (kn2 (ks ++ gs))), none, none, none, none, none])
    (i_range1D (n := 20000) e_int (by decide)) [] ⟨.start fun p hp => .base hp, by rw [List.append_nil, List.append_nil]; walk_at "fg"⟩ (fun t d gs hd hS => ?_) fun gs hS => ?_)
  · obtain ⟨rfl, ht⟩ := rng0_get hd
    have hgl := lt gs hS.nd hS.rc
    have hlen : (B ++ gs).length ≤ 13600 := by rw [List.length_append]; omega
    refine ⟨_, _, gd_name, ?_⟩
    refine d_seq (d_ifD (b := decide (((B ++ gs).length : Int) ≤ (t : Int))) (b_test (e_opD (e_var rfl) (e_cb1 (e_ol rfl) (rc_lenLn (List.length_map _))) rp_ge)) (fun hb => ?_) fun hb => d_next ?_)
    · have hb : (B ++ gs).length ≤ t := by have z := of_decide_eq_true hb; omega
      have ht : t = (B ++ gs).length := Nat.le_antisymm hS.le hb
      rw [ht] at hS
      exact d_break (d_retO rfl (fin gs hS))
    have hd : t < (B ++ gs).length := by have z := of_decide_eq_false hb; omega
    obtain ⟨p, hp⟩ : ∃ p, (B ++ gs)[t]? = some p := ⟨_, List.getElem?_eq_getElem hd⟩
    have hpR := hS.rc p (List.mem_of_getElem? hp)
    have hpl := reach2_lt hR hB hpR
    have hg : ((B ++ gs).map pD)[t]? = some (pD p) := by rw [List.getElem?_map, hp]; rfl
    refine d_seq (d_unp (e_opD (e_ol rfl) (e_var rfl) (rp_ixL hg)) (gd_tup (gds_cons gd_name (gds_cons gd_name gds_nil))) ?_)
    refine d_forS (α := List (Nat × Nat)) (fun k gs => Src (stp R) (Reach2 R m (· ∈ B)) m B gs t k ∧ (B ++ gs)[t]? = some p) (fun _ gs => [some (.dat (eMoves R)), some (.rl (B.map pD)), some (.ol ((B ++ gs).map pD)), some (.on (kn2 (ks ++ gs))), none, some (.dat (.int (t : Int))), some (.dat (.int (p.1 : Int))), some (.dat (.int (p.2 : Int))), none])
      (i_range1D (n := m) (e_cb1 (e_row (s := 0) (e_var rfl) e_int hR.pos) (rc_lenTn (row_len hR hR.pos))) (by omega)) gs ⟨⟨hS, hp⟩, by walk_at "fg"⟩ (fun k d gs hd hx => ?_) fun gs hx => ?_
    · obtain ⟨rfl, hk⟩ := rng0_get hd
      obtain ⟨hG, hgp⟩ := hx
      have hgl := lt gs hG.nd hG.rc
      refine ⟨_, _, gd_name, d_seq (d_asg (d := pD (stp R p k)) (e_tup (ds := [.int ((mvR R p.1 k).2 : Int), .int ((mvR R p.2 k).2 : Int)]) (ea_cons (e_goal hR (e_var rfl) (e_var rfl) (e_var rfl) hpl.1 hk) (ea_cons (e_goal hR (e_var rfl) (e_var rfl) (e_var rfl) hpl.2 hk) ea_nil))) ?_)⟩
      refine d_ifD (b := !decide (stp R p k ∈ B ++ gs)) (b_test (e_notInN (ds := [.int ((stp R p k).1 : Int), .int ((stp R p k).2 : Int)]) rfl (e_var rfl) rfl (by rw [decide_eq_true_eq, ← mem]; exact kn2_mem.symm))) (fun hb => ?_) fun hb => d_next ⟨gs, ⟨hG.old hgp (nd_no hb), hgp⟩, by walk_at "fg"⟩
      have hn : stp R p k ∉ B ++ gs := nd_yes hb
      refine d_seq (d_putN (U := V0 w) (v := .bl true) (ds := [.int ((stp R p k).1 : Int), .int ((stp R p k).2 : Int)]) rfl e_bl (e_var rfl) rfl (fun z => hn ((mem gs _).mp (kn2_mem.mp z))) bl_val (by rw [kn2_len, List.length_append]; omega) ?_)
      refine d_app (d := pD (stp R p k)) rfl (e_var rfl) (by rw [List.length_map, List.length_append]; omega) ⟨gs ++ [stp R p k], ⟨hG.new hgp hn (.step hpR hk), by rw [← List.append_assoc]; exact get_app hgp⟩, ?_⟩
      show Fg _ _
      rw [show (B ++ (gs ++ [stp R p k])).map pD = (B ++ gs).map pD ++ [pD (stp R p k)] by rw [← List.append_assoc, List.map_append]; rfl, show kn2 (ks ++ (gs ++ [stp R p k])) = kn2 (ks ++ gs) ++ [(pD (stp R p k), .bl true)] by rw [← List.append_assoc]; exact kn2_snoc _ _]
      walk_at "fg"
    · obtain ⟨hG, hgp⟩ := hx
      rw [rngD_len] at hG
      exact ⟨gs, hG.turn (List.getElem?_eq_some_iff.mp hgp).1, by walk_at "fg"⟩
  · have hgl := lt gs hS.nd hS.rc
    have hle := hS.le
    rw [rngD_len, List.length_append] at hle
    omega
/-! ### _law_never_back -/
abbrev s__law_never_back : Stmt := topS 65
theorem sc__law_never_back : FnScope ["_law_moves_here", "_law_stands", "_law_begins", "_law_at", "_law_number", "_law_flag_here", "_law_goal", "_law_later", "_law_more", "_law_fewer", "_law_one", "_law_other"] ["_law_moves_here"] (defScope s__law_never_back) := ⟨rfl, rfl, rfl, by decide +kernel, rfl, by decide +kernel, by decide +kernel⟩
theorem bd__law_never_back : Bd "_law_never_back" s__law_never_back ["_law_moves_here"] := fun _ _ _ _ _ _ us hl => match us, hl with | [_], _ => rfl
def fstD : Dt → Dt
  | .tup (d :: _) => d
  | _ => .non
theorem fst_all (fs : List (Nat × Nat)) : (fs.map pD).map fstD = iL (fs.map (·.1)) := by
  unfold iL
  rw [List.map_map, List.map_map]
  rfl
/-- the first ones of what is reached -/
theorem e_firsts {U : Vol} {E : DEnv} {tl : TE} {Q : List (Nat × Nat) → Prop} {vs : List Nat} {i1 i2 : Nat} (h : EvP U tl E (fun s => ∃ ds, s = .ol ds ∧ ∃ fs : List (Nat × Nat), ds = fs.map pD ∧ fs.length ≤ 20000 ∧ Q fs)) (h1 : i1 ∈ vs) (h2 : i2 ∈ vs) (hne : i1 ≠ i2) (hl : i1 < E.length) :
    EvP U (tLc (iList K tl) (gTup K 2 (gCons (gName i1) (gCons (gName i2) gNil))) tYes (tVar i1) vs) E (fun s => ∃ fs : List (Nat × Nat), s = .ol (iL (fs.map (·.1))) ∧ Q fs) := by
  refine (e_lcP (P := fun ds => ∃ fs : List (Nat × Nat), ds = fs.map pD ∧ fs.length ≤ 20000 ∧ Q fs) (fun ds i acc => acc = (ds.take i).map fstD) (i_list (l_new h)) (fun ds ⟨fs, e, hl, _⟩ => ⟨rfl, by rw [e, List.length_map]; omega⟩) (fun ds i d acc hp hd hI => ?_)).imp ?_
  · obtain ⟨fs, rfl, _, _⟩ := hp
    have hd0 := hd
    obtain ⟨hi, rfl⟩ := pD_inv hd
    refine ⟨_, _, (· = true), gd_tup (ds := [.int ((fs.getD i (0, 0)).1 : Int), .int ((fs.getD i (0, 0)).2 : Int)]) (gds_cons gd_name (gds_cons gd_name gds_nil)), fun j hj => ?_, fun H0 σ H S Q q => q true H .refl S.inv rfl, fun _ => (e_var (d := .int ((fs.getD i (0, 0)).1 : Int)) ?_).imp fun s e => ⟨_, e, ?_⟩, fun z => by cases z⟩
    · simp only [List.mem_append, List.mem_singleton, List.mem_nil_iff, or_false, List.append_nil] at hj
      rcases hj with hj | hj
      · rw [hj]; exact h1
      · rw [hj]; exact h2
    · rw [List.getElem?_set_ne hne.symm, List.getElem?_set_self (by rw [wipeE_len]; exact hl)]
    · rw [hI, List.take_add_one, hd0, List.map_append]
      rfl
  · rintro s ⟨acc, rfl, ds, ⟨fs, rfl, _, hq⟩, hI⟩
    refine ⟨fs, ?_, hq⟩
    rw [hI, List.take_length, fst_all]
def aLNever (m : Nat) : Ask := fun ss P => ∃ M : Moves, RuleOk M m ∧ M.length ≤ 60 ∧ ss = [.dat (eMoves M)] ∧ ∀ b : Bool, (b = true ↔ NB M m) → P (.dat (.bl b))
theorem cLNever (hm16 : m ≤ 16) (M : Mf mg) (c_law_reach : Cal P w K mg base 1 "_law_reach" (spD (V0 w) (aReach m)) []) (D : Dn K mg "_law_never_back" s__law_never_back) : Cal P w K mg base 2 "_law_never_back" (spD (V0 w) (aLNever m)) [] := by
  have sc := sc__law_never_back
  refine cal_of D sc bd__law_never_back (fine1 fun ss P ⟨_, _, _, e, _⟩ => ⟨[_], e, rfl⟩) (by decide) fun f cdv A' outer s H E hr => ⟨_, (pss_cons (ps_setLc (i := 1) rfl sc.nd rfl rfl rfl (show PI _ _ _ (iList K _) from pi_list (pe_c c_law_reach hr (by decide) (by rfl) (pa_cons (pv 0) (pa_cons (pe_lst (pa_cons (pe_tup (pa_cons pe_int (pa_cons pe_int pa_nil))) pa_nil)) pa_nil)))) (blk_of (N := ["_law_moves_here", "_law_stands", "_law_begins", "_law_at", "_law_number", "_law_flag_here", "_law_goal", "_law_later", "_law_more", "_law_fewer", "_law_one", "_law_other"]) (sc := defScope s__law_never_back) (own := [("_law_one", 10), ("_law_other", 11)]) (by decide +kernel)) (fun _ _ _ _ _ => (show PG _ _ (gTup K 2 _) from pg_tup rfl (pgs_cons (pg_name (i := 10) sc.nd rfl (by first | exact .inl rfl | exact .inr rfl)) (pgs_cons (pg_name (i := 11) sc.nd rfl (by first | exact .inl rfl | exact .inr rfl)) pgs_nil)))) (fun _ _ _ _ _ => pts_nil) (fun _ _ _ _ _ => (pv 10)))
      (pss_cons (ps_set (i := 2) sc.nd rfl (by first | exact .inl rfl | exact .inr rfl) (pe_lst pa_nil))
      (pss_cons (ps_for PassesOwn.never rfl (show PI _ _ _ (iList K _) from pi_list (pv 1)) (pg_name (i := 3) sc.nd rfl (by first | exact .inl rfl | exact .inr rfl)) (pss_one (ps_for PassesOwn.never rfl (pi_range1 (by rfl) M.range_ (pa_cons (pe_callB (show CallR _ _ (rLen K) from call_len_seq) (by rfl) M.len_ PySem.boot_len (pa_cons (pe_ix (show IxR _ (rIxT K) from ix_tup) (pv 0) pe_int (fun _ _ => rfl)) pa_nil)) pa_nil)) (pg_name (i := 4) sc.nd rfl (by first | exact .inl rfl | exact .inr rfl)) (pss_cons (ps_asg (pe_ix (show IxR _ (rIxT K) from ix_tup) (pe_ix (show IxR _ (rIxT K) from ix_tup) (pv 0) (pv 3) (fun _ _ => rfl)) (pv 4) (fun _ _ => rfl)) (show PG _ _ (gTup K 2 _) from pg_tup rfl (pgs_cons (pg_name (i := 5) sc.nd rfl (by first | exact .inl rfl | exact .inr rfl)) (pgs_cons (pg_name (i := 6) sc.nd rfl (by first | exact .inl rfl | exact .inr rfl)) pgs_nil))))
      (pss_cons (ps_expr (show PE _ _ (tBM K _ _ _ _) from pe_bm PySem.F.plainAttrs_list PySem.F.slot_list_append PySem.F.type_list_append mt_append (pv 2) (pa_cons (pe_tup (pa_cons (pv 6) (pa_cons (pv 3) pa_nil))) pa_nil)))
      (pss_one (ps_if (pt_not (pt_val (pv 5))) (pss_cons (ps_setLc (i := 7) rfl sc.nd rfl rfl rfl (show PI _ _ _ (iList K _) from pi_list (pe_c c_law_reach hr (by decide) (by rfl) (pa_cons (pv 0) (pa_cons (pe_lst (pa_cons (pe_tup (pa_cons (pv 6) (pa_cons (pv 6) pa_nil))) pa_nil)) pa_nil)))) (blk_of (N := ["_law_moves_here", "_law_stands", "_law_begins", "_law_at", "_law_number", "_law_flag_here", "_law_goal", "_law_later", "_law_more", "_law_fewer", "_law_one", "_law_other"]) (sc := defScope s__law_never_back) (own := [("_law_one", 10), ("_law_other", 11)]) (by decide +kernel)) (fun _ _ _ _ _ => (show PG _ _ (gTup K 2 _) from pg_tup rfl (pgs_cons (pg_name (i := 10) sc.nd rfl (by first | exact .inl rfl | exact .inr rfl)) (pgs_cons (pg_name (i := 11) sc.nd rfl (by first | exact .inl rfl | exact .inr rfl)) pgs_nil)))) (fun _ _ _ _ _ => pts_nil) (fun _ _ _ _ _ => (pv 10)))
      (pss_one (ps_if (pt_cmpR op_gt (pe_callB (show CallR _ _ (rLen K) from call_len_seq) (by rfl) M.len_ PySem.boot_len (pa_cons (pe_lc rfl sc.nd (show PI _ _ _ (iList K _) from pi_list (pv 7)) (blk_of (N := ["_law_moves_here", "_law_stands", "_law_begins", "_law_at", "_law_number", "_law_flag_here", "_law_goal", "_law_later", "_law_more", "_law_fewer", "_law_one", "_law_other"]) (sc := defScope s__law_never_back) (own := [("_law_one", 10)]) (by decide +kernel)) (fun _ _ _ _ _ => (pg_name (i := 10) sc.nd rfl (by first | exact .inl rfl | exact .inr rfl))) (fun _ _ _ _ _ => (pts_one (pt_val (pe_ix (show IxR _ (rIxT K) from ix_tup) (pe_ix (show IxR _ (rIxT K) from ix_tup) (pe_ix (show IxR _ (rIxT K) from ix_tup) (pv 0) (pv 10) (fun _ _ => rfl)) (pv 4) (fun _ _ => rfl)) pe_int (fun _ _ => rfl))))) (fun _ _ _ _ _ => (pv 10))) pa_nil)) pe_int (nomark _)) (pss_one (ps_ret pe_bl)) pss_nil))) pss_nil)))))))
      (pss_cons (ps_for PassesOwn.never rfl (show PI _ _ _ (iList K _) from pi_list (pe_c c_law_reach hr (by decide) (by rfl) (pa_cons (pv 0) (pa_cons (pv 2) pa_nil)))) (show PG _ _ (gTup K 2 _) from pg_tup rfl (pgs_cons (pg_name (i := 8) sc.nd rfl (by first | exact .inl rfl | exact .inr rfl)) (pgs_cons (pg_name (i := 9) sc.nd rfl (by first | exact .inl rfl | exact .inr rfl)) pgs_nil))) (pss_one (ps_for PassesOwn.never rfl (pi_range1 (by rfl) M.range_ (pa_cons (pe_callB (show CallR _ _ (rLen K) from call_len_seq) (by rfl) M.len_ PySem.boot_len (pa_cons (pe_ix (show IxR _ (rIxT K) from ix_tup) (pv 0) pe_int (fun _ _ => rfl)) pa_nil)) pa_nil)) (pg_name (i := 4) sc.nd rfl (by first | exact .inl rfl | exact .inr rfl)) (pss_one (ps_if (PW.pt (pw_and (pt_val (pe_ix (show IxR _ (rIxT K) from ix_tup) (pe_ix (show IxR _ (rIxT K) from ix_tup) (pe_ix (show IxR _ (rIxT K) from ix_tup) (pv 0) (pv 8) (fun _ _ => rfl)) (pv 4) (fun _ _ => rfl)) pe_int (fun _ _ => rfl))) (pw_and1 (pt_not (pt_val (pe_ix (show IxR _ (rIxT K) from ix_tup) (pe_ix (show IxR _ (rIxT K) from ix_tup) (pe_ix (show IxR _ (rIxT K) from ix_tup) (pv 0) (pv 9) (fun _ _ => rfl)) (pv 4) (fun _ _ => rfl)) pe_int (fun _ _ => rfl))))))) (pss_one (ps_ret pe_bl)) pss_nil)))))
      (pss_one (ps_ret pe_bl)))))), ?_⟩
  rintro ss Pp ⟨R, hR, hl, rfl, hP⟩
  have call1 : ∀ {E : DEnv} {g : Nat} {t1 : TE}, E[0]? = some (some (.dat (eMoves R))) → EvD (V0 w) t1 E (pD (g, g)) → g < R.length → EvP (V0 w) (tCall (spD (V0 w) (aReach m)) [] C8.E0 (tCons (tVar 0) (tCons (tLst (tCons t1 tNil)) tNil))) E (fun s => ∃ ds, s = .ol ds ∧ ∃ fs : List (Nat × Nat), ds = fs.map pD ∧ fs.length ≤ 20000 ∧ (fs.Nodup ∧ ∀ p, p ∈ fs ↔ Reach2 R m (· = (g, g)) p)) := fun {E g t1} h0 ht hg =>
    e_call (ss := [.dat (eMoves R), .rl [pD (g, g)]]) (ea_cons (e_var h0) (ea_cons (EvP.rl (e_lst (ds := [pD (g, g)]) (ea_cons ht ea_nil))) ea_nil)) ⟨R, [(g, g)], hR, hl, by simp, fun p hp => by rw [List.mem_singleton.mp hp]; exact ⟨hg, hg⟩, rfl, fun fs h1 h2 h3 => ⟨_, rfl, fs, rfl, h1, h2 (by simp), fun p => by
      rw [h3]
      exact ⟨reach2_imp fun q hq => List.mem_singleton.mp hq, reach2_imp fun q hq => by rw [hq]; exact List.mem_cons_self⟩⟩⟩ (fun s ⟨ds, e, _⟩ => own_ol s e)
  refine d_seq (d_asgP (e_firsts (K := K) (i1 := 10) (i2 := 11) (call1 (g := 0) rfl (e_tup (ds := [.int 0, .int 0]) (ea_cons e_int (ea_cons e_int ea_nil))) hR.pos) (by decide) (by decide) (by decide) (Nat.le_of_ble_eq_true rfl)) (fun s ⟨fs, e, _⟩ => own_ol s e) ?_)
  rintro _ ⟨fs0, rfl, hnd0, hfs0⟩
  have hts : ∀ t, t ∈ fs0.map (·.1) ↔ Reach1 R m 0 t := fun t => by
    constructor
    · intro ht
      obtain ⟨p, hp, rfl⟩ := List.mem_map.mp ht
      exact (reach_21 ((hfs0 p).mp hp)).2
    · intro ht
      exact List.mem_map.mpr ⟨(t, t), (hfs0 _).mpr (reach_12 ht), rfl⟩
  have hnd : (fs0.map (·.1)).Nodup := by
    rw [List.nodup_iff_pairwise_ne, List.pairwise_map]
    refine List.Pairwise.imp_of_mem (fun {a b} ha hb hne e => hne ?_) (List.nodup_iff_pairwise_ne.mp hnd0)
    have ea := (reach_21 ((hfs0 a).mp ha)).1
    have eb := (reach_21 ((hfs0 b).mp hb)).1
    exact Prod.ext e (by rw [← ea, ← eb]; exact e)
  generalize fs0.map (·.1) = fs at hts hnd
  have hfl : ∀ s ∈ fs, s < R.length := fun s hs => reach1_lt hR hR.pos ((hts s).mp hs)
  have hfn : fs.length ≤ 60 := Nat.le_trans (nodup_lt _ _ hnd hfl) hl
  have blen : ∀ i k, i ≤ fs.length → k ≤ m → ((fs.take i).flatMap (begL R m) ++ (begL R m (fs.getD i 0)).take k).length ≤ 1000 := fun i k hi hk => by
    rw [List.length_append, begL_len, List.length_take, List.length_take]
    have h1 : min i fs.length * m ≤ 60 * 16 := Nat.mul_le_mul (by omega) hm16
    omega
  refine d_weak (E' := [some (.dat (eMoves R)), some (.rl (iL fs)), none, none, none, none, none, none, none, none, none, none]) ?_ (by walk_at "fg")
  refine d_seq (d_asgN (ds := ((fs.take 0).flatMap (begL R m)).map pD) (e_lst (ds := []) ea_nil) ?_)
  refine d_seq (d_forF (fun i => ∀ s ∈ fs.take i, ∀ k, k < m → Kept R m s k) (fun i => [some (.dat (eMoves R)), some (.rl (iL fs)), some (.ol (((fs.take i).flatMap (begL R m)).map pD)), none, none, none, none, none, none, none, none, none]) (i_list (l_rl (ds := iL fs) rfl)) ⟨by simp, by walk_at "fg"⟩ (fun i d hd hi => ?_) fun hi => ?_)
  · obtain ⟨hlt, rfl⟩ := iL_inv hd
    have hmem : fs.getD i 0 ∈ fs := getD_mem hlt
    have tk : fs.take (i + 1) = fs.take i ++ [fs.getD i 0] := by rw [List.take_add_one, List.getElem?_eq_getElem hlt, List.getD_eq_getElem?_getD, List.getElem?_eq_getElem hlt]; rfl
    have hbl := fun k hk => blen i k (Nat.le_of_lt hlt) hk
    have hs := hfl _ hmem
    generalize hse : fs.getD i 0 = s at hs hmem tk hbl
    have bget : ∀ k, k < m → (begL R m s).take (k + 1) = (begL R m s).take k ++ [((mvR R s k).2, s)] := fun k hk => by
      have e : (begL R m s)[k]? = some ((mvR R s k).2, s) := by unfold begL; rw [List.getElem?_map, List.getElem?_range hk]; rfl
      rw [List.take_add_one, e]
      rfl
    refine ⟨_, _, gd_name, d_forF (fun k => ∀ j, j < k → Kept R m s j) (fun k => [some (.dat (eMoves R)), some (.rl (iL fs)), some (.ol (((fs.take i).flatMap (begL R m) ++ (begL R m s).take k).map pD)), some (.dat (.int (s : Int))), none, none, none, none, none, none, none, none])
      (i_range1D (n := m) (e_cb1 (e_row (s := 0) (e_var rfl) e_int hR.pos) (rc_lenTn (row_len hR hR.pos))) (by omega)) ⟨fun j hj => by omega, by rw [List.take_zero, List.append_nil]; walk_at "fg"⟩ (fun k d hd hk => ?_) fun hk => ?_⟩
    · obtain ⟨rfl, hkm⟩ := rng0_get hd
      have hb1 := hbl k (Nat.le_of_lt hkm)
      have hgl : (mvR R s k).2 < R.length := hR.next
      refine ⟨_, _, gd_name, d_seq (d_unp (d := eMv (mvR R s k)) (e_mv hR (e_var rfl) (e_var rfl) (e_var rfl) hs hkm) (gd_tup (gds_cons gd_name (gds_cons gd_name gds_nil))) ?_)⟩
      refine d_seq (d_app (d := pD ((mvR R s k).2, s)) rfl (e_tup (ds := [.int ((mvR R s k).2 : Int), .int (s : Int)]) (ea_cons (e_var rfl) (ea_cons (e_var rfl) ea_nil))) (by rw [List.length_map]; omega) ?_)
      have kept1 : Kept R m s k → ∀ j, j < k + 1 → Kept R m s j := fun h j hj => by
        by_cases e : j = k
        · rw [e]; exact h
        · exact hk j (by omega)
      have eb : ((fs.take i).flatMap (begL R m) ++ (begL R m s).take (k + 1)).map pD = ((fs.take i).flatMap (begL R m) ++ (begL R m s).take k).map pD ++ [pD ((mvR R s k).2, s)] := by
        rw [bget k hkm, ← List.append_assoc, List.map_append (l₂ := [((mvR R s k).2, s)])]
        rfl
      rw [eb]
      refine d_weak (E' := [some (.dat (eMoves R)), some (.rl (iL fs)), some (.ol (((fs.take i).flatMap (begL R m) ++ (begL R m s).take k).map pD ++ [pD ((mvR R s k).2, s)])), some (.dat (.int (s : Int))), some (.dat (.int (k : Int))), some (.dat (.bl (mvR R s k).1)), some (.dat (.int ((mvR R s k).2 : Int))), none, none, none, none, none]) ?_ (by walk_at "fg")
      generalize ((fs.take i).flatMap (begL R m) ++ (begL R m s).take k).map pD ++ [pD ((mvR R s k).2, s)] = acc
      refine d_ifD (b := !(mvR R s k).1) (b_not (b_val (e_var rfl))) (fun hb => ?_) fun hb => d_next ⟨kept1 (fun hf => by rw [hf] at hb; cases hb), by walk_at "fg"⟩
      have hf : (mvR R s k).1 = false := by simpa using hb
      refine d_seq (d_asgP (e_firsts (K := K) (i1 := 10) (i2 := 11) (call1 (g := (mvR R s k).2) rfl (e_tup (ds := [.int ((mvR R s k).2 : Int), .int ((mvR R s k).2 : Int)]) (ea_cons (e_var rfl) (ea_cons (e_var rfl) ea_nil))) hgl) (by decide) (by decide) (by decide) (Nat.le_of_ble_eq_true rfl)) (fun s ⟨fs, e, _⟩ => own_ol s e) ?_)
      rintro _ ⟨gs0, rfl, hgd, hgs0⟩
      have hgt : ∀ t, t ∈ gs0.map (·.1) ↔ ∃ p, Reach2 R m (· = ((mvR R s k).2, (mvR R s k).2)) p ∧ p.1 = t := fun t => by
        rw [List.mem_map]
        constructor
        · rintro ⟨p, hp, e⟩
          exact ⟨p, (hgs0 p).mp hp, e⟩
        · rintro ⟨p, hp, e⟩
          exact ⟨p, (hgs0 p).mpr hp, e⟩
      have hgn : (gs0.map (·.1)).length ≤ 3600 := by
        rw [List.length_map]
        exact nodup_pairs (N := 60) hgd fun p hp => by
          have := reach2_lt hR (B := (· = ((mvR R s k).2, (mvR R s k).2))) (fun p hp => by rw [hp]; exact ⟨hgl, hgl⟩) ((hgs0 p).mp hp)
          omega
      have hgll : ∀ t ∈ gs0.map (·.1), t < R.length := fun t ht => by
        obtain ⟨p, hp, rfl⟩ := (hgt t).mp ht
        exact (reach2_lt hR (B := (· = ((mvR R s k).2, (mvR R s k).2))) (fun p hp => by rw [hp]; exact ⟨hgl, hgl⟩) hp).1
      generalize gs0.map (·.1) = gs at hgt hgn hgll
      refine d_weak (E' := [some (.dat (eMoves R)), some (.rl (iL fs)), some (.ol acc), some (.dat (.int (s : Int))), some (.dat (.int (k : Int))), some (.dat (.bl (mvR R s k).1)), some (.dat (.int ((mvR R s k).2 : Int))), some (.rl (iL gs)), none, none, none, none]) ?_ (by walk_at "fg")
      refine d_ifD (b := decide ((0 : Int) < (((gs.filter fun t => (mvR R t k).1).length : Nat) : Int))) (b_test (e_opD (e_cb1 (EvP.rl (e_lcFn (n := gs.length) (fun q => (mvR R (gs.getD q 0) k).1) (fun q => .int ((gs.getD q 0 : Nat) : Int)) (i_list (l_rl (ds := iL gs) rfl)) (iL_len gs) (by omega) (es := iL (gs.filter fun t => (mvR R t k).1)) (range_filter gs 0 (fun t => (mvR R t k).1) fun t => Dt.int (t : Int)) (fun q d hd => ?_))) (rc_lenLn (iL_len _))) e_int rp_gt)) (fun hb2 => ?_) fun hb2 => d_next ⟨kept1 fun _ p hp => ?_, by walk_at "fg"⟩
      · obtain ⟨hq, rfl⟩ := iL_inv hd
        exact ⟨_, _, gd_name, by decide, b_val (e_flag hR (e_var rfl) (e_var rfl) (e_var rfl) (hgll _ (getD_mem hq)) hkm), fun _ => e_var rfl⟩
      · have z := of_decide_eq_true hb2
        have hpos : 0 < (gs.filter fun t => (mvR R t k).1).length := by omega
        obtain ⟨t, ht⟩ := List.exists_mem_of_length_pos hpos
        obtain ⟨ht1, ht2⟩ := List.mem_filter.mp ht
        obtain ⟨p, hp, rfl⟩ := (hgt t).mp ht1
        refine d_ret e_bl (hP false ⟨ffT, fun z => ?_⟩)
        rw [z.1 s ((hts s).mp hmem) k hkm hf p hp] at ht2
        cases ht2
      · have z := of_decide_eq_false hb2
        have h0 : gs.filter (fun t => (mvR R t k).1) = [] := List.length_eq_zero_iff.mp (by omega)
        cases q : (mvR R p.1 k).1 with
        | false => rfl
        | true =>
          have hm' : p.1 ∈ gs.filter fun t => (mvR R t k).1 := List.mem_filter.mpr ⟨(hgt p.1).mpr ⟨p, hp, rfl⟩, q⟩
          rw [h0] at hm'
          cases hm'
    · rw [rngD_len] at hk
      refine ⟨fun t ht k hkm => ?_, ?_⟩
      · rw [tk] at ht
        rcases List.mem_append.mp ht with ht | ht
        · exact hi t ht k hkm
        · rw [List.mem_singleton.mp ht]
          exact hk k hkm
      · rw [rngD_len, tk, List.flatMap_append, List.flatMap_cons, List.flatMap_nil, List.append_nil, show (begL R m s).take m = begL R m s from List.take_of_length_le (by unfold begL; rw [List.length_map, List.length_range]; exact Nat.le_refl _)]
        walk_at "fg"
  rw [iL_len, List.take_length] at hi
  have hKA : KA R m := fun s hs k hk => hi s ((hts s).mpr hs) k hk
  refine d_weak (E' := [some (.dat (eMoves R)), none, some (.rl ((fs.flatMap (begL R m)).map pD)), none, none, none, none, none, none, none, none, none]) ?_ (by rw [iL_len, List.take_length]; walk_at "fg")
  have hBl : (fs.flatMap (begL R m)).length ≤ 10000 := by
    rw [begL_len]
    have := Nat.mul_le_mul hfn hm16
    omega
  have hBp : ∀ p ∈ fs.flatMap (begL R m), p.1 < R.length ∧ p.2 < R.length := fun p hp => by
    obtain ⟨s, k, hs, _, rfl⟩ := begL_mem.mp hp
    exact ⟨hR.next, hfl s hs⟩
  have hBb : ∀ p, p ∈ fs.flatMap (begL R m) ↔ begs R m p := fun p => by
    rw [begL_mem]
    unfold begs
    constructor
    · rintro ⟨s, k, h1, h2⟩
      exact ⟨s, k, (hts s).mp h1, h2⟩
    · rintro ⟨s, k, h1, h2⟩
      exact ⟨s, k, (hts s).mpr h1, h2⟩
  refine d_seq (d_forPc (P := fun ds => ∃ gs : List (Nat × Nat), ds = gs.map pD ∧ ∀ p, p ∈ gs ↔ Reach2 R m (begs R m) p) (fun ds i => ∀ j p, j < i → ds[j]? = some (pD p) → ∀ k, k < m → (mvR R p.1 k).1 = true → (mvR R p.2 k).1 = true) [some (.dat (eMoves R)), none, some (.rl ((fs.flatMap (begL R m)).map pD)), none, none, none, none, none, none, none, none, none]
    (i_list (l_new (e_call (ss := [.dat (eMoves R), .rl ((fs.flatMap (begL R m)).map pD)]) (ea_cons (e_var rfl) (ea_cons (e_rl rfl) ea_nil)) ⟨R, fs.flatMap (begL R m), hR, hl, hBl, hBp, rfl, fun gs h1 _ h2 => ⟨_, rfl, gs, rfl, fun p => (h2 p).trans ⟨reach2_imp fun q hq => (hBb q).mp hq, reach2_imp fun q hq => (hBb q).mpr hq⟩⟩⟩ (fun s ⟨ds, e, _⟩ => own_ol s e))))
    ⟨fun ds _ j p hj => by omega, by walk_at "fg"⟩ (fun ds i d hds hd hi => ?_) fun ds hds hi => ?_)
  · obtain ⟨gs, rfl, hgs⟩ := hds
    obtain ⟨hlt, rfl⟩ := pD_inv hd
    have hpr := (hgs _).mp (getD_mem (d := (0, 0)) hlt)
    generalize hpe : gs.getD i (0, 0) = p at hpr hd
    have hpl := reach2_lt hR (B := begs R m) (fun q hq => hBp q ((hBb q).mpr hq)) hpr
    refine ⟨_, _, gd_tup (gds_cons gd_name (gds_cons gd_name gds_nil)), d_forF (fun k => ∀ j, j < k → (mvR R p.1 j).1 = true → (mvR R p.2 j).1 = true) (fun _ => [some (.dat (eMoves R)), none, some (.rl ((fs.flatMap (begL R m)).map pD)), none, none, none, none, none, some (.dat (.int (p.1 : Int))), some (.dat (.int (p.2 : Int))), none, none])
      (i_range1D (n := m) (e_cb1 (e_row (s := 0) (e_var rfl) e_int hR.pos) (rc_lenTn (row_len hR hR.pos))) (by omega)) ⟨fun j hj => by omega, by walk_at "fg"⟩ (fun k d hd hk => ?_) fun hk => ?_⟩
    · obtain ⟨rfl, hkm⟩ := rng0_get hd
      refine ⟨_, _, gd_name, d_ifD (b := (mvR R p.1 k).1 && !(mvR R p.2 k).1) (b_andD (b_val (e_flag hR (e_var rfl) (e_var rfl) (e_var rfl) hpl.1 hkm)) fun _ => b_not (b_val (e_flag hR (e_var rfl) (e_var rfl) (e_var rfl) hpl.2 hkm))) (fun hb => ?_) fun hb => d_next ⟨fun j hj => ?_, by walk_at "fg"⟩⟩
      · rw [Bool.and_eq_true] at hb
        refine d_ret e_bl (hP false ⟨ffT, fun z => ?_⟩)
        have q := z.2 p hpr k hkm hb.1
        rw [q] at hb
        cases hb.2
      · by_cases e : j = k
        · subst e
          intro h1
          rw [h1] at hb
          simpa using hb
        · exact hk j (by omega)
    · rw [rngD_len] at hk
      refine ⟨fun j q hj hq k hkm => ?_, by walk_at "fg"⟩
      by_cases e : j = i
      · subst e
        rw [hd] at hq
        rw [← pD_inj.mp (Option.some.inj hq)]
        exact hk k hkm
      · exact hi j q (by omega) hq k hkm
  · obtain ⟨gs, rfl, hgs⟩ := hds
    refine d_ret e_bl (hP true ⟨fun _ => ⟨hKA, fun p hp k hk => ?_⟩, fun _ => rfl⟩)
    obtain ⟨i, hi', e⟩ := List.mem_iff_getElem.mp ((hgs p).mpr hp)
    exact hi i p (by rw [List.length_map]; exact hi') (by rw [List.getElem?_map, List.getElem?_eq_getElem hi', e]; rfl) k hk
/-! ### _law_some_list -/
abbrev s__law_some_list : Stmt := topS 66
theorem sc__law_some_list : FnScope ["_law_moves_here", "_law_every", "_law_most", "_law_lots_here", "_law_kind", "_law_layer", "_law_turn", "_law_row_here", "_law_later", "_law_lot_here"] ["_law_moves_here", "_law_every", "_law_most"] (defScope s__law_some_list) := ⟨rfl, rfl, rfl, by decide +kernel, rfl, by decide +kernel, by decide +kernel⟩
theorem bd__law_some_list : Bd "_law_some_list" s__law_some_list ["_law_moves_here", "_law_every", "_law_most"] := fun _ _ _ _ _ _ us hl => match us, hl with | [_, _, _], _ => rfl
theorem eLot_snoc (ev : List Str) (a : Lot) (k : Nat) : eLot ev (a ++ [k]) = .tup (((a.map (kd ev)).map .str) ++ [.str (kd ev k)]) := by
  unfold eLot
  rw [List.map_append, List.map_append]
  rfl
theorem eLots_snoc (ev : List Str) (L : Lots) (a : Lot) : eLots ev (L ++ [a]) = .tup ((L.map (eLot ev)) ++ [eLot ev a]) := by
  unfold eLots
  rw [List.map_append]
  rfl
def aSome (ev : List Str) (m : Nat) : Ask := fun ss P => ∃ M : Moves, RuleOk M m ∧ M.length ≤ 60 ∧ (∀ L, ValidL m L → L.length ≤ 4 → ¬ Sim M m 0 L) ∧ ss = [.dat (eMoves M), .rl (ev.map .str), .dat (.int 4)] ∧ P (.dat (.bl false))
theorem fineSome (ev : List Str) (m : Nat) : Fine (aSome ev m) 3 := ⟨fun ss P ⟨_, _, _, _, e, _⟩ => by subst e; exact ⟨rfl, fun s hs => by simp at hs; rcases hs with h | h | h <;> subst h <;> rfl⟩⟩
theorem cSome (h : MkOk mk ev m) (hm : 0 < m) (hm2 : m ≤ 2) (M : Mf mg) (c_law_of_list : Cal P w K mg base 1 "_law_of_list" (spD (V0 w) (aOfList ev m)) []) (c_law_part : Cal P w K mg base 1 "_law_part" (spD (V0 w) (aLPart m)) []) (D : Dn K mg "_law_some_list" s__law_some_list) : Cal P w K mg base 2 "_law_some_list" (spD (V0 w) (aSome ev m)) [] := by
  have sc := sc__law_some_list
  refine cal_of D sc bd__law_some_list (fineSome ev m) (by decide) fun f cdv A' outer s H E hr => ⟨_, (pss_cons (ps_set (i := 3) sc.nd rfl (by first | exact .inl rfl | exact .inr rfl) (pe_lst (pa_cons (pe_tup pa_nil) pa_nil)))
      (pss_cons (ps_for PassesOwn.never rfl (show PI _ _ _ (iList K _) from pi_list (pv 1)) (pg_name (i := 4) sc.nd rfl (by first | exact .inl rfl | exact .inr rfl)) (pss_one (ps_set (i := 3) sc.nd rfl (by first | exact .inl rfl | exact .inr rfl) (pe_op op_cat (pv 3) (pe_lc rfl sc.nd (show PI _ _ _ (iList K _) from pi_list (pv 3)) (blk_of (N := ["_law_moves_here", "_law_every", "_law_most", "_law_lots_here", "_law_kind", "_law_layer", "_law_turn", "_law_row_here", "_law_later", "_law_lot_here"]) (sc := defScope s__law_some_list) (own := [("_law_lot_here", 9)]) (by decide +kernel)) (fun _ _ _ _ _ => (pg_name (i := 9) sc.nd rfl (by first | exact .inl rfl | exact .inr rfl))) (fun _ _ _ _ _ => pts_nil) (fun _ _ _ _ _ => (pe_op (show OpR _ _ (rCatA K) from op_catA) (pv 9) (pe_tup (pa_cons (pv 4) pa_nil)))))))))
      (pss_cons (ps_setLc (i := 3) rfl sc.nd rfl rfl rfl (show PI _ _ _ (iList K _) from pi_list (pv 3)) (blk_of (N := ["_law_moves_here", "_law_every", "_law_most", "_law_lots_here", "_law_kind", "_law_layer", "_law_turn", "_law_row_here", "_law_later", "_law_lot_here"]) (sc := defScope s__law_some_list) (own := [("_law_lot_here", 9)]) (by decide +kernel)) (fun _ _ _ _ _ => (pg_name (i := 9) sc.nd rfl (by first | exact .inl rfl | exact .inr rfl))) (fun _ _ _ _ _ => (pts_one (pt_cmpR (show OpR _ _ (rNeD K) from (op_neD hr.units)) (pv 9) (pe_tup pa_nil) (nomark _)))) (fun _ _ _ _ _ => (pv 9)))
      (pss_cons (ps_set (i := 5) sc.nd rfl (by first | exact .inl rfl | exact .inr rfl) (pe_lst (pa_cons (pe_tup pa_nil) pa_nil)))
      (pss_cons (ps_for PassesOwn.never rfl (pi_range1 (by rfl) M.range_ (pa_cons (pe_op op_add (pv 2) pe_int) pa_nil)) (pg_name (i := 6) sc.nd rfl (by first | exact .inl rfl | exact .inr rfl)) (pss_cons (ps_for PassesOwn.never rfl (show PI _ _ _ (iList K _) from pi_list (pv 5)) (pg_name (i := 7) sc.nd rfl (by first | exact .inl rfl | exact .inr rfl)) (pss_one (ps_if (pt_cmpR op_isN (pe_c c_law_part hr (by decide) (by rfl) (pa_cons (pv 0) (pa_cons (pe_c c_law_of_list hr (by decide) (by rfl) (pa_cons (pv 7) (pa_cons (pv 1) pa_nil))) (pa_cons (pe_callB (show CallR _ _ (rLen K) from call_len_seq) (by rfl) M.len_ PySem.boot_len (pa_cons (pv 1) pa_nil)) pa_nil)))) pe_non (nomark _)) (pss_one (ps_ret pe_bl)) pss_nil)))
      (pss_cons (ps_set (i := 8) sc.nd rfl (by first | exact .inl rfl | exact .inr rfl) (pe_lst pa_nil))
      (pss_cons (ps_for PassesOwn.never rfl (show PI _ _ _ (iList K _) from pi_list (pv 5)) (pg_name (i := 7) sc.nd rfl (by first | exact .inl rfl | exact .inr rfl)) (pss_one (ps_set (i := 8) sc.nd rfl (by first | exact .inl rfl | exact .inr rfl) (pe_op op_cat (pv 8) (pe_lc rfl sc.nd (show PI _ _ _ (iList K _) from pi_list (pv 3)) (blk_of (N := ["_law_moves_here", "_law_every", "_law_most", "_law_lots_here", "_law_kind", "_law_layer", "_law_turn", "_law_row_here", "_law_later", "_law_lot_here"]) (sc := defScope s__law_some_list) (own := [("_law_lot_here", 9)]) (by decide +kernel)) (fun _ _ _ _ _ => (pg_name (i := 9) sc.nd rfl (by first | exact .inl rfl | exact .inr rfl))) (fun _ _ _ _ _ => pts_nil) (fun _ _ _ _ _ => (pe_op (show OpR _ _ (rCatA K) from op_catA) (pv 7) (pe_tup (pa_cons (pv 9) pa_nil)))))))))
      (pss_one (ps_set (i := 5) sc.nd rfl (by first | exact .inl rfl | exact .inr rfl) (pv 8)))))))
      (pss_one (ps_ret pe_bl))))))), ?_⟩
  rintro ss Pp ⟨R, hR, hRl, hno, rfl, hP⟩
  have kget : ∀ {i : Nat} {d : Dt}, (ev.map Dt.str)[i]? = some d → i < m ∧ d = .str (kd ev i) := fun {i d} hd => by
    have hi : i < ev.length := by have z := (List.getElem?_eq_some_iff.mp hd).1; rwa [List.length_map] at z
    refine ⟨by rw [← h.evk.len]; exact hi, ?_⟩
    rw [List.getElem?_map, List.getElem?_eq_getElem hi] at hd
    unfold kd
    rw [List.getD_eq_getElem?_getD, List.getElem?_eq_getElem hi]
    exact (Option.some.inj hd).symm
  have hpow : ∀ i, i ≤ m → 2 ^ i ≤ 4 := fun i hi => Nat.le_trans (Nat.pow_le_pow_right (by decide) (Nat.le_trans hi hm2)) (by decide)
  refine d_seq (d_asgN (ds := [([] : Lot)].map (eLot ev)) (e_lst (ds := [.tup []]) (ea_cons (e_tup (ds := []) ea_nil) ea_nil)) ?_)
  refine d_seq (d_forS (α := List Lot) (fun i ls => (∀ a ∈ ls, a.Pairwise (· < ·) ∧ ∀ j ∈ a, j < i) ∧ ls.length ≤ 2 ^ i) (fun _ ls => [some (.dat (eMoves R)), some (.rl (ev.map .str)), some (.dat (.int 4)), some (.ol (ls.map (eLot ev))), none, none, none, none, none, none]) (i_list (l_rl rfl)) [[]]
    ⟨⟨fun a ha => by rw [List.mem_singleton.mp ha]; exact ⟨.nil, fun j hj => by cases hj⟩, Nat.le_refl _⟩, by walk_at "fg"⟩ (fun i d ls hd hx => ?_) fun ls hx => ?_)
  · obtain ⟨hi, rfl⟩ := kget hd
    obtain ⟨h1, h2⟩ := hx
    have h4 := hpow i (by omega)
    refine ⟨_, _, gd_name, d_asgN (ds := (ls ++ ls.map (· ++ [i])).map (eLot ev)) (EvP.fg (E' := [some (.dat (eMoves R)), some (.rl (ev.map .str)), some (.dat (.int 4)), some (.rl (ls.map (eLot ev))), some (.dat (.str (kd ev i))), none, none, none, none, none]) ?_ (by walk_at "fg")) ⟨ls ++ ls.map (· ++ [i]), ⟨fun a ha => ?_, ?_⟩, by walk_at "fg"⟩⟩
    · rw [List.map_append]
      refine e_opD (e_rl rfl) (EvP.rl (e_lcX (es := (ls.map (· ++ [i])).map (eLot ev)) (i_list (l_rl rfl)) (by rw [List.length_map]; omega) (by rw [List.length_map, List.length_map, List.length_map]) fun j d e hd he => ?_)) (rp_catL (by rw [List.length_map, List.length_map, List.length_map]; omega))
      rw [List.getElem?_map] at hd
      rw [List.getElem?_map, List.getElem?_map] at he
      cases q : ls[j]? with
      | none => rw [q] at hd; cases hd
      | some a =>
        rw [q] at hd he
        cases hd
        cases he
        have hal := (h1 a (List.mem_of_getElem? q)).1
        have hav : a.length ≤ i := by
          have z := nodup_lt i a (List.nodup_iff_pairwise_ne.mpr (hal.imp fun {x y} hxy => Nat.ne_of_lt hxy)) (h1 a (List.mem_of_getElem? q)).2
          exact z
        refine ⟨_, _, gd_name, by decide, ?_⟩
        show EvD _ _ _ (eLot ev (a ++ [i]))
        rw [eLot_snoc]
        exact e_opD (e_var (d := eLot ev a) rfl) (e_tup (ds := [.str (kd ev i)]) (ea_cons (e_var rfl) ea_nil)) (rp_catT (by rw [List.length_map, List.length_map]; show a.length + 1 ≤ 1000000; omega))
    · rcases List.mem_append.mp ha with ha | ha
      · obtain ⟨a1, a2⟩ := h1 a ha
        exact ⟨a1, fun j hj => Nat.lt_succ_of_lt (a2 j hj)⟩
      · obtain ⟨b, hb, rfl⟩ := List.mem_map.mp ha
        obtain ⟨a1, a2⟩ := h1 b hb
        refine ⟨List.pairwise_append.mpr ⟨a1, by simp, fun x hx y hy => ?_⟩, fun j hj => ?_⟩
        · rw [List.mem_singleton.mp hy]
          exact a2 x hx
        · rcases List.mem_append.mp hj with hj | hj
          · exact Nat.lt_succ_of_lt (a2 j hj)
          · rw [List.mem_singleton.mp hj]; exact Nat.lt_succ_self i
    · rw [List.length_append, List.length_map, Nat.pow_succ]
      omega
  rw [List.length_map, h.evk.len] at hx
  obtain ⟨h1, h2⟩ := hx
  have h4 := hpow m (Nat.le_refl m)
  refine d_weak (E' := [some (.dat (eMoves R)), some (.rl (ev.map .str)), some (.dat (.int 4)), some (.rl (ls.map (eLot ev))), none, none, none, none, none, none]) ?_ (by walk_at "fg")
  refine d_seq (d_asgN (ds := (ls.filter fun a => !decide (a = [])).map (eLot ev)) (e_lcFn (n := ls.length) (fun i => !decide (ls.getD i [] = [])) (fun i => eLot ev (ls.getD i [])) (i_list (l_rl (ds := ls.map (eLot ev)) rfl)) (List.length_map _) (by omega) (range_filter ls [] (fun a => !decide (a = [])) (eLot ev)) (fun i d hd => ?_)) ?_)
  · obtain ⟨hi, rfl⟩ := eLots_inv hd
    obtain ⟨a1, a2⟩ := h1 _ (getD_mem (d := []) hi)
    refine ⟨_, _, gd_name, by decide, b_test (e_opD (e_var rfl) (e_tup (ds := []) ea_nil) (rp_neD (cl_eLot h a2 8) rfl ?_)), fun _ => e_var rfl⟩
    rw [decide_eq_true_eq]
    constructor
    · intro e; rw [e]; rfl
    · intro e
      unfold eLot at e
      have e := Dt.tup.inj e
      exact List.map_eq_nil_iff.mp (List.map_eq_nil_iff.mp e)
  have hv : ∀ a ∈ ls.filter (fun a => !decide (a = [])), ValidLot m a := fun a ha => by
    obtain ⟨ha1, ha2⟩ := List.mem_filter.mp ha
    exact ⟨nd_yes ha2, h1 a ha1⟩
  have hl4 : (ls.filter fun a => !decide (a = [])).length ≤ 4 := Nat.le_trans (List.length_filter_le _ _) (by omega)
  generalize ls.filter (fun a => !decide (a = [])) = ms at hv hl4
  refine d_seq (d_asgN (ds := [([] : Lots)].map (eLots ev)) (e_lst (ds := [.tup []]) (ea_cons (e_tup (ds := []) ea_nil) ea_nil)) ?_)
  have h4p : ∀ t, t ≤ 5 → 4 ^ t ≤ 1024 := fun t ht => Nat.le_trans (Nat.pow_le_pow_right (by decide) ht) (by decide)
  refine d_seq (d_forS (α := List Lots) (fun t rows => (∀ L ∈ rows, ValidL m L ∧ L.length = t) ∧ rows.length ≤ 4 ^ t) (fun _ rows => [some (.dat (eMoves R)), some (.rl (ev.map .str)), some (.dat (.int 4)), some (.rl (ms.map (eLot ev))), none, some (.rl (rows.map (eLots ev))), none, none, none, none])
    (i_range1D (n := 5) (e_opD (e_var rfl) e_int rp_add) (by decide)) [[]] ⟨⟨fun L hL => by rw [List.mem_singleton.mp hL]; exact ⟨(fun a ha => by cases ha), rfl⟩, Nat.le_refl _⟩, by walk_at "fg"⟩ (fun t d rows hd hx => ?_) fun rows hx => d_ret e_bl hP)
  obtain ⟨rfl, ht⟩ := rng0_get hd
  obtain ⟨r1, r2⟩ := hx
  have r3 := h4p t (by omega)
  have rget : ∀ {i : Nat} {d : Dt}, (rows.map (eLots ev))[i]? = some d → ∃ L ∈ rows, d = eLots ev L := fun {i d} hd => by
    rw [List.getElem?_map] at hd
    cases q : rows[i]? with
    | none => rw [q] at hd; cases hd
    | some L => rw [q] at hd; cases hd; exact ⟨L, List.mem_of_getElem? q, rfl⟩
  refine ⟨_, _, gd_name, d_seq (d_forE (fun _ => [some (.dat (eMoves R)), some (.rl (ev.map .str)), some (.dat (.int 4)), some (.rl (ms.map (eLot ev))), none, some (.rl (rows.map (eLots ev))), some (.dat (.int (t : Int))), none, none, none]) (i_list (l_rl rfl)) (by walk_at "fg") (fun i d hd => ?_) ?_)⟩
  · obtain ⟨L, hL, rfl⟩ := rget hd
    obtain ⟨Lv, Ll⟩ := r1 L hL
    have hns := hno L Lv (by omega)
    refine ⟨_, _, gd_name, d_ifD (b := false) (b_test (e_op (A := fun s => ∃ n, s = .dat (iLot (rowOf m n))) (B := (· = .dat .non)) (e_callP (B := fun ss => ∃ N : Moves, RuleOk N m ∧ N.length ≤ 60 ∧ Sim N m 0 L ∧ ss = [.dat (eMoves R), .dat (eMoves N), .dat (.int (m : Int))]) ((ea_consP (e_var (d := eMoves R) rfl) (ea_consP (e_call (P := fun s => ∃ N : Moves, s = .dat (eMoves N) ∧ RuleOk N m ∧ N.length ≤ 60 ∧ Sim N m 0 L) (ss := [.dat (eLots ev L), .rl (ev.map .str)]) (ea_cons (e_var rfl) (ea_cons (e_rl rfl) ea_nil)) ⟨L, Lv, by omega, rfl, fun N hN1 hN2 _ => ⟨N, rfl, (hN1 (hN2 (reachT_few (by omega)))).1, hN2 (reachT_few (by omega)), (hN1 (hN2 (reachT_few (by omega)))).2.1⟩⟩ (fun s ⟨N, e, _⟩ => own_dat s e)) (ea_cons (e_cb1 (e_rl rfl) (rc_lenLn (n := m) (by rw [List.length_map, h.evk.len]))) ea_nil))).imp ?_) (fun ss ⟨N, hN, hNl, hNs, e⟩ => ⟨R, N, hR, hN, hRl, hNl, e, fun r hr _ => ?_⟩) (fun s ⟨n, e⟩ => own_dat s e)) e_non fun s u hs hu => ?_)) (fun z => by cases z) fun _ => d_next (by walk_at "fg")⟩
    · rintro ss ⟨s, r, rfl, rfl, s2, r2, rfl, ⟨N, rfl, hN, hNl, hNs⟩, rfl⟩
      exact ⟨N, hN, hNl, hNs, rfl⟩
    · cases r with
      | none => exact absurd ((none_sim (L := L) hm Lv.full).mp fun n => by rw [part_same hm Lv.full hNs]; exact hr n) hns
      | some n => exact ⟨n, rfl⟩
    · obtain ⟨n, rfl⟩ := hs
      rw [hu]
      exact rp_isN (fun z => by cases z)
  refine d_seq (d_asgN (ds := ([] : List Lots).map (eLots ev)) (e_lst (ds := []) ea_nil) ?_)
  refine d_seq (d_forS (α := List Lots) (fun i acc => (∀ L ∈ acc, ValidL m L ∧ L.length = t + 1) ∧ acc.length ≤ i * 4) (fun _ acc => [some (.dat (eMoves R)), some (.rl (ev.map .str)), some (.dat (.int 4)), some (.rl (ms.map (eLot ev))), none, some (.rl (rows.map (eLots ev))), some (.dat (.int (t : Int))), none, some (.ol (acc.map (eLots ev))), none])
    (i_list (l_rl rfl)) [] ⟨⟨(fun L hL => by cases hL), Nat.zero_le _⟩, by walk_at "fg"⟩ (fun i d acc hd hx => ?_) fun acc hx => ?_)
  · have hir : i < rows.length := by have z := (List.getElem?_eq_some_iff.mp hd).1; rwa [List.length_map] at z
    obtain ⟨L, hL, rfl⟩ := rget hd
    obtain ⟨Lv, Ll⟩ := r1 L hL
    obtain ⟨a1, a2⟩ := hx
    refine ⟨_, _, gd_name, d_asgN (ds := (acc ++ ms.map fun a => L ++ [a]).map (eLots ev)) (EvP.fg (E' := [some (.dat (eMoves R)), some (.rl (ev.map .str)), some (.dat (.int 4)), some (.rl (ms.map (eLot ev))), none, some (.rl (rows.map (eLots ev))), some (.dat (.int (t : Int))), some (.dat (eLots ev L)), some (.rl (acc.map (eLots ev))), none]) ?_ (by walk_at "fg")) ⟨acc ++ ms.map fun a => L ++ [a], ⟨fun C hC => ?_, ?_⟩, by walk_at "fg"⟩⟩
    · rw [List.map_append]
      refine e_opD (e_rl rfl) (EvP.rl (e_lcX (es := (ms.map fun a => L ++ [a]).map (eLots ev)) (i_list (l_rl rfl)) (by rw [List.length_map]; omega) (by rw [List.length_map, List.length_map, List.length_map]) fun j d e hd he => ?_)) (rp_catL (by rw [List.length_map, List.length_map, List.length_map]; omega))
      rw [List.getElem?_map] at hd
      rw [List.getElem?_map, List.getElem?_map] at he
      cases q : ms[j]? with
      | none => rw [q] at hd; cases hd
      | some a =>
        rw [q] at hd he
        cases hd
        cases he
        refine ⟨_, _, gd_name, by decide, ?_⟩
        show EvD _ _ _ (eLots ev (L ++ [a]))
        rw [eLots_snoc]
        exact e_opD (e_var (d := eLots ev L) rfl) (e_tup (ds := [eLot ev a]) (ea_cons (e_var rfl) ea_nil)) (rp_catT (by rw [List.length_map]; show L.length + 1 ≤ 1000000; omega))
    · rcases List.mem_append.mp hC with hC | hC
      · exact a1 C hC
      · obtain ⟨a, ha, rfl⟩ := List.mem_map.mp hC
        refine ⟨fun b hb => ?_, by rw [List.length_append, Ll]; rfl⟩
        rcases List.mem_append.mp hb with hb | hb
        · exact Lv b hb
        · rw [List.mem_singleton.mp hb]; exact hv a ha
    · rw [List.length_append, List.length_map]
      omega
  · obtain ⟨a1, a2⟩ := hx
    rw [List.length_map] at a2
    refine d_weak (E' := [some (.dat (eMoves R)), some (.rl (ev.map .str)), some (.dat (.int 4)), some (.rl (ms.map (eLot ev))), none, none, some (.dat (.int (t : Int))), none, some (.rl (acc.map (eLots ev))), none]) ?_ (by walk_at "fg")
    exact d_alias (j := 8) rfl ⟨acc, ⟨a1, by rw [Nat.pow_succ]; omega⟩, by walk_at "fg"⟩
end
end K13
end
section
set_option Elab.async false
set_option linter.all false
set_option maxRecDepth 100000
set_option maxHeartbeats 4000000
set_option autoImplicit false
/-! the law's tape; runs step by step over a known heap -/
namespace K13
open PySem PySem.Spec PyProof.Rows L2 NdefX LamX
def rInt1 : List V → Hp → VK → Prop := fun xs H Q => (∃ i, xs = [V.int i] ∧ Q (.int i) H) ∨ ∃ k, xs = [V.bl k] ∧ Q (.int (if k then 1 else 0)) H
/-! ### values told at once -/
abbrev Ev (te : TE) (σ : Sg) (H : Hp) (v : V) : Prop := ∀ Q : VK, Q v H → te σ H Q
section
variable {σ : Sg} {H : Hp} {K : PySem.W.Frag} {D : Ends} {te ta tb to ti : TE} {t u : TS} {v : V}
theorem ev_var {i : Nat} (h : σ[i]? = some (some v)) : Ev (tVar i) σ H v := fun Q q => ⟨v, h, q⟩
theorem ev_c : Ev (tC v) σ H v := fun Q q => q
theorem ev_I0 {g : Int → Int → V} {i j : Int} (h1 : Ev ta σ H (.int i)) (h2 : Ev tb σ H (.int j)) : Ev (tOp (rI0 g) ta tb) σ H (g i j) := fun Q q => h1 _ (h2 _ ⟨i, j, rfl, rfl, q⟩)
theorem ev_I {C : Int → Int → Prop} {g : Int → Int → V} {i j : Int} (h1 : Ev ta σ H (.int i)) (h2 : Ev tb σ H (.int j)) (hc : C i j) : Ev (tOp (rI C g) ta tb) σ H (g i j) := fun Q q => h1 _ (h2 _ ⟨i, j, rfl, rfl, hc, q⟩)
theorem ev_ixL {p : Addr} {xs : List V} {i : Int} (h1 : Ev ta σ H (.ref p)) (h2 : Ev tb σ H (.int i)) (hp : H p = some (.lst xs)) (ha : atI xs i = some v) : Ev (tOp (rIxL K) ta tb) σ H v := fun Q q => h1 _ (h2 _ ⟨p, xs, i, v, rfl, rfl, .of hp, ha, q⟩)
theorem ev_int {i : Int} (h : Ev ta σ H (.int i)) : Ev (tCB rInt1 (tCons ta tNil)) σ H (.int i) := fun Q q => h _ (.inl ⟨i, rfl, q⟩)
theorem ev_len {p : Addr} {xs : List V} (h : Ev ta σ H (.ref p)) (hp : H p = some (.lst xs)) : Ev (tCB (rLen K) (tCons ta tNil)) σ H (.int xs.length) := fun Q q => h _ ⟨p, xs, rfl, .inl (.of hp), q⟩
theorem s_seq (h : t { D with nx := u D } σ H) : tSeq t u D σ H := h
theorem s_if {b : Bool} (he : Ev te σ H (.bl b)) (h1 : b = true → t D σ H) (h2 : b = false → u D σ H) : tIfS (tTest te) t u D σ H := he _ ⟨b, rfl, by
  cases b with
  | true => rw [if_pos rfl]; exact h1 rfl
  | false => rw [if_neg (by decide)]; exact h2 rfl⟩
theorem s_asg {i : Nat} (he : Ev te σ H v) (h : D.nx (σ.set i (some v)) H) : tAsg te (gName i) D σ H := he _ h
theorem s_setL {p : Addr} {xs : List V} {k : Int} {j : Nat} (he : Ev te σ H v) (ho : Ev to σ H (.ref p)) (hi : Ev ti σ H (.int k)) (hp : H p = some (.lst xs)) (hj : ixN xs.length k = some j) (h : D.nx σ (upd H p (.lst (xs.set j v)))) : tAsg te (gSub to ti rSetL) D σ H :=
  he _ (ho _ (hi _ ⟨p, xs, k, j, rfl, rfl, hp, hj, h⟩))
theorem s_ret (he : Ev te σ H v) (h : D.rt v H) : tRet te D σ H := he _ h
theorem s_next (h : D.nx σ H) : tNext D σ H := h
end
theorem upd_upd {H : Hp} {a : Addr} {o o' : HO} : upd (upd H a o) a o' = upd H a o' := by
  funext b
  by_cases h : b = a
  · rw [h, upd_same, upd_same]
  · rw [upd_ne h, upd_ne h, upd_ne h]
/-! ### the tape -/
def tapeO (sp : Addr) (a1 : Nat) (a2 a3 a4 : Int) : HO := .lst [.ref sp, .int (a1 : Int), .int a2, .int a3, .int a4]
def VL (w : World) (T : List NTab) (tp sp : Addr) : Vol where
  w := w
  bad := fun a o => (VT w T).bad a o ∨ ((a = tp ∨ a = sp) ∧ isTI o = false)
  inv := fun H => TabsN T H ∧ sp ≠ tp ∧ ∃ (ns : List Int) (a1 : Nat) (a2 a3 a4 : Int), H tp = some (tapeO sp a1 a2 a3 a4) ∧ H sp = some (.lst (ns.map V.int))
  nb := fun a o h => by
    rcases h with h | h
    · exact (VT w T).nb a o h
    · exact h.2
  ex := fun H H' iv s => let ⟨i1, i2, ns, a1, a2, a3, a4, h1, h2⟩ := iv; ⟨i1.ext s, i2, ns, a1, a2, a3, a4, s _ _ h1, s _ _ h2⟩
  nw := fun H p o iv np od h => by
    obtain ⟨i1, i2, ns, a1, a2, a3, a4, h1, h2⟩ := iv
    rcases h with h | ⟨h, _⟩
    · exact (VT w T).nw H p o i1 np od h
    · rcases h with h | h
      · rw [h, h1] at np; cases np
      · rw [h, h2] at np; cases np
  st := fun H a o o' iv ha ti nb od => by
    obtain ⟨i1, i2, ns, a1, a2, a3, a4, h1, h2⟩ := iv
    have n1 : tp ≠ a := fun z => nb (.inr ⟨.inl z.symm, ti⟩)
    have n2 : sp ≠ a := fun z => nb (.inr ⟨.inr z.symm, ti⟩)
    exact ⟨(VT w T).st H a o o' i1 ha ti (fun z => nb (.inl z)) od, i2, ns, a1, a2, a3, a4, by rw [upd_ne n1]; exact h1, by rw [upd_ne n2]; exact h2⟩
  sb := fun H a o o' iv ha nb od h => by
    obtain ⟨i1, i2, ns, a1, a2, a3, a4, h1, h2⟩ := iv
    rcases h with h | ⟨h, _⟩
    · exact (VT w T).sb H a o o' i1 ha (fun z => nb (.inl z)) od h
    · refine nb (.inr ⟨h, ?_⟩)
      rcases h with h | h
      · rw [h, h1] at ha; cases ha; rfl
      · rw [h, h2] at ha; cases ha; rfl
section
variable {w : World} {T : List NTab} {tp sp : Addr} {H : Hp}
/-- the tape turns -/
theorem vl_turn (iv : (VL w T tp sp).inv H) (b1 : Nat) (b2 b3 b4 : Int) : (VL w T tp sp).inv (upd H tp (tapeO sp b1 b2 b3 b4)) ∧ Xt (VL w T tp sp) H (upd H tp (tapeO sp b1 b2 b3 b4)) := by
  obtain ⟨i1, i2, ns, a1, a2, a3, a4, h1, h2⟩ := iv
  refine ⟨⟨?_, i2, ns, b1, b2, b3, b4, upd_same, by rw [upd_ne i2]; exact h2⟩, fun a o e nb => ?_, fun a e => ?_⟩
  · refine (VT w T).st H tp _ _ i1 h1 rfl (fun z => ?_) (.b rfl)
    rcases z with ⟨ps, z⟩ | ⟨q, z⟩
    · cases z
    · exact (Ord.b (o := tapeO sp a1 a2 a3 a4) rfl).2 _ q z
  · by_cases h : a = tp
    · exact absurd (.inr ⟨.inl h, by rw [h, h1] at e; cases e; rfl⟩) nb
    · rw [upd_ne h]; exact e
  · by_cases h : a = tp
    · rw [h, upd_same]; exact fun z => by cases z
    · rw [upd_ne h]; exact e
/-- the tables alone are less than tables and tape -/
theorem subT : Sub (VT w T) (VL w T tp sp) := ⟨rfl, fun _ _ h => .inl h, fun _ h => h.1, fun H H' iv x i => by
  obtain ⟨i1, i2, ns, a1, a2, a3, a4, h1, h2⟩ := iv
  have nb : ∀ {a : Addr} {xs : List V}, ¬ (VT w T).bad a (.lst xs) := fun {a xs} z => by
    rcases z with ⟨ps, z⟩ | ⟨q, z⟩
    · cases z
    · exact (Ord.b (o := .lst xs) rfl).2 _ q z
  exact ⟨i, i2, ns, a1, a2, a3, a4, x.1 _ _ h1 nb, x.1 _ _ h2 nb⟩⟩
end
/-- a def by a proof of its own -/
theorem cal_raw {P : Program} {w : World} {K : PySem.W.Frag} {mg : Str → Option Value} {base : Heap} {x : Str} {st : Stmt} {N ps : List Str} {k : Nat} {sp : Sp} (D : Dn K mg x st) (S : FnScope N ps (defScope st)) (hb : Bd x st ps) (len : ∀ vs H Q E, sp vs H Q E → vs.length = ps.length)
    (body : ∀ (f : Addr) (cdv : Value) (A' : Around) (outer : List Env) (s : Shared) (H : Hp) (E : XK), Room k (A'.deeper (envOfC x (defScope st) s.heap.objs.size f cdv)) →
      ∃ t, PSs (cxOf C8.CX0 P w K mg base N x (defScope st) f cdv A' outer s H E).nox (defBody st) t ∧ ∀ vs Q E', sp vs H Q E' → t { nx := fun _ H' => Q .non H', rt := Q } (L2.start N vs) H) : C8.Cal P w K mg base (k + 1) x sp [] := by
  obtain ⟨f, fd, F, gm⟩ := D
  refine ⟨f, fd, ps, [], F.ok (CX := C8.CX0) S len (fun cdv A' outer s H vs Q E hr hsp => ?_), gm, F.kp, F.bindsN hb, .nil⟩
  obtain ⟨t, h1, h2⟩ := body f cdv A' outer s H E hr
  exact ⟨t, h1.nox, h2 vs Q E hsp⟩
end K13
end
section
set_option Elab.async false
set_option linter.all false
set_option maxRecDepth 100000
set_option maxHeartbeats 4000000
set_option autoImplicit false
local macro_rules | `(tactic| walk_at "fg") => `(tactic| (repeat' (first | exact True.intro | exact rfl | constructor)))
namespace K13
open PySem PySem.Spec PyProof.Rows L2 C8 NdefX LamX
section
variable {P : Program} {w : World} {K : PySem.W.Frag} {mg : Str → Option Value} {base : Heap} {mk : Str} {ev : List Str} {m : Nat} {T : List NTab} {tp sp : Addr}
/-! ### _law_pick -/
abbrev s__law_pick : Stmt := topS 54
theorem sc__law_pick : FnScope ["_law_tape_here", "_law_many", "_law_digit", "_law_cell", "_law_mixed"] ["_law_tape_here", "_law_many"] (defScope s__law_pick) := ⟨rfl, rfl, rfl, by decide +kernel, rfl, by decide +kernel, by decide +kernel⟩
theorem bd__law_pick : Bd "_law_pick" s__law_pick ["_law_tape_here", "_law_many"] := fun _ _ _ _ _ _ us hl => match us, hl with | [_, _], _ => rfl
def aPick (tp : Addr) : Ask := fun ss P => ∃ n : Nat, 0 < n ∧ n < 1000000 ∧ ss = [.dat (.adr tp), .dat (.int (n : Int))] ∧ ∀ r : Nat, r < n → P (.dat (.int (r : Int)))
theorem mod_nat {i : Int} {n : Nat} (h : 0 < n) : ∃ r : Nat, r < n ∧ i % (n : Int) = (r : Int) := by
  have h1 := Int.emod_nonneg i (show (n : Int) ≠ 0 by omega)
  have h2 := Int.emod_lt_of_pos i (show (0 : Int) < n by omega)
  exact ⟨(i % (n : Int)).toNat, by omega, by omega⟩
theorem cPick (M : Mf mg) (D : Dn K mg "_law_pick" s__law_pick) : Cal P w K mg base 1 "_law_pick" (spD (VL w T tp sp) (aPick tp)) [] := by
  have sc := sc__law_pick
  refine cal_raw D sc bd__law_pick (fun vs H Q E ⟨ss, _, h, _, ⟨n, _, _, e, _⟩, _⟩ => by rw [h.len, e]; rfl) fun f cdv A' outer s H E hr => ⟨_, (pss_cons (ps_if (pt_cmpR op_gt (pe_ix (show IxR _ (rIxL K) from ix_list) (pv 0) pe_int (fun _ _ => rfl)) pe_int (nomark _)) (pss_cons (ps_set (i := 2) sc.nd rfl (by first | exact .inl rfl | exact .inr rfl) (pe_op op_mod (pe_callTy (show CallR _ _ rInt1 from call_int1) (by rfl) M.int_ boot_int (pa_cons (pe_ix (show IxR _ (rIxL K) from ix_list) (pv 0) pe_int (fun _ _ => rfl)) pa_nil)) (pv 1)))
      (pss_cons (ps_asg (pe_op op_fdiv (pe_ix (show IxR _ (rIxL K) from ix_list) (pv 0) pe_int (fun _ _ => rfl)) (pv 1)) (pg_sub (pv 0) pe_int set_list))
      (pss_one (ps_ret (pv 2))))) pss_nil)
      (pss_cons (ps_asg (pe_op op_add (pe_ix (show IxR _ (rIxL K) from ix_list) (pv 0) pe_int (fun _ _ => rfl)) pe_int) (pg_sub (pv 0) pe_int set_list))
      (pss_cons (ps_set (i := 3) sc.nd rfl (by first | exact .inl rfl | exact .inr rfl) pe_int)
      (pss_cons (ps_if (pt_cmpR op_lt (pe_ix (show IxR _ (rIxL K) from ix_list) (pv 0) pe_int (fun _ _ => rfl)) (pe_callB (show CallR _ _ (rLen K) from call_len_seq) (by rfl) M.len_ PySem.boot_len (pa_cons (pe_ix (show IxR _ (rIxL K) from ix_list) (pv 0) pe_int (fun _ _ => rfl)) pa_nil)) (nomark _)) (pss_cons (ps_set (i := 3) sc.nd rfl (by first | exact .inl rfl | exact .inr rfl) (pe_ix (show IxR _ (rIxL K) from ix_list) (pe_ix (show IxR _ (rIxL K) from ix_list) (pv 0) pe_int (fun _ _ => rfl)) (pe_ix (show IxR _ (rIxL K) from ix_list) (pv 0) pe_int (fun _ _ => rfl)) (fun _ _ => rfl)))
      (pss_one (ps_asg (pe_op op_add (pe_ix (show IxR _ (rIxL K) from ix_list) (pv 0) pe_int (fun _ _ => rfl)) pe_int) (pg_sub (pv 0) pe_int set_list)))) pss_nil)
      (pss_cons (ps_if (pt_cmpR op_ge (pv 3) (pe_op op_pow pe_int pe_int) (nomark _)) (pss_cons (ps_asg (pe_op op_fdiv (pv 3) (pv 1)) (pg_sub (pv 0) pe_int set_list))
      (pss_one (ps_ret (pe_op op_mod (pe_callTy (show CallR _ _ rInt1 from call_int1) (by rfl) M.int_ boot_int (pa_cons (pv 3) pa_nil)) (pv 1))))) pss_nil)
      (pss_cons (ps_set (i := 4) sc.nd rfl (by first | exact .inl rfl | exact .inr rfl) (pe_op op_mod (pe_callTy (show CallR _ _ rInt1 from call_int1) (by rfl) M.int_ boot_int (pa_cons (pe_op op_add (pe_op op_add (pe_op op_mul (pe_ix (show IxR _ (rIxL K) from ix_list) (pv 0) pe_int (fun _ _ => rfl)) pe_int) (pe_op op_mod (pe_callTy (show CallR _ _ rInt1 from call_int1) (by rfl) M.int_ boot_int (pa_cons (pv 3) pa_nil)) pe_int)) (pe_op op_mul (pe_ix (show IxR _ (rIxL K) from ix_list) (pv 0) pe_int (fun _ _ => rfl)) pe_int)) pa_nil)) pe_int))
      (pss_cons (ps_set (i := 4) sc.nd rfl (by first | exact .inl rfl | exact .inr rfl) (pe_op op_mod (pe_callTy (show CallR _ _ rInt1 from call_int1) (by rfl) M.int_ boot_int (pa_cons (pe_op op_mul (pv 4) (pe_op op_add (pe_op op_fdiv (pv 4) pe_int) pe_int)) pa_nil)) pe_int))
      (pss_cons (ps_asg (pv 4) (pg_sub (pv 0) pe_int set_list))
      (pss_one (ps_ret (pe_op op_mod (pe_callTy (show CallR _ _ rInt1 from call_int1) (by rfl) M.int_ boot_int (pa_cons (pe_op op_fdiv (pv 4) pe_int) pa_nil)) (pv 1)))))))))))), ?_⟩
  rintro vs Q E' ⟨ss, Pp, hall, iv, ⟨n, hn0, hn, rfl, hP⟩, post⟩
  obtain ⟨v1, v2, rfl, hv1, hv2⟩ : ∃ v1 v2, vs = [v1, v2] ∧ DT H v1 (.adr tp) ∧ DT H v2 (.int (n : Int)) := by
    cases hall with
    | cons h1 r => cases r with
      | cons h2 r => cases r; exact ⟨_, _, rfl, h1, h2⟩
  cases hv1
  obtain rfl := DT.int_inv hv2
  obtain ⟨i1, i2, ns, a1, a2, a3, a4, h1, h2⟩ := id iv
  have h1 : H tp = some (.lst [.ref sp, .int (a1 : Int), .int a2, .int a3, .int a4]) := h1
  have cdiv : ∀ i : Int, CDiv i (n : Int) := fun i => ⟨by omega, by omega⟩
  have pos : (0 : Int) < (n : Int) := by omega
  have fin : ∀ (i : Int) (b1 : Nat) (b2 b3 b4 : Int), Q (.int (i % (n : Int))) (upd H tp (tapeO sp b1 b2 b3 b4)) := fun i b1 b2 b3 b4 => by
    obtain ⟨r, hr, e⟩ := mod_nat (i := i) hn0
    rw [e]
    obtain ⟨j1, j2⟩ := vl_turn iv b1 b2 b3 b4
    exact post _ _ _ j2 j1 (hP r hr) (.dat (.int _))
  refine s_seq (s_if (b := decide (1 < a2)) (ev_I0 (ev_ixL (ev_var rfl) ev_c h1 rfl) ev_c) (fun hb => ?_) fun hb => s_next ?_)
  · try dsimp only
    refine s_seq (s_asg (ev_I (ev_int (ev_ixL (ev_var rfl) ev_c h1 rfl)) (ev_var rfl) pos) ?_)
    try dsimp only
    refine s_seq (s_setL (ev_I (ev_ixL (ev_var rfl) ev_c h1 rfl) (ev_var rfl) (cdiv _)) (ev_var rfl) ev_c h1 rfl ?_)
    try dsimp only
    exact s_ret (ev_var rfl) (fin a2 a1 (a2 / n) a3 a4)
  try dsimp only
  refine s_seq (s_setL (ev_I0 (ev_ixL (ev_var rfl) ev_c h1 rfl) ev_c) (ev_var rfl) ev_c h1 rfl ?_)
  try dsimp only
  refine s_seq (s_asg ev_c ?_)
  have last : ∀ (cell : Int) (b1 : Nat) (H' : Hp), H' = upd H tp (tapeO sp b1 a2 a3 (a4 + 1)) → ∀ D : Ends, (∀ i b1 b2 b3 b4, D.rt (.int (i % (n : Int))) (upd H tp (tapeO sp b1 b2 b3 b4))) →
      (tSeq (tIfS (tTest (tOp (rI0 fun i j => .bl (decide (j ≤ i))) (tVar 3) (tOp (rI CPow fun i j => .int (i ^ j.toNat)) (tC (.int 10)) (tC (.int 18)))))
        (tSeq (tAsg (tOp (rI CDiv fun i j => .int (i / j)) (tVar 3) (tVar 1)) (gSub (tVar 0) (tC (.int 2)) rSetL)) (tRet (tOp (rI (fun _ j => 0 < j) fun i j => .int (i % j)) (tCB rInt1 (tCons (tVar 3) tNil)) (tVar 1)))) tNext)
      (tSeq (tAsg (tOp (rI (fun _ j => 0 < j) fun i j => .int (i % j)) (tCB rInt1 (tCons (tOp (rI0 fun i j => .int (i + j)) (tOp (rI0 fun i j => .int (i + j)) (tOp (rI CMul fun i j => .int (i * j)) (tOp (rIxL K) (tVar 0) (tC (.int 3))) (tC (.int 48271))) (tOp (rI (fun _ j => 0 < j) fun i j => .int (i % j)) (tCB rInt1 (tCons (tVar 3) tNil)) (tC (.int 2147483629)))) (tOp (rI CMul fun i j => .int (i * j)) (tOp (rIxL K) (tVar 0) (tC (.int 4))) (tC (.int 69621)))) tNil)) (tC (.int 2147483647))) (gName 4))
      (tSeq (tAsg (tOp (rI (fun _ j => 0 < j) fun i j => .int (i % j)) (tCB rInt1 (tCons (tOp (rI CMul fun i j => .int (i * j)) (tVar 4) (tOp (rI0 fun i j => .int (i + j)) (tOp (rI CDiv fun i j => .int (i / j)) (tVar 4) (tC (.int 1009))) (tC (.int 40692)))) tNil)) (tC (.int 2147483399))) (gName 4))
      (tSeq (tAsg (tVar 4) (gSub (tVar 0) (tC (.int 3)) rSetL))
      (tRet (tOp (rI (fun _ j => 0 < j) fun i j => .int (i % j)) (tCB rInt1 (tCons (tOp (rI CDiv fun i j => .int (i / j)) (tVar 4) (tC (.int 16))) tNil)) (tVar 1))))))) D [some (.ref tp), some (.int (n : Int)), none, some (.int cell), none] H' := fun cell b1 H' e D hD => by
    have h3 : H' tp = some (.lst [.ref sp, .int (b1 : Int), .int a2, .int a3, .int (a4 + 1)]) := by rw [e]; exact upd_same
    try dsimp only
    refine s_seq (s_if (b := decide ((10 : Int) ^ (18 : Int).toNat ≤ cell)) (ev_I0 (ev_var rfl) (ev_I ev_c ev_c ⟨by decide, by decide, by decide⟩)) (fun hb => ?_) fun hb => s_next ?_)
    · try dsimp only
      refine s_seq (s_setL (ev_I (ev_var rfl) (ev_var rfl) (cdiv _)) (ev_var rfl) ev_c h3 rfl ?_)
      try dsimp only
      refine s_ret (ev_I (ev_int (ev_var rfl)) (ev_var rfl) pos) ?_
      rw [e, upd_upd]
      exact hD cell b1 (cell / n) a3 (a4 + 1)
    try dsimp only
    refine s_seq (s_asg (ev_I (ev_int (ev_I0 (ev_I0 (ev_I (ev_ixL (ev_var rfl) ev_c h3 rfl) ev_c (.inr ⟨by decide, by decide⟩)) (ev_I (ev_int (ev_var rfl)) ev_c (by decide))) (ev_I (ev_ixL (ev_var rfl) ev_c h3 rfl) ev_c (.inr ⟨by decide, by decide⟩)))) ev_c (by decide)) ?_)
    generalize a3 * 48271 + cell % 2147483629 + (a4 + 1) * 69621 = x
    have hx1 := Int.emod_nonneg x (show (2147483647 : Int) ≠ 0 by decide)
    have hx2 := Int.emod_lt_of_pos x (show (0 : Int) < 2147483647 by decide)
    try dsimp only
    refine s_seq (s_asg (ev_I (ev_int (ev_I (ev_var rfl) (ev_I0 (ev_I (ev_var rfl) ev_c ⟨by decide, by decide⟩) ev_c) (.inl ⟨by omega, by omega⟩))) ev_c (by decide)) ?_)
    try dsimp only
    refine s_seq (s_setL (ev_var rfl) (ev_var rfl) ev_c h3 rfl ?_)
    try dsimp only
    refine s_ret (ev_I (ev_int (ev_I (ev_var rfl) ev_c ⟨by decide, by decide⟩)) (ev_var rfl) pos) ?_
    rw [e, upd_upd]
    exact hD _ b1 a2 _ (a4 + 1)
  have h3 : upd H tp (.lst ([V.ref sp, .int (a1 : Int), .int a2, .int a3, .int a4].set 4 (.int (a4 + 1)))) tp = some (.lst [.ref sp, .int (a1 : Int), .int a2, .int a3, .int (a4 + 1)]) := upd_same
  have h4 : upd H tp (.lst ([V.ref sp, .int (a1 : Int), .int a2, .int a3, .int a4].set 4 (.int (a4 + 1)))) sp = some (.lst (ns.map V.int)) := by rw [upd_ne i2]; exact h2
  try dsimp only
  refine s_seq (s_if (b := decide ((a1 : Int) < ((ns.map V.int).length : Int))) (ev_I0 (ev_ixL (ev_var rfl) ev_c h3 rfl) (ev_len (ev_ixL (ev_var rfl) ev_c h3 rfl) h4)) (fun hb => ?_) fun hb => s_next ?_)
  · have hlt : a1 < (ns.map V.int).length := by have z := of_decide_eq_true hb; omega
    rw [List.length_map] at hlt
    have hat : atI (ns.map V.int) (a1 : Int) = some (.int ns[a1]) := at_of rfl (by rw [List.getElem?_map, List.getElem?_eq_getElem hlt]; rfl)
    try dsimp only
    refine s_seq (s_asg (ev_ixL (ev_ixL (ev_var rfl) ev_c h3 rfl) (ev_ixL (ev_var rfl) ev_c h3 rfl) h4 hat) ?_)
    try dsimp only
    refine s_setL (ev_I0 (ev_ixL (ev_var rfl) ev_c h3 rfl) ev_c) (ev_var rfl) ev_c h3 rfl ?_
    exact last ns[a1] (a1 + 1) _ (by rw [upd_upd]; rfl) _ fun i b1 b2 b3 b4 => fin i b1 b2 b3 b4
  · exact last 0 a1 _ rfl _ fun i b1 b2 b3 b4 => fin i b1 b2 b3 b4
end
end K13
end
section
set_option Elab.async false
set_option linter.all false
set_option maxRecDepth 100000
set_option maxHeartbeats 4000000
set_option autoImplicit false
local macro_rules | `(tactic| walk_at "fg") => `(tactic| (repeat' (first | exact True.intro | exact rfl | constructor)))
namespace K13
open PySem PySem.Spec PyProof.Rows L2 C8 NdefX LamX
section
variable {U : Vol} {E : DEnv} {G : DE} {K : PySem.W.Frag}
/-- for, over what P tells, by a state -/
theorem d_forPS {α : Type} {wi : TI} {g : TG} {tb : TS} {P : List Dt → Prop} (st : List Dt → Nat → α → Prop) (env : α → DEnv) (hi : IterP U wi E P) (x0 : α) (h0 : (∀ ds, P ds → st ds 0 x0) ∧ Fg E (env x0))
    (hs : ∀ ds i d x, P ds → ds[i]? = some d → st ds i x → ∃ E'' js, GD U g d (env x) E'' js ∧ DS U tb E'' { G with nx := fun E' => ∃ y, st ds (i + 1) y ∧ Fg E' (env y), ct := fun E' => ∃ y, st ds (i + 1) y ∧ Fg E' (env y), bk := G.nx }) (hd : ∀ ds x, P ds → st ds ds.length x → G.nx (env x)) : DS U (tFor wi g tb) E G := fun D H0 σ H S F => by
  refine d_forP (U := U) (E := E) (G := { G with nx := fun E' => (∃ ds x, P ds ∧ st ds ds.length x ∧ Fg E' (env x)) ∨ G.nx E' }) (fun ds i E' => ∃ x, st ds i x ∧ Fg E' (env x)) hi (fun ds p => ⟨x0, h0.1 ds p, h0.2⟩) (fun ds i d E' p h1 ⟨x, h2, h3⟩ => ?_) (fun ds E' p ⟨x, h1, h2⟩ => .inl ⟨ds, x, p, h1, h2⟩) D H0 σ H S ⟨fun E' σ' H' q T => ?_, F.rt, F.bk, F.ct⟩
  · obtain ⟨E'', js, g1, g2⟩ := hs ds i d x p h1 h2
    refine ⟨E'', js, fun H0 σ H x S hx Q q => g1 H0 σ H x (S.fg h3) hx Q q, fun D H0 σ H S F => g2 D H0 σ H S ⟨F.nx, F.rt, fun E' σ' H' q T => F.bk E' σ' H' (.inr q) T, F.ct⟩⟩
  · rcases q with ⟨ds, x, p, q1, q2⟩ | q
    · exact F.nx _ _ _ (hd ds x p q1) (T.fg q2)
    · exact F.nx _ _ _ q T
end
section
variable {U : Vol} {E : DEnv}
theorem e_lstP {ta : TA} {A : List Sl → Prop} {C : Sl → Prop} (h : EvA U ta E A) (hc : ∀ ss, A ss → ∃ ds : List Dt, ss = ds.map .dat ∧ ds.length ≤ 1000000 ∧ C (.ol ds)) : EvP U (tLst ta) E C := fun H0 σ H S Q q => h H0 σ H S _ fun xs H1 ss x1 i1 p1 n1 => by
  obtain ⟨ds, rfl, hl, hC⟩ := hc ss p1
  have hs := n1.data
  refine ⟨by rw [hs.len]; exact Nat.le_trans hl (by decide), fun p np => ?_⟩
  exact Post.newL (P := C) (fun v H' s x i p n => q v H' s (x1.trans x) i p (n.later x1)) hC i1 hs np
end
section
variable {P : Program} {w : World} {K : PySem.W.Frag} {mg : Str → Option Value} {base : Heap} {mk : Str} {ev : List Str} {m : Nat} {T : List NTab} {tp sp : Addr}
/-- one draw -/
theorem e_pick {E : DEnv} {Ew : XK} {i n : Nat} {te : TE} (h0 : E[i]? = some (some (.dat (.adr tp)))) (ht : EvD (VL w T tp sp) te E (.int (n : Int))) (hn : 0 < n) (hn2 : n < 1000000) : EvP (VL w T tp sp) (tCall (spD (VL w T tp sp) (aPick tp)) [] Ew (tCons (tVar i) (tCons te tNil))) E (fun s => ∃ r : Nat, r < n ∧ s = .dat (.int (r : Int))) :=
  e_callU (B := (· = [.dat (.adr tp), .dat (.int (n : Int))])) (ea_cons (e_var h0) (ea_cons ht ea_nil)) fun ss e => ⟨n, hn, hn2, e, fun r hr => ⟨r, hr, rfl⟩⟩
/-- a draw, compared with a number -/
theorem e_pickEq {E : DEnv} {Ew : XK} {i n : Nat} {te tc : TE} {c : Int} (h0 : E[i]? = some (some (.dat (.adr tp)))) (ht : EvD (VL w T tp sp) te E (.int (n : Int))) (hn : 0 < n) (hn2 : n < 1000000) (hc : EvD (VL w T tp sp) tc E (.int c)) : EvP (VL w T tp sp) (tOp rEq (tCall (spD (VL w T tp sp) (aPick tp)) [] Ew (tCons (tVar i) (tCons te tNil))) tc) E (fun s => ∃ b, s = .dat (.bl b) ∧ True) :=
  e_op (e_pick h0 ht hn hn2) hc fun s t ⟨r, _, e1⟩ e2 => by rw [e1, e2]; exact rp_eqI.imp fun s e => ⟨_, e, trivial⟩
/-! ### _law_flag -/
abbrev s__law_flag : Stmt := topS 52
theorem sc__law_flag : FnScope ["_law_told", "_law_due"] ["_law_told", "_law_due"] (defScope s__law_flag) := ⟨rfl, rfl, rfl, by decide +kernel, rfl, by decide +kernel, by decide +kernel⟩
theorem bd__law_flag : Bd "_law_flag" s__law_flag ["_law_told", "_law_due"] := fun _ _ _ _ _ _ us hl => match us, hl with | [_, _], _ => rfl
def aFlag : Ask := fun ss P => ∃ a b : Bool, ss = [.dat (.bl a), .dat (.bl b)] ∧ P (.dat (.bl (decide (a = b))))
theorem cFlag (M : Mf mg) (D : Dn K mg "_law_flag" s__law_flag) : Cal P w K mg base 1 "_law_flag" (spD (V0 w) aFlag) [] := by
  have sc := sc__law_flag
  refine cal_of D sc bd__law_flag (fine1 fun ss P ⟨_, _, e, _⟩ => ⟨[_, _], e, rfl⟩) (by decide) fun f cdv A' outer s H E hr => ⟨_, (pss_one (ps_ret (pe_and (pe_callB (show CallR _ _ (rIsi K) from call_isi) (by rfl) M.isinstance_ boot_isinstance (pa_cons (pv 0) (pa_cons (pe_bltn (v := .ty "bool") (by rfl) M.bool_ boot_bool rfl) pa_nil))) (pe_one (pe_cmpR op_eq (pv 0) (pv 1) (nomark _)))))), ?_⟩
  rintro ss Pp ⟨a, b, rfl, hP⟩
  exact d_ret (d := .bl (true && decide (a = b))) (e_andV (e_isiB (e_var rfl) rfl kitBB) fun _ => e_opD (e_var rfl) (e_var rfl) rp_eqB) (by rw [Bool.true_and]; exact hP)
/-! ### _law_lot -/
abbrev s__law_lot : Stmt := topS 57
theorem sc__law_lot : FnScope ["_law_tape_here", "_law_every", "_law_few", "_law_found", "_law_k", "_law_kind"] ["_law_tape_here", "_law_every"] (defScope s__law_lot) := ⟨rfl, rfl, rfl, by decide +kernel, rfl, by decide +kernel, by decide +kernel⟩
theorem bd__law_lot : Bd "_law_lot" s__law_lot ["_law_tape_here", "_law_every"] := fun _ _ _ _ _ _ us hl => match us, hl with | [_, _], _ => rfl
def aLot (tp : Addr) (ev : List Str) (m : Nat) : Ask := fun ss P => ss = [.dat (.adr tp), .rl (ev.map .str)] ∧ ∀ a, ValidLot m a → P (.dat (eLot ev a))
theorem fineLot (tp : Addr) (ev : List Str) (m : Nat) : Fine (aLot tp ev m) 2 := ⟨fun ss P ⟨e, _⟩ => by subst e; exact ⟨rfl, fun s hs => by simp at hs; rcases hs with h | h <;> subst h <;> rfl⟩⟩
theorem ev_get {ev : List Str} {m : Nat} (h : EvOk ev m) {i : Nat} (hi : i < m) : (ev.map Dt.str)[i]? = some (.str (kd ev i)) := by
  unfold kd
  rw [List.getElem?_map, List.getD_eq_getElem?_getD, List.getElem?_eq_getElem (by rw [h.len]; exact hi)]
  rfl
theorem ev_inv {ev : List Str} {m : Nat} (h : EvOk ev m) {i : Nat} {d : Dt} (hd : (ev.map Dt.str)[i]? = some d) : i < m ∧ d = .str (kd ev i) := by
  have hi : i < m := by have z := (List.getElem?_eq_some_iff.mp hd).1; rw [List.length_map, h.len] at z; exact z
  rw [ev_get h hi] at hd
  exact ⟨hi, (Option.some.inj hd).symm⟩
theorem cLot (h : EvOk ev m) (hm : 0 < m) (hm8 : m ≤ 8) (M : Mf mg) (c_law_pick : Cal P w K mg base 1 "_law_pick" (spD (VL w T tp sp) (aPick tp)) []) (D : Dn K mg "_law_lot" s__law_lot) : Cal P w K mg base 2 "_law_lot" (spD (VL w T tp sp) (aLot tp ev m)) [] := by
  have sc := sc__law_lot
  refine cal_of D sc bd__law_lot (fineLot tp ev m) (by decide) fun f cdv A' outer s H E hr => ⟨_, (pss_cons (ps_if (PW.pt (pw_and (pt_cmpR op_gt (pe_callB (show CallR _ _ (rLen K) from call_len_seq) (by rfl) M.len_ PySem.boot_len (pa_cons (pv 1) pa_nil)) pe_int (nomark _)) (pw_and1 (pt_cmpR op_eq (pe_c c_law_pick hr (by decide) (by rfl) (pa_cons (pv 0) (pa_cons pe_int pa_nil))) pe_int (nomark _))))) (pss_cons (ps_set (i := 2) sc.nd rfl (by first | exact .inl rfl | exact .inr rfl) (pe_lc rfl sc.nd (pi_range1 (by rfl) M.range_ (pa_cons (pe_op op_add pe_int (pe_c c_law_pick hr (by decide) (by rfl) (pa_cons (pv 0) (pa_cons pe_int pa_nil)))) pa_nil)) (blk_of (N := ["_law_tape_here", "_law_every", "_law_few", "_law_found", "_law_k", "_law_kind"]) (sc := defScope s__law_lot) (own := [("_law_k", 4)]) (by decide +kernel)) (fun _ _ _ _ _ => (pg_name (i := 4) sc.nd rfl (by first | exact .inl rfl | exact .inr rfl))) (fun _ _ _ _ _ => pts_nil) (fun _ _ _ _ _ => (pe_ix (show IxR _ (rIxL K) from ix_list) (pv 1) (pe_c c_law_pick hr (by decide) (by rfl) (pa_cons (pv 0) (pa_cons (pe_callB (show CallR _ _ (rLen K) from call_len_seq) (by rfl) M.len_ PySem.boot_len (pa_cons (pv 1) pa_nil)) pa_nil))) (fun _ _ => rfl)))))
      (pss_one (ps_ret (show PE _ _ (tThen _ (kTup K)) from pe_tupleOf (by rfl) M.tuple_ (pe_callB (show CallR _ _ (rSortedS K) from cr_sortedS) (by rfl) M.sorted_ boot_sorted (pa_cons (pe_lc rfl sc.nd (show PI _ _ _ (iList K _) from pi_list (pv 1)) (blk_of (N := ["_law_tape_here", "_law_every", "_law_few", "_law_found", "_law_k", "_law_kind"]) (sc := defScope s__law_lot) (own := [("_law_kind", 5)]) (by decide +kernel)) (fun _ _ _ _ _ => (pg_name (i := 5) sc.nd rfl (by first | exact .inl rfl | exact .inr rfl))) (fun _ _ _ _ _ => (pts_one (pt_cmpR (show OpR _ _ (rIn K false) from op_in_seq) (pv 5) (pv 2) (by rfl)))) (fun _ _ _ _ _ => (pv 5))) pa_nil)))))) pss_nil)
      (pss_cons (ps_setLc (i := 3) rfl sc.nd rfl rfl rfl (show PI _ _ _ (iList K _) from pi_list (pv 1)) (blk_of (N := ["_law_tape_here", "_law_every", "_law_few", "_law_found", "_law_k", "_law_kind"]) (sc := defScope s__law_lot) (own := [("_law_kind", 5)]) (by decide +kernel)) (fun _ _ _ _ _ => (pg_name (i := 5) sc.nd rfl (by first | exact .inl rfl | exact .inr rfl))) (fun _ _ _ _ _ => (pts_one (pt_cmpR op_eq (pe_c c_law_pick hr (by decide) (by rfl) (pa_cons (pv 0) (pa_cons pe_int pa_nil))) pe_int (nomark _)))) (fun _ _ _ _ _ => (pv 5)))
      (pss_cons (ps_if (pt_cmpR op_eq (pe_callB (show CallR _ _ (rLen K) from call_len_seq) (by rfl) M.len_ PySem.boot_len (pa_cons (pv 3) pa_nil)) pe_int (nomark _)) (pss_one (ps_set (i := 3) sc.nd rfl (by first | exact .inl rfl | exact .inr rfl) (pe_lst (pa_cons (pe_ix (show IxR _ (rIxL K) from ix_list) (pv 1) (pe_c c_law_pick hr (by decide) (by rfl) (pa_cons (pv 0) (pa_cons (pe_callB (show CallR _ _ (rLen K) from call_len_seq) (by rfl) M.len_ PySem.boot_len (pa_cons (pv 1) pa_nil)) pa_nil))) (fun _ _ => rfl)) pa_nil)))) pss_nil)
      (pss_one (ps_ret (show PE _ _ (tThen _ (kTup K)) from pe_tupleOf (by rfl) M.tuple_ (pv 3))))))), ?_⟩
  rintro ss Pp ⟨rfl, hP⟩
  refine d_seq (d_ifD (b := false) (b_andD (a := false) (b := false) ((b_test (e_opD (e_cb1 (e_rl rfl) (rc_lenLn (n := m) (by rw [List.length_map, h.len]))) e_int rp_gt)).imp fun b e => ?_) fun z => by cases z) (fun z => by cases z) fun _ => d_next ?_)
  · rw [e, decide_eq_false (by omega)]
  refine d_seq (d_asgP (P := fun s => ∃ a : List Nat, s = .ol ((a.map (kd ev)).map .str) ∧ a.Pairwise (· < ·) ∧ ∀ j ∈ a, j < m) ((e_lcP (P := (· = ev.map .str)) (fun ds i acc => ∃ a : List Nat, acc = (a.map (kd ev)).map .str ∧ a.Pairwise (· < ·) ∧ ∀ j ∈ a, j < i) (i_list (l_rl rfl)) (fun ds e => ⟨⟨[], rfl, .nil, (fun j hj => by cases hj)⟩, by rw [e, List.length_map, h.len]; omega⟩) (fun ds i d acc e hd hI => ?_)).imp ?_) ?_ ?_)
  · subst e
    obtain ⟨hi, rfl⟩ := ev_inv h hd
    obtain ⟨a, rfl, a1, a2⟩ := hI
    refine ⟨_, _, fun _ => True, gd_name, by decide, b_testP (e_pickEq (n := 2) rfl e_int (by decide) (by decide) e_int), fun _ => (e_var (d := .str (kd ev i)) rfl).imp fun s e => ⟨_, e, a ++ [i], by rw [List.map_append, List.map_append]; rfl, ?_, fun j hj => ?_⟩, fun _ => ⟨a, rfl, a1, fun j hj => Nat.lt_succ_of_lt (a2 j hj)⟩⟩
    · refine List.pairwise_append.mpr ⟨a1, by simp, fun x hx y hy => ?_⟩
      rw [List.mem_singleton.mp hy]
      exact a2 x hx
    · rcases List.mem_append.mp hj with hj | hj
      · exact Nat.lt_succ_of_lt (a2 j hj)
      · rw [List.mem_singleton.mp hj]; exact Nat.lt_succ_self i
  · rintro s ⟨acc, rfl, ds, rfl, a, rfl, a1, a2⟩
    refine ⟨a, rfl, a1, fun j hj => ?_⟩
    have := a2 j hj
    rw [List.length_map, h.len] at this
    exact this
  · rintro s ⟨a, rfl, _⟩ _; rfl
  rintro _ ⟨a, rfl, a1, a2⟩
  have al : a.length ≤ m := nodup_lt m a (List.nodup_iff_pairwise_ne.mpr (a1.imp fun {x y} hxy => Nat.ne_of_lt hxy)) a2
  refine d_seq (d_ifD (b := decide ((a.length : Int) = 0)) (b_test (e_opD (e_cb1 (e_ol rfl) (rc_lenLn (by rw [List.length_map, List.length_map]))) e_int rp_eqI)) (fun hb => ?_) fun hb => d_next ?_)
  · refine d_asgP (P := fun s => ∃ k, k < m ∧ s = .ol [.str (kd ev k)]) ?_ (fun s ⟨k, _, e⟩ => own_ol s e) ?_
    · refine e_lstP (ea_consP (A := fun s => ∃ k, k < m ∧ s = .dat (.str (kd ev k))) (e_op (A := (· = .rl (ev.map .str))) (e_rl rfl) (e_pick (n := m) rfl (e_cb1 (e_rl rfl) (rc_lenLn (by rw [List.length_map, h.len]))) hm (by omega)) fun s t e1 ⟨r, hr, e2⟩ => by rw [e1, e2]; exact (rp_ixL (ev_get h hr)).imp fun s e => ⟨r, hr, e⟩) ea_nil) ?_
      rintro ss ⟨s, r, rfl, ⟨k, hk, rfl⟩, rfl⟩
      exact ⟨[.str (kd ev k)], rfl, Nat.le_of_ble_eq_true rfl, k, hk, rfl⟩
    · rintro _ ⟨k, hk, rfl⟩
      exact d_ret (d := eLot ev [k]) (e_tupleD (e_ol rfl)) (hP [k] ⟨(fun z => by cases z), by simp, fun j hj => by rw [List.mem_singleton.mp hj]; exact hk⟩)
  · have hne : a ≠ [] := fun e => by rw [e] at hb; cases hb
    exact d_ret (d := eLot ev a) (e_tupleD (e_ol rfl)) (hP a ⟨hne, a1, a2⟩)
/-! ### _law_lots -/
abbrev s__law_lots : Stmt := topS 58
theorem sc__law_lots : FnScope ["_law_tape_here", "_law_every", "_law_most", "_law_found", "_law_k"] ["_law_tape_here", "_law_every", "_law_most"] (defScope s__law_lots) := ⟨rfl, rfl, rfl, by decide +kernel, rfl, by decide +kernel, by decide +kernel⟩
theorem bd__law_lots : Bd "_law_lots" s__law_lots ["_law_tape_here", "_law_every", "_law_most"] := fun _ _ _ _ _ _ us hl => match us, hl with | [_, _, _], _ => rfl
def aLots (tp : Addr) (ev : List Str) (m : Nat) : Ask := fun ss P => ss = [.dat (.adr tp), .rl (ev.map .str), .dat (.int 4)] ∧ ∀ L, ValidL m L → L.length ≤ 4 → P (.dat (eLots ev L))
theorem fineLots (tp : Addr) (ev : List Str) (m : Nat) : Fine (aLots tp ev m) 3 := ⟨fun ss P ⟨e, _⟩ => by subst e; exact ⟨rfl, fun s hs => by simp at hs; rcases hs with h | h | h <;> subst h <;> rfl⟩⟩
theorem ValidL.snoc {L : Lots} {a : Lot} (h : ValidL m L) (ha : ValidLot m a) : ValidL m (L ++ [a]) := fun b hb => (List.mem_append.mp hb).elim (h b) fun z => by rw [List.mem_singleton.mp z]; exact ha
theorem cLots (M : Mf mg) (c_law_pick : Cal P w K mg base 1 "_law_pick" (spD (VL w T tp sp) (aPick tp)) []) (c_law_lot : Cal P w K mg base 2 "_law_lot" (spD (VL w T tp sp) (aLot tp ev m)) []) (D : Dn K mg "_law_lots" s__law_lots) : Cal P w K mg base 3 "_law_lots" (spD (VL w T tp sp) (aLots tp ev m)) [] := by
  have sc := sc__law_lots
  refine cal_of D sc bd__law_lots (fineLots tp ev m) (by decide) fun f cdv A' outer s H E hr => ⟨_, (pss_cons (ps_set (i := 3) sc.nd rfl (by first | exact .inl rfl | exact .inr rfl) (pe_lst pa_nil))
      (pss_cons (ps_for PassesOwn.never rfl (pi_range1 (by rfl) M.range_ (pa_cons (pe_c c_law_pick hr (by decide) (by rfl) (pa_cons (pv 0) (pa_cons (pe_op op_add (pv 2) pe_int) pa_nil))) pa_nil)) (pg_name (i := 4) sc.nd rfl (by first | exact .inl rfl | exact .inr rfl)) (pss_one (ps_if (PW.pt (pw_and (pt_cmpR op_gt (pe_callB (show CallR _ _ (rLen K) from call_len_seq) (by rfl) M.len_ PySem.boot_len (pa_cons (pv 3) pa_nil)) pe_int (nomark _)) (pw_and1 (pt_cmpR op_eq (pe_c c_law_pick hr (by decide) (by rfl) (pa_cons (pv 0) (pa_cons pe_int pa_nil))) pe_int (nomark _))))) (pss_one (ps_expr (show PE _ _ (tBM K _ _ _ _) from pe_bm PySem.F.plainAttrs_list PySem.F.slot_list_append PySem.F.type_list_append mt_append (pv 3) (pa_cons (pe_ix (show IxR _ (rIxL K) from ix_list) (pv 3) (pe_c c_law_pick hr (by decide) (by rfl) (pa_cons (pv 0) (pa_cons (pe_callB (show CallR _ _ (rLen K) from call_len_seq) (by rfl) M.len_ PySem.boot_len (pa_cons (pv 3) pa_nil)) pa_nil))) (fun _ _ => rfl)) pa_nil)))) (pss_one (ps_expr (show PE _ _ (tBM K _ _ _ _) from pe_bm PySem.F.plainAttrs_list PySem.F.slot_list_append PySem.F.type_list_append mt_append (pv 3) (pa_cons (pe_c c_law_lot hr (by decide) (by rfl) (pa_cons (pv 0) (pa_cons (pv 1) pa_nil))) pa_nil)))))))
      (pss_one (ps_ret (show PE _ _ (tThen _ (kTup K)) from pe_tupleOf (by rfl) M.tuple_ (pv 3)))))), ?_⟩
  rintro ss Pp ⟨rfl, hP⟩
  refine d_seq (d_asgN (ds := []) (e_lst (ds := []) ea_nil) ?_)
  refine d_seq (d_forPS (α := Lots) (P := fun ds => ∃ n : Nat, n ≤ 4 ∧ ds = rngD 0 n) (fun ds i L => ValidL m L ∧ L.length ≤ i) (fun L => [some (.dat (.adr tp)), some (.rl (ev.map .str)), some (.dat (.int 4)), some (.ol (L.map (eLot ev))), none])
    (i_range1 (A := fun j => ∃ n : Nat, n < 5 ∧ j = (n : Int)) ((ea_consP (e_pick (n := 5) rfl (e_opD (e_var rfl) e_int rp_add) (by decide) (by decide)) ea_nil).imp ?_) ?_) [] ⟨fun ds _ => ⟨(fun a ha => by cases ha), Nat.le_refl _⟩, by walk_at "fg"⟩ (fun ds i d L hds hd hx => ?_) fun ds L hds hx => ?_)
  · rintro ss ⟨s, r, rfl, ⟨n, hn, rfl⟩, rfl⟩
    exact ⟨_, rfl, n, hn, rfl⟩
  · rintro j ⟨n, hn, rfl⟩
    exact ⟨by omega, by omega, n, by omega, by rw [Int.toNat_natCast]⟩
  · obtain ⟨n, hn, rfl⟩ := hds
    obtain ⟨rfl, hi⟩ := rng0_get hd
    obtain ⟨hv, hl⟩ := hx
    refine ⟨_, _, gd_name, d_if (P := fun b => b = true → L ≠ []) (b_and (P := (· = decide ((0 : Int) < (L.length : Int)))) (b_test (e_opD (e_cb1 (e_ol rfl) (rc_lenLn (List.length_map _))) e_int rp_gt)) (fun hb => (b_testP (e_pickEq (n := 5) rfl e_int (by decide) (by decide) e_int)).imp fun b _ _ e => by rw [e] at hb; cases hb) fun hb z => by cases z) (fun hb => ?_) fun hb => ?_⟩
    · have hne := hb rfl
      have hpos : 0 < L.length := List.length_pos_iff.mpr hne
      refine d_appP (P := fun d => ∃ a, ValidLot m a ∧ d = eLot ev a) rfl (e_op (A := (· = .rl (L.map (eLot ev)))) (e_ol rfl) (e_pick (n := L.length) rfl (e_cb1 (e_ol rfl) (rc_lenLn (List.length_map _))) hpos (by omega)) fun s t e1 ⟨r, hr, e2⟩ => by rw [e1, e2]; exact (rp_ixL (eLots_getD hr)).imp fun s e => ⟨_, e, _, hv _ (getD_mem hr), rfl⟩) (by rw [List.length_map]; omega) ?_
      rintro _ ⟨a, ha, rfl⟩
      refine ⟨L ++ [a], ⟨hv.snoc ha, by rw [List.length_append, List.length_singleton]; omega⟩, ?_⟩
      rw [List.map_append]
      walk_at "fg"
    · refine d_appP (P := fun d => ∃ a, ValidLot m a ∧ d = eLot ev a) rfl (e_callU (B := (· = [.dat (.adr tp), .rl (ev.map .str)])) (ea_cons (e_var rfl) (ea_cons (e_rl rfl) ea_nil)) fun ss e => ⟨e, fun a ha => ⟨_, rfl, a, ha, rfl⟩⟩) (by rw [List.length_map]; omega) ?_
      rintro _ ⟨a, ha, rfl⟩
      refine ⟨L ++ [a], ⟨hv.snoc ha, by rw [List.length_append, List.length_singleton]; omega⟩, ?_⟩
      rw [List.map_append]
      walk_at "fg"
  · obtain ⟨n, hn, rfl⟩ := hds
    obtain ⟨hv, hl⟩ := hx
    rw [rngD_len] at hl
    exact d_ret (d := eLots ev L) (e_tupleD (e_ol rfl)) (hP L hv (by omega))
/-! ### _law_moves -/
abbrev s__law_moves : Stmt := topS 60
theorem sc__law_moves : FnScope ["_law_tape_here", "_law_every", "_law_most", "_law_many", "_law_found", "_law_at", "_law_kind"] ["_law_tape_here", "_law_every", "_law_most"] (defScope s__law_moves) := ⟨rfl, rfl, rfl, by decide +kernel, rfl, by decide +kernel, by decide +kernel⟩
theorem bd__law_moves : Bd "_law_moves" s__law_moves ["_law_tape_here", "_law_every", "_law_most"] := fun _ _ _ _ _ _ us hl => match us, hl with | [_, _, _], _ => rfl
def aMoves (tp : Addr) (ev : List Str) (m : Nat) : Ask := fun ss P => ss = [.dat (.adr tp), .rl (ev.map .str), .dat (.int 6)] ∧ ∀ M, RuleOk M m → M.length ≤ 6 → P (.dat (eMoves M))
theorem fineMoves (tp : Addr) (ev : List Str) (m : Nat) : Fine (aMoves tp ev m) 3 := ⟨fun ss P ⟨e, _⟩ => by subst e; exact ⟨rfl, fun s hs => by simp at hs; rcases hs with h | h | h <;> subst h <;> rfl⟩⟩
theorem cMoves (h : EvOk ev m) (M : Mf mg) (c_law_pick : Cal P w K mg base 1 "_law_pick" (spD (VL w T tp sp) (aPick tp)) []) (D : Dn K mg "_law_moves" s__law_moves) : Cal P w K mg base 2 "_law_moves" (spD (VL w T tp sp) (aMoves tp ev m)) [] := by
  have sc := sc__law_moves
  refine cal_of D sc bd__law_moves (fineMoves tp ev m) (by decide) fun f cdv A' outer s H E hr => ⟨_, (pss_cons (ps_set (i := 3) sc.nd rfl (by first | exact .inl rfl | exact .inr rfl) (pe_op op_add pe_int (pe_c c_law_pick hr (by decide) (by rfl) (pa_cons (pv 0) (pa_cons (pv 2) pa_nil)))))
      (pss_cons (ps_set (i := 4) sc.nd rfl (by first | exact .inl rfl | exact .inr rfl) (pe_lst pa_nil))
      (pss_cons (ps_for PassesOwn.never rfl (pi_range1 (by rfl) M.range_ (pa_cons (pv 3) pa_nil)) (pg_name (i := 5) sc.nd rfl (by first | exact .inl rfl | exact .inr rfl)) (pss_one (ps_expr (show PE _ _ (tBM K _ _ _ _) from pe_bm PySem.F.plainAttrs_list PySem.F.slot_list_append PySem.F.type_list_append mt_append (pv 4) (pa_cons (show PE _ _ (tThen _ (kTup K)) from pe_tupleOf (by rfl) M.tuple_ (pe_lc rfl sc.nd (show PI _ _ _ (iList K _) from pi_list (pv 1)) (blk_of (N := ["_law_tape_here", "_law_every", "_law_most", "_law_many", "_law_found", "_law_at", "_law_kind"]) (sc := defScope s__law_moves) (own := [("_law_kind", 6)]) (by decide +kernel)) (fun _ _ _ _ _ => (pg_name (i := 6) sc.nd rfl (by first | exact .inl rfl | exact .inr rfl))) (fun _ _ _ _ _ => pts_nil) (fun _ _ _ _ _ => (pe_tup (pa_cons (pe_cmpR op_eq (pe_c c_law_pick hr (by decide) (by rfl) (pa_cons (pv 0) (pa_cons pe_int pa_nil))) pe_int (nomark _)) (pa_cons (pe_c c_law_pick hr (by decide) (by rfl) (pa_cons (pv 0) (pa_cons (pv 3) pa_nil))) pa_nil)))))) pa_nil)))))
      (pss_one (ps_ret (show PE _ _ (tThen _ (kTup K)) from pe_tupleOf (by rfl) M.tuple_ (pv 4))))))), ?_⟩
  rintro ss Pp ⟨rfl, hP⟩
  have hsm := h.sm
  refine d_seq (d_asgP (P := fun s => ∃ n : Nat, 0 < n ∧ n ≤ 6 ∧ s = .dat (.int (n : Int))) (e_op (A := (· = .dat (.int 1))) e_int (e_pick (n := 6) rfl (e_var rfl) (by decide) (by decide)) fun s t e1 ⟨r, hr, e2⟩ => by rw [e1, e2]; exact rp_add.imp fun s e => ⟨1 + r, by omega, by omega, by rw [e]; rfl⟩) (fun s ⟨n, _, _, e⟩ => own_dat s e) ?_)
  rintro _ ⟨n, hn0, hn, rfl⟩
  refine d_seq (d_asgN (ds := []) (e_lst (ds := []) ea_nil) ?_)
  refine d_seq (d_forS (α := Moves) (fun i M => M.length = i ∧ ∀ r ∈ M, r.length = m ∧ ∀ p ∈ r, p.2 < n) (fun _ M => [some (.dat (.adr tp)), some (.rl (ev.map .str)), some (.dat (.int 6)), some (.dat (.int (n : Int))), some (.ol (M.map eRow)), none, none])
    (i_range1D (n := n) (e_var rfl) (by omega)) [] ⟨⟨rfl, (fun r hr => by cases hr)⟩, by walk_at "fg"⟩ (fun i d M hd hx => ?_) fun M hx => ?_)
  · obtain ⟨rfl, hi⟩ := rng0_get hd
    obtain ⟨hl, hr⟩ := hx
    refine ⟨_, _, gd_name, d_appP (P := fun d => ∃ r : List (Bool × Nat), d = eRow r ∧ r.length = m ∧ ∀ p ∈ r, p.2 < n) rfl (e_tupleOf (P := fun ds => ∃ r : List (Bool × Nat), ds = r.map eMv ∧ r.length = m ∧ ∀ p ∈ r, p.2 < n) (EvP.rlP ((e_lcP (P := (· = ev.map .str)) (fun ds i acc => ∃ r : List (Bool × Nat), acc = r.map eMv ∧ r.length = i ∧ ∀ p ∈ r, p.2 < n) (i_list (l_rl rfl)) (fun ds e => ⟨⟨[], rfl, rfl, (fun p hp => by cases hp)⟩, by rw [e, List.length_map, h.len]; omega⟩) (fun ds i d acc e hd hI => ?_)).imp ?_)) |>.imp ?_) (by rw [List.length_map]; omega) ?_⟩
    · subst e
      obtain ⟨r, rfl, r1, r2⟩ := hI
      refine ⟨_, _, (· = true), gd_name, by decide, fun H0 σ H S Q q => q true H .refl S.inv rfl, fun _ => e_tupP (ea_consP (e_pickEq (n := 2) rfl e_int (by decide) (by decide) e_int) (ea_consP (e_pick (n := n) rfl (e_var rfl) hn0 (by omega)) ea_nil)) ?_, fun z => by cases z⟩
      rintro ss ⟨s, q, rfl, ⟨b, rfl, _⟩, s2, q2, rfl, ⟨g, hg, rfl⟩, rfl⟩
      refine ⟨[.bl b, .int (g : Int)], rfl, Nat.le_of_ble_eq_true rfl, _, rfl, r ++ [(b, g)], by rw [List.map_append]; rfl, by rw [List.length_append, r1]; rfl, fun p hp => ?_⟩
      rcases List.mem_append.mp hp with hp | hp
      · exact r2 p hp
      · rw [List.mem_singleton.mp hp]; exact hg
    · rintro s ⟨acc, rfl, ds, rfl, r, rfl, r1, r2⟩
      rw [List.length_map, h.len] at r1
      exact ⟨_, rfl, r, rfl, r1, r2⟩
    · rintro s ⟨ds, rfl, r, rfl, r1, r2⟩
      exact ⟨_, rfl, r, rfl, r1, r2⟩
    · rintro _ ⟨r, rfl, r1, r2⟩
      refine ⟨M ++ [r], ⟨by rw [List.length_append, hl]; rfl, fun x hx => ?_⟩, ?_⟩
      · rcases List.mem_append.mp hx with hx | hx
        · exact hr x hx
        · rw [List.mem_singleton.mp hx]; exact ⟨r1, r2⟩
      · show Fg _ _
        rw [List.map_append]
        walk_at "fg"
  · obtain ⟨hl, hr⟩ := hx
    rw [rngD_len] at hl
    exact d_ret (d := eMoves M) (e_tupleD (e_ol rfl)) (hP M ⟨by omega, fun r hr' => ⟨(hr r hr').1, fun p hp => by have := (hr r hr').2 p hp; omega⟩⟩ (by omega))
end
end K13
end
section
set_option Elab.async false
set_option linter.all false
set_option maxRecDepth 100000
set_option maxHeartbeats 4000000
set_option autoImplicit false
local macro_rules | `(tactic| walk_at "fg") => `(tactic| (repeat' (first | exact True.intro | exact rfl | constructor)))
namespace K13
open PySem PySem.Spec PyProof.Rows L2 C8 NdefX LamX
section
variable {P : Program} {w : World} {K : PySem.W.Frag} {mg : Str → Option Value} {base : Heap} {mk : Str} {ev : List Str} {m : Nat} {T : List NTab} {tp sp : Addr}
/-! ### _law_changed -/
abbrev s__law_changed : Stmt := topS 67
theorem sc__law_changed : FnScope ["_law_tape_here", "_law_moves_here", "_law_at", "_law_k", "_law_flag_here", "_law_goal", "_law_move"] ["_law_tape_here", "_law_moves_here"] (defScope s__law_changed) := ⟨rfl, rfl, rfl, by decide +kernel, rfl, by decide +kernel, by decide +kernel⟩
theorem bd__law_changed : Bd "_law_changed" s__law_changed ["_law_tape_here", "_law_moves_here"] := fun _ _ _ _ _ _ us hl => match us, hl with | [_, _], _ => rfl
theorem set_parts {α : Type} : ∀ {l : List α} {i : Nat} {x : α}, i < l.length → l.set i x = l.take i ++ [x] ++ l.drop (i + 1)
  | _ :: _, 0, _, _ => rfl
  | a :: l, i + 1, x, h => by
    have q := set_parts (l := l) (i := i) (x := x) (Nat.lt_of_succ_lt_succ h)
    rw [List.set_cons_succ, List.take_succ_cons, List.drop_succ_cons, q]
    rfl
def aChanged (tp : Addr) (m : Nat) : Ask := fun ss P => ∃ M : Moves, RuleOk M m ∧ M.length ≤ 60 ∧ ss = [.dat (.adr tp), .dat (eMoves M)] ∧ ∀ N, RuleOk N m → N.length = M.length → P (.dat (eMoves N))
theorem cChanged (hm : 0 < m) (hm16 : m ≤ 16) (M : Mf mg) (c_law_pick : Cal P w K mg base 1 "_law_pick" (spD (VL w T tp sp) (aPick tp)) []) (D : Dn K mg "_law_changed" s__law_changed) : Cal P w K mg base 2 "_law_changed" (spD (VL w T tp sp) (aChanged tp m)) [] := by
  have sc := sc__law_changed
  refine cal_of D sc bd__law_changed (fine1 fun ss P ⟨_, _, _, e, _⟩ => ⟨[_, _], e, rfl⟩) (by decide) fun f cdv A' outer s H E hr => ⟨_, (pss_cons (ps_set (i := 2) sc.nd rfl (by first | exact .inl rfl | exact .inr rfl) (pe_c c_law_pick hr (by decide) (by rfl) (pa_cons (pv 0) (pa_cons (pe_callB (show CallR _ _ (rLen K) from call_len_seq) (by rfl) M.len_ PySem.boot_len (pa_cons (pv 1) pa_nil)) pa_nil))))
      (pss_cons (ps_set (i := 3) sc.nd rfl (by first | exact .inl rfl | exact .inr rfl) (pe_c c_law_pick hr (by decide) (by rfl) (pa_cons (pv 0) (pa_cons (pe_callB (show CallR _ _ (rLen K) from call_len_seq) (by rfl) M.len_ PySem.boot_len (pa_cons (pe_ix (show IxR _ (rIxT K) from ix_tup) (pv 1) (pv 2) (fun _ _ => rfl)) pa_nil)) pa_nil))))
      (pss_cons (ps_asg (pe_ix (show IxR _ (rIxT K) from ix_tup) (pe_ix (show IxR _ (rIxT K) from ix_tup) (pv 1) (pv 2) (fun _ _ => rfl)) (pv 3) (fun _ _ => rfl)) (show PG _ _ (gTup K 2 _) from pg_tup rfl (pgs_cons (pg_name (i := 4) sc.nd rfl (by first | exact .inl rfl | exact .inr rfl)) (pgs_cons (pg_name (i := 5) sc.nd rfl (by first | exact .inl rfl | exact .inr rfl)) pgs_nil))))
      (pss_cons (ps_set (i := 6) sc.nd rfl (by first | exact .inl rfl | exact .inr rfl) (pe_ix (show IxR _ (rIxL K) from ix_list) (pe_lst (pa_cons (pe_tup (pa_cons (pe_not (pv 4)) (pa_cons (pv 5) pa_nil))) (pa_cons (pe_tup (pa_cons (pv 4) (pa_cons (pe_c c_law_pick hr (by decide) (by rfl) (pa_cons (pv 0) (pa_cons (pe_callB (show CallR _ _ (rLen K) from call_len_seq) (by rfl) M.len_ PySem.boot_len (pa_cons (pv 1) pa_nil)) pa_nil))) pa_nil))) pa_nil))) (pe_c c_law_pick hr (by decide) (by rfl) (pa_cons (pv 0) (pa_cons pe_int pa_nil))) (fun _ _ => rfl)))
      (pss_one (ps_ret (pe_op (show OpR _ _ (rCatA K) from op_catA) (pe_op (show OpR _ _ (rCatA K) from op_catA) (pe_slice (show SlR _ (rSlA K) from sl_tupA) (pv 1) po_none (po_some (pv 2))) (pe_tup (pa_cons (pe_op (show OpR _ _ (rCatA K) from op_catA) (pe_op (show OpR _ _ (rCatA K) from op_catA) (pe_slice (show SlR _ (rSlA K) from sl_tupA) (pe_ix (show IxR _ (rIxT K) from ix_tup) (pv 1) (pv 2) (fun _ _ => rfl)) po_none (po_some (pv 3))) (pe_tup (pa_cons (pv 6) pa_nil))) (pe_slice (show SlR _ (rSlA K) from sl_tupA) (pe_ix (show IxR _ (rIxT K) from ix_tup) (pv 1) (pv 2) (fun _ _ => rfl)) (po_some (pe_op op_add (pv 3) pe_int)) po_none)) pa_nil))) (pe_slice (show SlR _ (rSlA K) from sl_tupA) (pv 1) (po_some (pe_op op_add (pv 2) pe_int)) po_none)))))))), ?_⟩
  rintro ss Pp ⟨R, hR, hRl, rfl, hP⟩
  have hpos := hR.pos
  refine d_seq (d_asgP (P := fun s => ∃ a : Nat, a < R.length ∧ s = .dat (.int (a : Int))) (e_pick (n := R.length) rfl (e_cb1 (e_var rfl) (rc_lenTn (List.length_map _))) hpos (by omega)) (fun s ⟨n, _, e⟩ => own_dat s e) ?_)
  rintro _ ⟨a, ha, rfl⟩
  refine d_seq (d_asgP (P := fun s => ∃ k : Nat, k < m ∧ s = .dat (.int (k : Int))) (e_pick (n := m) rfl (e_cb1 (e_row (e_var rfl) (e_var rfl) ha) (rc_lenTn (row_len hR ha))) hm (by omega)) (fun s ⟨n, _, e⟩ => own_dat s e) ?_)
  rintro _ ⟨k, hk, rfl⟩
  refine d_seq (d_unp (d := eMv (mvR R a k)) (e_mv hR (e_var rfl) (e_var rfl) (e_var rfl) ha hk) (gd_tup (gds_cons gd_name (gds_cons gd_name gds_nil))) ?_)
  refine d_seq (d_asgP (P := fun s => ∃ p : Bool × Nat, p.2 < R.length ∧ s = .dat (eMv p)) (e_op (A := fun s => ∃ g : Nat, g < R.length ∧ s = .rl [.tup [.bl (!(mvR R a k).1), .int ((mvR R a k).2 : Int)], .tup [.bl (mvR R a k).1, .int (g : Int)]]) (B := fun s => ∃ r : Nat, r < 2 ∧ s = .dat (.int (r : Int)))
    ((EvP.rlP (P := fun ds => ∃ g : Nat, g < R.length ∧ ds = [.tup [.bl (!(mvR R a k).1), .int ((mvR R a k).2 : Int)], .tup [.bl (mvR R a k).1, .int (g : Int)]]) (e_lstP (ea_consP (e_tup (ds := [.bl (!(mvR R a k).1), .int ((mvR R a k).2 : Int)]) (ea_cons (e_notV (e_var rfl)) (ea_cons (e_var rfl) ea_nil))) (ea_consP (A := fun s => ∃ g : Nat, g < R.length ∧ s = .dat (.tup [.bl (mvR R a k).1, .int (g : Int)])) (e_tupP (ea_consP (e_var rfl) (ea_consP (e_pick (n := R.length) rfl (e_cb1 (e_var rfl) (rc_lenTn (List.length_map _))) hpos (by omega)) ea_nil)) ?_) ea_nil)) ?_)).imp ?_)
    (e_pick (n := 2) rfl e_int (by decide) (by decide)) ?_) (fun s ⟨n, _, e⟩ => own_dat s e) ?_)
  · rintro ss ⟨s, r, rfl, rfl, s2, r2, rfl, ⟨g, hg, rfl⟩, rfl⟩
    exact ⟨[.bl (mvR R a k).1, .int (g : Int)], rfl, Nat.le_of_ble_eq_true rfl, g, hg, rfl⟩
  · rintro ss ⟨s, r, rfl, rfl, s2, r2, rfl, ⟨g, hg, rfl⟩, rfl⟩
    exact ⟨[.tup [.bl (!(mvR R a k).1), .int ((mvR R a k).2 : Int)], .tup [.bl (mvR R a k).1, .int (g : Int)]], rfl, Nat.le_of_ble_eq_true rfl, _, rfl, g, hg, rfl⟩
  · rintro s ⟨ds, rfl, g, hg, rfl⟩
    exact ⟨g, hg, rfl⟩
  · rintro s t ⟨g, hg, rfl⟩ ⟨r, hr, rfl⟩
    match r, hr with
    | 0, _ => exact (rp_ixL (j := 0) (d := eMv (!(mvR R a k).1, (mvR R a k).2)) rfl).imp fun s e => ⟨(!(mvR R a k).1, (mvR R a k).2), hR.next (s := a) (k := k), e⟩
    | 1, _ => exact (rp_ixL (j := 1) (d := eMv ((mvR R a k).1, g)) rfl).imp fun s e => ⟨((mvR R a k).1, g), hg, e⟩
  rintro _ ⟨p, hp, rfl⟩
  have hrl : (R.getD a []).length = m := hR.rowLen ha
  have hc1 : ((R.getD a []).map eMv).length = m := row_len hR ha
  refine d_ret (d := eMoves (R.set a ((R.getD a []).set k p))) ?_ (hP _ ⟨by rw [List.length_set]; exact hpos, fun r hr => ?_⟩ (List.length_set ..))
  · have e1 : eMoves (R.set a ((R.getD a []).set k p)) = .tup ((((R.map eRow).take a) ++ [eRow ((R.getD a []).set k p)]) ++ (R.map eRow).drop (a + 1)) := by
      unfold eMoves
      rw [set_parts ha, List.map_append, List.map_append, List.map_take, List.map_drop]
      rfl
    have e2 : eRow ((R.getD a []).set k p) = .tup (((((R.getD a []).map eMv).take k) ++ [eMv p]) ++ ((R.getD a []).map eMv).drop (k + 1)) := by
      unfold eRow
      rw [set_parts (by omega), List.map_append, List.map_append, List.map_take, List.map_drop]
      rfl
    have l1 : (R.map eRow).length = R.length := List.length_map _
    rw [e1, e2]
    refine e_opD (e_opD (e_slTo (e_var rfl) (e_var rfl) (by rw [l1]; omega)) (e_tup (ds := [.tup (((((R.getD a []).map eMv).take k) ++ [eMv p]) ++ ((R.getD a []).map eMv).drop (k + 1))]) (ea_cons (e_opD (e_opD (e_slTo (e_row (e_var rfl) (e_var rfl) ha) (e_var rfl) (by rw [hc1]; omega)) (e_tup (ds := [eMv p]) (ea_cons (e_var rfl) ea_nil)) (rp_catT ?_)) (e_slFrom (j := k + 1) (e_row (e_var rfl) (e_var rfl) ha) (e_opD (e_var rfl) e_int rp_add) (by rw [hc1]; omega)) (rp_catT ?_)) ea_nil)) (rp_catT ?_)) (e_slFrom (j := a + 1) (e_var rfl) (e_opD (e_var rfl) e_int rp_add) (by rw [l1]; omega)) (rp_catT ?_)
    · rw [List.length_take, hc1]; show min k m + 1 ≤ 1000000; omega
    · rw [List.length_append, List.length_take, List.length_drop, hc1]; show min k m + 1 + (m - (k + 1)) ≤ 1000000; omega
    · rw [List.length_take, l1]; show min a R.length + 1 ≤ 1000000; omega
    · rw [List.length_append, List.length_take, List.length_drop, l1]; show min a R.length + 1 + (R.length - (a + 1)) ≤ 1000000; omega
  · rw [List.length_set]
    rcases List.mem_or_eq_of_mem_set hr with hr | hr
    · exact hR.row r hr
    · rw [hr, List.length_set]
      have hrow : R.getD a [] ∈ R := getD_mem ha
      refine ⟨hrl, fun q hq => ?_⟩
      rcases List.mem_or_eq_of_mem_set hq with hq | hq
      · exact (hR.row _ hrow).2 q hq
      · rw [hq]; exact hp
/-! ### _law_two_lots -/
abbrev s__law_two_lots : Stmt := topS 68
theorem sc__law_two_lots : FnScope ["_law_tape_here", "_law_every", "_law_first", "_law_second", "_law_row_here", "_law_k"] ["_law_tape_here", "_law_every"] (defScope s__law_two_lots) := ⟨rfl, rfl, rfl, by decide +kernel, rfl, by decide +kernel, by decide +kernel⟩
theorem bd__law_two_lots : Bd "_law_two_lots" s__law_two_lots ["_law_tape_here", "_law_every"] := fun _ _ _ _ _ _ us hl => match us, hl with | [_, _], _ => rfl
def aTwo (tp : Addr) (ev : List Str) (m : Nat) : Ask := fun ss P => ss = [.dat (.adr tp), .rl (ev.map .str)] ∧ ∀ L, ValidL m L → L.length ≤ 12 → (∃ tt : List (List Nat), tt.length ≤ 60 ∧ ∀ t, ReachT m L t → t ∈ tt) → P (.dat (eLots ev L))
theorem fineTwo (tp : Addr) (ev : List Str) (m : Nat) : Fine (aTwo tp ev m) 2 := ⟨fun ss P ⟨e, _⟩ => by subst e; exact ⟨rfl, fun s hs => by simp at hs; rcases hs with h | h <;> subst h <;> rfl⟩⟩
theorem cTwo (M : Mf mg) (c_law_pick : Cal P w K mg base 1 "_law_pick" (spD (VL w T tp sp) (aPick tp)) []) (c_law_lot : Cal P w K mg base 2 "_law_lot" (spD (VL w T tp sp) (aLot tp ev m)) []) (c_law_of_list : Cal P w K mg base 1 "_law_of_list" (spD (V0 w) (aOfList ev m)) []) (D : Dn K mg "_law_two_lots" s__law_two_lots) : Cal P w K mg base 3 "_law_two_lots" (spD (VL w T tp sp) (aTwo tp ev m)) [] := by
  have sc := sc__law_two_lots
  refine cal_of D sc bd__law_two_lots (fineTwo tp ev m) (by decide) fun f cdv A' outer s H E hr => ⟨_, (pss_cons (ps_set (i := 2) sc.nd rfl (by first | exact .inl rfl | exact .inr rfl) (pe_c c_law_lot hr (by decide) (by rfl) (pa_cons (pv 0) (pa_cons (pv 1) pa_nil))))
      (pss_cons (ps_set (i := 3) sc.nd rfl (by first | exact .inl rfl | exact .inr rfl) (pe_c c_law_lot hr (by decide) (by rfl) (pa_cons (pv 0) (pa_cons (pv 1) pa_nil))))
      (pss_cons (ps_set (i := 4) sc.nd rfl (by first | exact .inl rfl | exact .inr rfl) (pe_op op_rep (pe_lst (pa_cons (pv 2) pa_nil)) (pe_op op_add pe_int (pe_c c_law_pick hr (by decide) (by rfl) (pa_cons (pv 0) (pa_cons pe_int pa_nil))))))
      (pss_cons (ps_for PassesOwn.never rfl (pi_range1 (by rfl) M.range_ (pa_cons (pe_op op_add pe_int (pe_c c_law_pick hr (by decide) (by rfl) (pa_cons (pv 0) (pa_cons pe_int pa_nil)))) pa_nil)) (pg_name (i := 5) sc.nd rfl (by first | exact .inl rfl | exact .inr rfl)) (pss_one (ps_expr (show PE _ _ (tBM K _ _ _ _) from pe_bm PySem.F.plainAttrs_list PySem.F.slot_list_insert PySem.F.type_list_insert mt_insert (pv 4) (pa_cons (pe_c c_law_pick hr (by decide) (by rfl) (pa_cons (pv 0) (pa_cons (pe_op op_add (pe_callB (show CallR _ _ (rLen K) from call_len_seq) (by rfl) M.len_ PySem.boot_len (pa_cons (pv 4) pa_nil)) pe_int) pa_nil))) (pa_cons (pv 3) pa_nil))))))
      (pss_cons (ps_if (pt_cmpR op_gt (pe_callB (show CallR _ _ (rLen K) from call_len_seq) (by rfl) M.len_ PySem.boot_len (pa_cons (pe_c c_law_of_list hr (by decide) (by rfl) (pa_cons (show PE _ _ (tThen _ (kTup K)) from pe_tupleOf (by rfl) M.tuple_ (pv 4)) (pa_cons (pv 1) pa_nil))) pa_nil)) pe_int (nomark _)) (pss_one (ps_ret (pe_op (show OpR _ _ (rRepT K) from op_repT) (pe_tup (pa_cons (pv 2) pa_nil)) pe_int))) pss_nil)
      (pss_one (ps_ret (show PE _ _ (tThen _ (kTup K)) from pe_tupleOf (by rfl) M.tuple_ (pv 4))))))))), ?_⟩
  rintro ss Pp ⟨rfl, hP⟩
  have lot : ∀ {E : DEnv}, E[0]? = some (some (.dat (.adr tp))) → E[1]? = some (some (.rl (ev.map .str))) → EvP (VL w T tp sp) (tCall (spD (VL w T tp sp) (aLot tp ev m)) [] C8.E0 (tCons (tVar 0) (tCons (tVar 1) tNil))) E (fun s => ∃ a, ValidLot m a ∧ s = .dat (eLot ev a)) := fun h0 h1 =>
    e_callU (B := (· = [.dat (.adr tp), .rl (ev.map .str)])) (ea_cons (e_var h0) (ea_cons (e_rl h1) ea_nil)) fun ss e => ⟨e, fun a ha => ⟨a, ha, rfl⟩⟩
  refine d_seq (d_asgP (lot rfl rfl) (fun s ⟨n, _, e⟩ => own_dat s e) ?_)
  rintro _ ⟨a, ha, rfl⟩
  refine d_seq (d_asgP (lot rfl rfl) (fun s ⟨n, _, e⟩ => own_dat s e) ?_)
  rintro _ ⟨b, hb, rfl⟩
  have one : ∀ {E : DEnv}, E[0]? = some (some (.dat (.adr tp))) → EvP (VL w T tp sp) (tOp (rI0 fun i j => .int (i + j)) (tC (.int 1)) (tCall (spD (VL w T tp sp) (aPick tp)) [] C8.E0 (tCons (tVar 0) (tCons (tC (.int 6)) tNil)))) E (fun s => ∃ n : Nat, 0 < n ∧ n ≤ 6 ∧ s = .dat (.int (n : Int))) := fun h0 =>
    e_op (A := (· = .dat (.int 1))) e_int (e_pick (n := 6) h0 e_int (by decide) (by decide)) fun s t e1 ⟨r, hr, e2⟩ => by rw [e1, e2]; exact rp_add.imp fun s e => ⟨1 + r, by omega, by omega, by rw [e]; rfl⟩
  refine d_seq (d_asgP (P := fun s => ∃ n : Nat, n ≤ 6 ∧ s = .ol ((List.replicate n a).map (eLot ev))) (e_op (A := (· = .rl [eLot ev a])) (EvP.rl (e_lst (ds := [eLot ev a]) (ea_cons (e_var rfl) ea_nil))) (one rfl) fun s t e1 ⟨n, h1, h2, e2⟩ => by rw [e1, e2]; exact (rp_repL rfl (by omega)).imp fun s e => ⟨n, h2, by rw [e, List.map_replicate]⟩) (fun s ⟨n, _, e⟩ => own_ol s e) ?_)
  rintro _ ⟨n0, hn0, rfl⟩
  refine d_seq (d_forPS (α := Lots) (P := fun ds => ∃ n : Nat, n ≤ 6 ∧ ds = rngD 0 n) (fun ds i L => ValidL m L ∧ L.length ≤ 6 + i) (fun L => [some (.dat (.adr tp)), some (.rl (ev.map .str)), some (.dat (eLot ev a)), some (.dat (eLot ev b)), some (.ol (L.map (eLot ev))), none])
    (i_range1 (A := fun j => ∃ n : Nat, n ≤ 6 ∧ j = (n : Int)) ((ea_consP (one rfl) ea_nil).imp ?_) ?_) (List.replicate n0 a) ⟨fun ds _ => ⟨fun c hc => by rw [(List.mem_replicate.mp hc).2]; exact ha, by rw [List.length_replicate]; omega⟩, by walk_at "fg"⟩ (fun ds i d L hds hd hx => ?_) fun ds L hds hx => ?_)
  · rintro ss ⟨s, r, rfl, ⟨n, _, hn, rfl⟩, rfl⟩
    exact ⟨_, rfl, n, hn, rfl⟩
  · rintro j ⟨n, hn, rfl⟩
    exact ⟨by omega, by omega, n, hn, by rw [Int.toNat_natCast]⟩
  · obtain ⟨n, hn, rfl⟩ := hds
    obtain ⟨rfl, hi⟩ := rng0_get hd
    obtain ⟨hv, hl⟩ := hx
    refine ⟨_, _, gd_name, d_insert (R := fun j => j ≤ L.length) (d := eLot ev b) (fun l xs i y H Q h1 h2 h3 h4 q => ⟨l, xs, i, y, rfl, rfl, h1, h2, h3, h4, q⟩) rfl ((e_pick (n := L.length + 1) rfl (e_opD (e_cb1 (e_ol rfl) (rc_lenLn (List.length_map _))) e_int rp_add) (by omega) (by omega)).imp fun s ⟨r, hr, e⟩ => ⟨r, e, by omega⟩) (e_var rfl) (fun j hj => by omega) (by rw [List.length_map]; omega) fun j hj => ⟨L.take j ++ [b] ++ L.drop j, ⟨fun c hc => ?_, ?_⟩, ?_⟩⟩
    · rcases List.mem_append.mp hc with hc | hc
      · rcases List.mem_append.mp hc with hc | hc
        · exact hv c (List.mem_of_mem_take hc)
        · rw [List.mem_singleton.mp hc]; exact hb
      · exact hv c (List.mem_of_mem_drop hc)
    · rw [List.length_append, List.length_append, List.length_take, List.length_drop]
      show min j L.length + 1 + (L.length - j) ≤ _
      omega
    · rw [List.map_append, List.map_append, List.map_take, List.map_drop]
      walk_at "fg"
  · obtain ⟨n, hn, rfl⟩ := hds
    obtain ⟨hv, hl⟩ := hx
    rw [rngD_len] at hl
    have hl12 : L.length ≤ 12 := by omega
    refine d_seq (d_if (P := fun q => q = false → ∃ tt : List (List Nat), tt.length ≤ 60 ∧ ∀ t, ReachT m L t → t ∈ tt) (b_testP (e_op (A := fun s => ∃ n : Nat, s = .dat (.int (n : Int)) ∧ (n ≤ 60 → ∃ tt : List (List Nat), tt.length ≤ 60 ∧ ∀ t, ReachT m L t → t ∈ tt)) (B := (· = .dat (.int 60))) (e_cbP (ea_consP (e_call (P := fun s => ∃ N : Moves, s = .dat (eMoves N) ∧ (N.length ≤ 60 → ∃ tt : List (List Nat), tt.length ≤ 60 ∧ ∀ t, ReachT m L t → t ∈ tt)) (ss := [.dat (eLots ev L), .rl (ev.map .str)]) (ea_cons (e_tupleD (e_ol rfl)) (ea_cons (e_rl rfl) ea_nil)) ⟨L, hv, by omega, rfl, fun N h1 _ _ => ⟨N, rfl, fun z => (h1 z).2.2⟩⟩ (fun s ⟨N, e, _⟩ => own_dat s e)) ea_nil) ?_) e_int ?_)) (fun _ => ?_) fun hq => d_next ?_)
    · rintro ss ⟨s, r, rfl, ⟨N, rfl, hN⟩, rfl⟩
      intro H vs iv hh Q q
      exact rc_lenTn (n := N.length) (List.length_map _) H vs iv hh Q fun v H' s x i p n => q v H' s x i ⟨N.length, p, hN⟩ n
    · rintro s t ⟨n, rfl, hn⟩ e2
      rw [e2]
      exact rp_gt.imp fun s e => ⟨_, e, fun z => hn (by have := of_decide_eq_false z; omega)⟩
    · refine d_ret (d := eLots ev (List.replicate 6 a)) ?_ (hP _ (fun c hc => by rw [(List.mem_replicate.mp hc).2]; exact ha) (by rw [List.length_replicate]; decide) (reachT_same (by decide)))
      unfold eLots
      rw [List.map_replicate]
      exact e_opD (e_tup (ds := [eLot ev a]) (ea_cons (e_var rfl) ea_nil)) e_int (rp_repT (n := 6) rfl (by decide) (by decide))
    · exact d_ret (d := eLots ev L) (e_tupleD (e_ol rfl)) (hP L hv hl12 (hq rfl))
end
end K13
end
section
set_option Elab.async false
set_option linter.all false
set_option maxRecDepth 100000
set_option maxHeartbeats 4000000
set_option autoImplicit false
/-! own exceptions over the layer: clauses one behind another, the first with a name; C() -/
namespace K13
open PySem PySem.Spec PyProof.Rows L2

/-- the clauses hds, met by an exception that has landed, bring about what wi asks -/
def HdsW (X : Cx) (hds : List ExceptHandler) (wi : Ends → WX) : Prop :=
  ∀ (pins : List (Addr × Obj)) (D : Ends) (σ : L2.St) (H : Hp) (a : Addr) (B : Heap) (sI s3 : Shared) (cls : Value) (d : Option Addr),
    Inv X pins σ H sI → (∀ b o, sI.heap.get? b = some o → b ∉ frs X.stack → B.get? b = some o) → sI.heap.UpToSlots s3.heap → HandSPX.FlyingZ B (X.env :: X.outer) a (Zc cls d) s3.heap →
    H a = none → s3.os = sI.os → AllBare s3.gens → wi D cls d σ H → wpAny (model X.prog X.w) X.A (handleBy (.ref a) X.env hds) (SP X pins D) X.xe s3
section
variable {X : Cx} {hds : List ExceptHandler} {wi : Ends → WX} {Wout : WX} {c : Value} {x n : Str} {i : Nat} {ts : Addr → Value → Option Addr → TS} {b₀ : Stmt} {suite : List Stmt} {np pos' : Pos}
/-- what stands where the exception has landed -/
theorem landed_at {pins : List (Addr × Obj)} {σ : L2.St} {H : Hp} {a : Addr} {B : Heap} {sI s3 : Shared} {cls : Value} {d : Option Addr} (hf : X.env.frame = some X.env.locals) (J : Inv X pins σ H sI)
    (nb : ∀ b o, sI.heap.get? b = some o → b ∉ frs X.stack → B.get? b = some o) (up : sI.heap.UpToSlots s3.heap) (fl : HandSPX.FlyingZ B (X.env :: X.outer) a (Zc cls d) s3.heap) (na : H a = none) (os : s3.os = sI.os) (ag : AllBare s3.gens) :
    Inv X pins σ H s3 ∧ ∃ oe vs, s3.heap.get? a = some oe ∧ Zc cls d oe ∧ oe.data = .fields vs ∧ Inv (X.suite a ((a, oe) :: (X.pn ++ pins))) [] σ H s3 := by
  have J3 : Inv X pins σ H s3 := J.landed nb fl.1 up os ag
  obtain ⟨oe, vs, he, hz, hd⟩ := fl.there
  have far : a ∉ frs (X.env :: X.outer) := fun hm => by
    obtain ⟨_, o', e', hnf⟩ := fl.2.2.1.mem hm
    rw [he] at e'
    cases e'
    exact hnf _ hd
  refine ⟨J3, oe, vs, he, hz, hd, J3.suite he hd na (fun z => ?_) fun hm => ?_⟩
  · exact far (List.mem_filterMap.mpr ⟨X.env, List.mem_cons_self, by rw [hf, z]⟩)
  · obtain ⟨e, h1, h2⟩ := List.mem_filterMap.mp hm
    exact far (List.mem_filterMap.mpr ⟨e, List.mem_cons_of_mem _ h1, h2⟩)
/-- the class that the clause names is looked up, the exception's class held against it -/
theorem clause_test {pins : List (Addr × Obj)} {σ : L2.St} {H : Hp} {a : Addr} {s3 : Shared} {cls : Value} {d : Option Addr} {oe : Obj} {b : Bool} {Q : Bool → Shared → Prop} {E : Value → Shared → Prop} (J3 : Inv X pins σ H s3) (S3 : Inv (X.suite a ((a, oe) :: (X.pn ++ pins))) [] σ H s3)
    (he : s3.heap.get? a = some oe) (hz : Zc cls d oe) (hc : Names X x c) (hb : PySem.W.exmOne X.K cls c = some b) (q : Q b s3) :
    wpAny (model X.prog X.w) (X.A.mark (some (.ref a))) (eval (.Name x np) X.env) (fun v s' => wpAny (model X.prog X.w) (X.A.mark (some (.ref a))) (excMatches (.ref a) v) Q E s') E s3 := by
  have LT : PySem.W.Looks (model X.prog X.w) s3.heap (typeOf (.ref a)) cls := fun A Q E s k q => wpAny_typeOf_ref (k _ _ he) (by rw [hz.1]; exact q)
  have LM := PySem.W.exm_one (M := model X.prog X.w) (J3.kIn) LT hb
  obtain ⟨hg, hdb, hm | ⟨hm, hv, hnn⟩⟩ := hc
  · exact ld_glob (X := X.suite a ((a, oe) :: (X.pn ++ pins))) S3 hg hm (LM.here q) hdb
  · exact ld_blt (X := X.suite a ((a, oe) :: (X.pn ++ pins))) S3 hg hm hv (LM.here q) hnn hdb
/-- no clause more: it flies on -/
theorem hds_nil (hs : X.stack = X.env :: X.outer) (hf : X.env.frame = some X.env.locals) (tk : Takes X Wout) : HdsW X [] (fun _ => Wout) := fun pins D σ H a B sI s3 cls d J nb up fl na os ag w => by
  refine wpAny_handleBy_nil ?_
  obtain ⟨_, _, _, oe, vs, T, _, _, he, _, hd, h1, _⟩ := id fl
  unfold PySem.passOn
  refine wpAny_bind (wpAny_field he hd h1 ?_)
  rw [if_neg (by simp)]
  have out : wpAny (model X.prog X.w) X.A (setFlight (.ref a) X.env.frame) (fun _ s4 => wpAny (model X.prog X.w) X.A (throw (.ref a) : Sem Flow) (SP X pins D) X.xe s4) X.xe s3 := by
    rw [hf]
    refine HandSPX.setFlight_upZ fl fun h4 hh4 up4 => wpAny_throw (tk _ _ ⟨a, B, sI, pins, σ, H, cls, d, rfl, J, nb, up.trans up4, .inr (.inr (by rw [hs]; exact hh4)), na, os, ag, w⟩)
  first
    | exact wpAny_bind (wpAny_pure (wpAny_bind out))
    | exact wpAny_bind out
/-- except x: suite, then the others -/
theorem hds_cons (hf : X.env.frame = some X.env.locals) (hc : Names X x c) (hsu : ∀ (a : Addr) (oe : Obj) (cls : Value) (d : Option Addr) (pn : List (Addr × Obj)), Zc cls d oe → (∃ vs, oe.data = .fields vs) → PSs (X.suite a ((a, oe) :: pn)) (b₀ :: suite) (ts a cls d)) (hr : HdsW X hds wi) :
    HdsW X (.ExceptHandler (some (.Name x np)) none (b₀ :: suite) pos' :: hds) (fun D cls d σ H => ∃ b, PySem.W.exmOne X.K cls c = some b ∧ (b = true → ∀ a, H a = none → ts a cls d D σ H) ∧ (b = false → wi D cls d σ H)) := fun pins D σ H a B sI s3 cls d J nb up fl na os ag w => by
  obtain ⟨b, hb, hyes, hno⟩ := w
  obtain ⟨J3, oe, vs, he, hz, hd, S3⟩ := landed_at hf J nb up fl na os ag
  refine wpAny_handleBy_cons (codeAny_handlers_test (clause_test J3 S3 he hz hc hb ?_)) (by intro q; cases q)
  cases b with
  | false => exact hr pins D σ H a B sI s3 cls d J nb up fl na os ag (hno rfl)
  | true =>
    refine codeAny_handlers_suite ?_
    refine HandSPX.lands_againZ fl fun h4 fl4 up4 => ?_
    obtain ⟨J4, oe4, vs4, he4, hz4, hd4, S4⟩ := landed_at (s3 := { s3 with heap := h4 }) hf J nb (up.trans up4) fl4 na os ag
    refine wpAny_mono ((hsu a oe4 cls d (X.pn ++ pins) hz4 ⟨_, hd4⟩).run [] _ _ H _ S4 (hyes rfl a na)) (fun f s6 hsp => ?_) (fun _ _ z => False.elim z)
    cases f with
    | ret u => obtain ⟨v6, σ6, H6, S6, r6, q6⟩ := hsp; exact ⟨_, _, _, S6.unsuite J.ok, r6, q6⟩
    | next => obtain ⟨σ6, H6, S6, q6⟩ := hsp; exact ⟨_, _, S6.unsuite J.ok, q6⟩
    | brk => obtain ⟨σ6, H6, S6, q6⟩ := hsp; exact ⟨_, _, S6.unsuite J.ok, q6⟩
    | cont => obtain ⟨σ6, H6, S6, q6⟩ := hsp; exact ⟨_, _, S6.unsuite J.ok, q6⟩
/-- except x as n: suite, then the others -/
theorem hds_as (hf : X.env.frame = some X.env.locals) (hN : X.N.Nodup) (hi : X.N[i]? = some n) (hln : X.env.kindOf n = some .local) (hc : Names X x c) (hsu : ∀ (a : Addr) (oe : Obj) (cls : Value) (d : Option Addr) (pn : List (Addr × Obj)), Zc cls d oe → (∃ vs, oe.data = .fields vs) → PSs (X.suite a ((a, oe) :: pn)) (b₀ :: suite) (ts a cls d)) (hr : HdsW X hds wi) :
    HdsW X (.ExceptHandler (some (.Name x np)) (some n) (b₀ :: suite) pos' :: hds) (fun D => wAs X.K c i ts (wi D) D) := fun pins D σ H a B sI s3 cls d J nb up fl na os ag w => by
  obtain ⟨b, hb, hyes, hno⟩ := w
  obtain ⟨J3, oe, vs, he, hz, hd, S3⟩ := landed_at hf J nb up fl na os ag
  refine wpAny_handleBy_cons (codeAny_handlers_test (clause_test J3 S3 he hz hc hb ?_)) (by intro q; cases q)
  cases b with
  | false => exact hr pins D σ H a B sI s3 cls d J nb up fl na os ag (hno rfl)
  | true =>
    refine codeAny_handlers_suite_as ?_
    refine HandSPX.lands_againZ fl fun h4 fl4 up4 => ?_
    obtain ⟨J4, oe4, vs4, he4, hz4, hd4, S4⟩ := landed_at (s3 := { s3 with heap := h4 }) hf J nb (up.trans up4) fl4 na os ag
    refine store_ok (X := X.suite a ((a, oe4) :: (X.pn ++ pins))) (v := .ref a) S4 hN hi (.inl hln) rfl (fun s5 S5 => ?_) (.inr hln)
    refine wpAny_mono ((hsu a oe4 cls d (X.pn ++ pins) hz4 ⟨_, hd4⟩).run [] s5 _ H _ S5 (hyes rfl a na)) (fun f s6 hsp => ?_) (fun _ _ z => False.elim z)
    have fin : ∀ {σ6 : L2.St} {H6 : Hp} {Q : Shared → Prop}, Inv (X.suite a ((a, oe4) :: (X.pn ++ pins))) [] σ6 H6 s6 → (∀ s7, Inv X pins (σ6.set i none) H6 s7 → Q s7) →
        wpAny (model X.prog X.w) X.A (do bindName X.env n .none; unbindBehindTheSuite X.env n pos') (fun _ s7 => Q s7) X.xe s6 := fun {σ6 H6 Q} S6 hq => gone_ok (S6.unsuite J.ok) hN hi hln hq
    cases f with
    | ret u => obtain ⟨v6, σ6, H6, S6, r6, q6⟩ := hsp; exact fin S6 fun s7 J7 => ⟨_, _, _, J7, r6, q6⟩
    | next => obtain ⟨σ6, H6, S6, q6⟩ := hsp; exact fin S6 fun s7 J7 => ⟨_, _, J7, q6⟩
    | brk => obtain ⟨σ6, H6, S6, q6⟩ := hsp; exact fin S6 fun s7 J7 => ⟨_, _, J7, q6⟩
    | cont => obtain ⟨σ6, H6, S6, q6⟩ := hsp; exact fin S6 fun s7 J7 => ⟨_, _, J7, q6⟩
/-- try: body, then clauses -/
theorem ps_try_w {body : List Stmt} {h₀ : ExceptHandler} {tb : WX → TS} {pos : Pos} (hs : X.stack = X.env :: X.outer) (hf : X.env.frame = some X.env.locals)
    (hb : ∀ (W : WX) (pn : List (Addr × Obj)) (xe : Value → Shared → Prop), Takes (X.tr pn xe) W → PSs (X.tr pn xe) body (tb W)) (hh : HdsW X (h₀ :: hds) wi) : PS X (.Try body (h₀ :: hds) [] [] pos) (fun D σ H => tb (wi D) D σ H) := by
  refine ⟨fun pins s σ H D I h => ?_⟩
  have hfr : X.A.frames = some (X.env :: X.outer) := by rw [I.ok.frames, hs]
  refine wpAny_Try_except ?_
  refine wpAny_mono ((hb (wi D) (X.pn ++ pins) _ (fun u s' xx => ?_)).run [] s σ H D (I.toTry _) h) (fun f s1 hsp => ?_) (fun e s1 he => he)
  · obtain ⟨a, B, sI, pins', σ', H', cls, d, rfl, J', nb, up, sky, na, os, ag, w⟩ := xx
    have sky' : Sky B (X.env :: X.outer) a (Zc cls d) X.env.locals s'.heap := by rw [← hs]; exact sky
    show wpAny (model X.prog X.w) X.A (noteFrame (.ref a) X.env) _ _ _
    exact Sky.land Zc.steady hfr hf sky' fun h3 fl3 up3 => hh pins D σ' H' a B sI { s' with heap := h3 } cls d (J'.ofTry I.ok) nb (up.trans up3) fl3 na os ag w
  · cases f with
    | next => obtain ⟨σ', H', J', q⟩ := hsp; exact wpAny_execs_nil ⟨σ', H', J'.ofTry I.ok, q⟩
    | brk => obtain ⟨σ', H', J', q⟩ := hsp; exact ⟨σ', H', J'.ofTry I.ok, q⟩
    | cont => obtain ⟨σ', H', J', q⟩ := hsp; exact ⟨σ', H', J'.ofTry I.ok, q⟩
    | ret u => obtain ⟨v, σ', H', J', r, q⟩ := hsp; exact ⟨v, σ', H', J'.ofTry I.ok, r, q⟩
end
/-! ### C(), C an own exception class without __init__ -/
section
variable {X : Cx} {C : Addr} {bmB : List Value} {B newId initId : String} {x : Str} {p pos : Pos}
theorem pmk_none0 (F : ExcBaseFacts B newId initId bmB) (q : PySem.W.excIn X.K C bmB newId = true) (gC : X.mg x = some (.ref C)) (kC : PySem.W.keepIn X.K (.ref C) = true) (r : Raises X (.ref C)) (hg : Gl X x) (hdb : (x == ("__debug__" : Str)) = false := by decide) :
    PMk X (.Call (.Name x p) [] [] pos) (fun _ H Q => Q (.ref C) none H) := by
  intro pins s σ H Q I h
  refine wpAny_Call_Name_kw (ld_glob I hg gC ?_ hdb)
  refine PySem.W.callWith_K0 I.kIn kC ?_
  show wpAny _ _ (call (.ref C) []) _ _ _
  obtain ⟨bm, N, nm, qn, bs, hdct, sn, sub, ab, col, dd, k0, k1, k2, k3, k5, mN, hC, hN, hni, T⟩ := exc_obj I.kIn q
  exact wpAny_call_exc_subT F T hC hN hni (fun h' e hm => mk_of I hm r h (I.hok.gone hm.new)) (Nat.zero_le _)
end
end K13
end
section
set_option Elab.async false
set_option linter.all false
set_option maxRecDepth 100000
set_option maxHeartbeats 4000000
set_option autoImplicit false
/-! a != b by an own == -/
namespace K13
open PySem PySem.Spec PyProof.Rows L2
theorem ns_some {K : PySem.W.Frag} {h : Heap} {N : Addr} {m : Str → Option Value} {n : Str} {v : Value} (X : K.In h) (G : h.Ns N m) (e : PySem.W.nsIn K N n = some (some v)) : m n = some v := by
  obtain ⟨o, es, ep, ho, hd, _, hf⟩ := G
  unfold PySem.W.nsIn at e
  split at e
  · rename_i q
    have z := X _ _ q
    rw [ho] at z
    cases z
    cases hd
    split at e
    · rename_i he
      cases e
      rw [← hf]
      unfold nsFind findBy
      rw [← Array.find?_toList, he] <;> rfl
    · split at e <;> cases e
  · cases e
theorem neB_ok {K : PySem.W.Frag} {h : Heap} {C f x : Addr} {o of : Obj} (X : K.In h) (q : neB K C f = true) (hx : h.get? x = some o) (hc : o.cls = .ref C) (hf : h.get? f = some of) (hfc : of.cls = .type "function") : ∃ yB, typeLookup (.type "object") ("__eq__" : Str) = pure yB ∧ h.OwnEqNoNe x C f "object" [.type "object"] := by
  unfold neB at q
  split at q
  · rename_i dd cd sl ho
    split at q
    · rename_i C' oo k0 k1 k2 k3 n k5 hm hs
      simp only [Bool.and_eq_true, beq_iff_eq, Bool.not_eq_true'] at q
      obtain ⟨⟨⟨⟨⟨⟨rfl, rfl⟩, rfl⟩, hdel⟩, hok⟩, he⟩, hne⟩ := q
      obtain ⟨nm, bs, mro, ns, qn, hd, sn, sub, ab, col, del⟩ := cd
      dsimp only at hm hdel hok he hne
      subst hm hdel
      have hsl : sl = #[k0, k1, k2, k3, some (.builtin "object.__new__"), k5] := by
        obtain ⟨l⟩ := sl
        simp only at hs
        rw [hs]
      subst hsl
      have G : h.Ns ns (h.nsMap ns) := .of_isNs (PySem.W.isNs_of_in X hok)
      exact ⟨_, PySem.F.cmp_object.eq.lookup, o, of, nm, qn, ns, bs, hd, sn, sub, ab, col, dd, k0, k1, k2, k3, k5, "object.__new__", _, _, hx, hc, X _ _ ho, G, ns_some X G he, hf, hfc, PySem.F.cmp_object.mro, PySem.F.cmp_object.eq.lookup, PySem.W.nsMap_none_of_in X hok hne⟩
    · cases q
  · cases q
/-- x != y where both are instances of the class at C -/
def rNeM (C : Addr) (sp : Sp) : R2 := fun x y H Q => ∃ a b dx dy fs gs, x = .ref a ∧ y = .ref b ∧ H a = some (.ins C dx fs) ∧ H b = some (.ins C dy gs) ∧ sp [.ref a, .ref b] H (fun v H' => ∃ r, v = .bl r ∧ Q (.bl (!r)) H') C8.E0
section
variable {X : Cx} {C f0 : Addr} {k j : Nat} {sp : Sp}
theorem op_neM (c : C8.Met X.prog X.w X.K X.mg X.base k C "__eq__" sp []) (pl : neB X.K C f0 = true) (e0 : PySem.W.findIn X.K (.ref C) "__eq__" = some (some (.ref f0))) (hr : Room j X.A) (hk : k + 1 ≤ j) : OpR X (compareOp .NotEq) (rNeM C sp) := by
  intro pins s σ H x y v u Q I rx ry h
  obtain ⟨a, b, dx, dy, fs, gs, rfl, rfl, ha, hb, hsp⟩ := h
  obtain ⟨f, fd, ps, ds, hc, hm, F, bn, d⟩ := c.ex
  cases d
  cases rx
  cases ry
  have e1 : f = f0 := by
    have z := hm.at_.symm.trans e0
    cases z
    rfl
  subst e1
  obtain ⟨mA, J, _⟩ := ins_get I.hok ha
  obtain ⟨mB, J', _⟩ := ins_get I.hok hb
  obtain ⟨od, J, _⟩ := J.look
  obtain ⟨od', J', _⟩ := J'.look
  have ty : PySem.W.typeIn X.K (.ref f) = some (.type "function") := beq_iff_eq.mp hm.fn
  obtain ⟨of, lk, hfc⟩ : ∃ of, X.K.lookup f = some of ∧ of.cls = .type "function" := by
    have z : (X.K.lookup f).map (·.cls) = some (.type "function") := ty
    cases q : X.K.lookup f with
    | none => rw [q] at z; cases z
    | some o => rw [q] at z; exact ⟨o, rfl, Option.some.inj z⟩
  obtain ⟨_, _, Y⟩ := neB_ok I.kIn pl J.at_ J.cls (I.kIn _ _ lk) hfc
  have hr1 : Room (k + 1) X.A := hr.mono hk
  obtain ⟨hp, g, dr, tk, os⟩ := id s
  refine compareOp_ne_ownEq PySem.F.cmp_object Y J'.at_ J'.cls (by have := hr1.un; omega) ?_
  have hl := F.len _ _ _ _ hsp
  have r2 : Vals [V.ref a, V.ref b] [Value.ref a, Value.ref b] := .cons rfl (.cons rfl .nil)
  refine wpAny_call (codeAny_mono (F.run X.A.in1 X.stack s H ⟨[.ref a, .ref b], []⟩ [.ref a, .ref b] [.ref a, .ref b] _ C8.E0 hr1.in1 I.env0.in1 (by
    have := bn s [.ref a, .ref b] I.kIn (by simpa using hl)
    simpa using this) r2 hsp) fun r s' hq => ?_)
  cases r with
  | error e => exact hq.elim
  | ok fl =>
    cases fl with
    | ret w =>
      obtain ⟨z, H', I', rz, r, ez, q⟩ := I.after hq
      subst ez
      cases rz
      exact ⟨r, rfl, .bl (!r), H', I', rfl, q⟩
    | next => exact False.elim hq
    | brk => exact False.elim hq
    | cont => exact False.elim hq
end
/-- in data: the two are the same list -/
theorem rp_neSeats {U : Vol} {CS : Addr} {mk : Str} {ev : List Str} {m : Nat} {L : Lots} (hv : ValidL m L) : RP U (rNeM CS (spD (V0 U.w) (aSeq mk ev m CS))) (.dat (seatsD CS ev mk L)) (.dat (seatsD CS ev mk L)) (· = .dat (.bl false)) := fun H x y iv hx hy Q q => by
  obtain ⟨a, dx, fv, rfl, ha, hfa⟩ := DT.obj_inv (show DT H x (.obj CS _) from hx)
  obtain ⟨b, dy, gv, rfl, hb, hfb⟩ := DT.obj_inv (show DT H y (.obj CS _) from hy)
  refine ⟨a, b, dx, dy, fv, gv, rfl, rfl, ha, hb, [.dat (seatsD CS ev mk L), .dat (seatsD CS ev mk L)], (· = .dat (.bl true)), .cons (show DT H _ _ from .obj ha hfa) (.cons (show DT H _ _ from .obj hb hfb) .nil), trivial, ⟨L, hv, rfl, rfl⟩, fun v H' s x i p n => ?_⟩
  subst p
  have sm := x.same
  exact ⟨true, DT.bl_inv n.1, q _ H' _ (.of sm) (U.ex _ _ iv sm) rfl (.dat (.bl _))⟩
end K13
end
section
set_option Elab.async false
set_option linter.all false
set_option maxRecDepth 100000
set_option maxHeartbeats 4000000
set_option autoImplicit false
/-! a tuple, no times -/
namespace K13
open PySem PySem.Spec PyProof.Rows L2
theorem tup_none (l : Addr) (items : Array Value) (n : Nat) (dd : Option Addr) (sl : Array (Option Value)) (u : Tok) (hi : items.isEmpty = false) : Meets (Builtin.«tuple.__mul__» ⟨[.ref l, .int 0 u], []⟩) (fun _ R s => s.heap.get? l = some { cls := .type "tuple", dict := dd, data := .seq items n, slots := sl } ∧
      R (.ok (.ret (Value.ref s.heap.objs.size))) { s with heap := s.heap.push { cls := Value.type "tuple", data := Data.seq #[] }, toks := s.toks }) :=
  .of_wp fun prog w A R s h => by
    obtain ⟨hp, g, d, tk, os⟩ := s
    obtain ⟨hl, h⟩ := h
    have f1 := AutoSeq1.idx_int
    wp_walk using wpAny_loadPart' hl
    repeat (first
      | (refine wpAny_ite_false (decide_eq_false (by rw [hi]; decide)) ?_; wp_walk using wpAny_loadPart' hl)
      | (refine wpAny_ite_false (decide_eq_false (by decide)) ?_; wp_walk using wpAny_loadPart' hl)
      | (refine wpAny_ite_true (by simp) ?_; wp_walk using wpAny_loadPart' hl)
      | (refine wpAny_ite_true (decide_eq_true (by simp)) ?_; wp_walk using wpAny_loadPart' hl))
    exact ⟨_, rfl, h⟩
def rRep0 (K : PySem.W.Frag) : R2 := fun x y H Q => ∃ l xs, x = .ref l ∧ y = .int 0 ∧ SqT K H l xs ∧ xs ≠ [] ∧ ∀ p, H p = none → Q (.ref p) (upd H p (.tup []))
theorem op_rep0 {X : Cx} : OpR X (binaryOp .Mult) (rRep0 X.K) := by
  intro pins s σ H x y v u Q I rx ry h
  obtain ⟨l, xs, rfl, rfl, hT, hne, q⟩ := h
  cases rx
  obtain ⟨t, rfl⟩ := ry
  obtain ⟨its, r, ⟨⟨cls, dd, data, sl⟩, ho, hc, n, hd⟩, hs⟩ := I.tuple hT
  simp only at hc hd
  subst hc hd
  have hle : its.length = xs.length := r.length.symm
  have hi : its.toArray.isEmpty = false := by
    cases its with
    | nil => exact absurd (List.eq_nil_of_length_eq_zero hle.symm) hne
    | cons a b => rfl
  refine wpAny_binaryOp_repeat_ref (T := "tuple") (U := "int") (by decide) ⟨_, ho, rfl⟩ (fun s' => typeIs_int s' 0 t) noFill_tuple_mul F.fills_int_mul F.slot_int_rmul repeat_tuple F.slot_int_index.lookup
    (call_meets F.slot_int_rmul (typeIs_int s 0 t) F.entry_int_rmul (F.args_int_rmul_2 _ _) (int_rmul_tuple 0 t l its.toArray n dd sl)
      ⟨ho, rfl, ⟨_, ho, rfl⟩, call_meets F.slot_tuple_mul ⟨_, ho, rfl⟩ F.entry_tuple_mul (F.args_tuple_mul_2 _ _) (tup_none l its.toArray n dd sl t hi) ⟨ho, ?_⟩⟩)
  refine ⟨.ref s.heap.objs.size, _, I.laid (t' := s.toks) (o := .tup []) (fun b ob q => Heap.get?_push_of_some _ q) (Nat.le_refl _) ?_, rfl, q _ (I.hok.fresh (Nat.le_refl _))⟩
  exact ⟨Nat.zero_le _, [], .nil, IsTup.new _ _⟩
theorem rp_rep0 {U : Vol} {K : PySem.W.Frag} {ds : List Dt} (h : ds ≠ []) : RP U (rRep0 K) (.dat (.tup ds)) (.dat (.int 0)) (· = .dat (.tup [])) := fun H x y iv hx hy Q q => by
  obtain ⟨a, xs, rfl, ha, hs⟩ := DT.tup_inv hx
  refine ⟨a, xs, rfl, DT.int_inv hy, .of ha, fun e => h ?_, fun p np => Post.newT q rfl iv .nil np⟩
  have := hs.len
  rw [e] at this
  exact List.eq_nil_of_length_eq_zero this.symm
end K13
end
section
set_option Elab.async false
set_option linter.all false
set_option maxRecDepth 100000
set_option maxHeartbeats 4000000
set_option autoImplicit false
local macro_rules | `(tactic| walk_at "fg") => `(tactic| (repeat' (first | exact True.intro | exact rfl | constructor)))
namespace K13
open PySem PySem.Spec PyProof.Rows L2 C8 NdefX LamX
/-! ### the errors -/
abbrev s_TooMany_init : Stmt := inClass (topS 5) 0
theorem sc_TooMany_init : FnScope ["self", "most"] ["self", "most"] (defScope s_TooMany_init) := ⟨rfl, rfl, rfl, by decide +kernel, rfl, by decide +kernel, by decide +kernel⟩
theorem bd_TooMany_init : BdM "__init__" "TooMany.__init__" s_TooMany_init ["self", "most"] := fun _ _ _ _ _ _ us hl => match us, hl with | [_, _], _ => rfl
structure ExK (K : PySem.W.Frag) (mg : Str → Option Value) (CT CO : Addr) : Prop where
  gT : mg "TooMany" = some (.ref CT)
  gO : mg "OtherMarks" = some (.ref CO)
  tT : OexC K CT
  xT : XfC K CT
  nT : PySem.W.findIn K (.ref CT) "most" = some none
  iT : ∃ fI fd, PySem.W.findIn K (.ref CT) "__init__" = some (some (.ref fI)) ∧ PySem.W.typeIn K (.ref fI) = some (.type "function") ∧ FunD K "__init__" "TooMany.__init__" (defArgs s_TooMany_init) (defBody s_TooMany_init) (defScope s_TooMany_init) [] [] fI fd
  oO : PySem.W.excIn K CO [.type "ValueError", .type "Exception", .type "BaseException", .type "object"] "ValueError.__new__" = true
  kO : PySem.W.keepIn K (.ref CO) = true
  sO : PySem.W.subIn K (.ref CO) (.type "BaseException") = some true
  yO : PySem.W.typeIn K (.ref CO) = some (.type "type")
  e1 : PySem.W.exmOne K (.ref CT) (.ref CT) = some true
  e2 : PySem.W.exmOne K (.ref CO) (.ref CT) = some false
  e3 : PySem.W.exmOne K (.ref CO) (.ref CO) = some true
def spTM (C : Addr) : Sp := fun vs H Q _ => ∃ a y, vs = [.ref a, y] ∧ H a = some (exo a C none) ∧ ∀ dx, H dx = none → dx ≠ a → Q .non (upd (upd H dx (exd dx [("most", y)])) a (exo a C (some dx)))
/-! ### values told at once: fields, texts -/
section
variable {σ : Sg} {H : Hp} {K : PySem.W.Frag} {D : Ends} {te ta tb : TE}
theorem ev_fld {f : Str} {a C dx : Addr} {fv : List (Str × V)} {v : V} (h : Ev te σ H (.ref a)) (ha : H a = some (.ins C dx fv)) (hc : Cls K C) (hn : NoAttr K C f) (hl : fv.lookup f = some v) : Ev (tFld K te f) σ H v := fun Q q => h _ ⟨a, C, dx, fv, v, rfl, ha, hc, hn, hl, q⟩
theorem ev_neS {i j : Str} (h1 : Ev ta σ H (.str i)) (h2 : Ev tb σ H (.str j)) : Ev (tOp rNe ta tb) σ H (.bl (!decide (i = j))) := fun Q q => h1 _ (h2 _ ⟨rfl, by
  have e : decide (V.str i = V.str j) = decide (i = j) := by simp
  rw [e]
  exact q⟩)
theorem ev_lenT {p : Addr} {xs : List V} (h : Ev te σ H (.ref p)) (hp : H p = some (.tup xs)) : Ev (tCB (rLen K) (tCons te tNil)) σ H (.int xs.length) := fun Q q => h _ ⟨p, xs, rfl, .inr (.of hp), q⟩
theorem obj_fld {C : Addr} {fs : List (Str × Dt)} {v : V} (h : DT H v (.obj C fs)) : ∃ a dx fv, v = .ref a ∧ H a = some (.ins C dx fv) ∧ ∀ f d, fs.lookup f = some d → ∃ u, fv.lookup f = some u ∧ DT H u d := by
  obtain ⟨a, dx, fv, rfl, ha, hf⟩ := DT.obj_inv h
  exact ⟨a, dx, fv, rfl, ha, fun f d e => hf.get e⟩
end
section
variable {P : Program} {w : World} {K : PySem.W.Frag} {mg : Str → Option Value} {base : Heap} {mk : Str} {ev : List Str} {m : Nat} {CR CS CT CO : Addr}
theorem okTM (x : ExK K mg CT CO) : ∃ fI fd, PySem.W.findIn K (.ref CT) "__init__" = some (some (.ref fI)) ∧ PySem.W.typeIn K (.ref fI) = some (.type "function") ∧ FnOk P w K mg base C8.CX0 1 fI fd ["self", "most"] (spTM CT) ∧ Binds K fd ["self", "most"] [] := by
  obtain ⟨fI, fd, h1, h2, F⟩ := x.iT
  refine ⟨fI, fd, h1, h2, F.ok (CX := C8.CX0) sc_TooMany_init (fun vs H Q E ⟨a, y, e, _⟩ => by rw [e]; rfl) (fun cdv A outer s H vs Q E hr hsp => ?_), F.bindsN bd_TooMany_init⟩
  obtain ⟨a, y, rfl, ha, q⟩ := hsp
  refine ⟨_, pss_one (ps_ost (pv 0) (pv 1)), ?_⟩
  exact ⟨y, rfl, .ref a, rfl, a, CT, rfl, x.tT, x.nT, .inl ⟨ha, fun dx n ne => q dx n ne⟩⟩
/-! ### the refusals -/
/-- the two arguments: a rule, a list for the marks z -/
def twoA (w : World) (H : Hp) (CR CS : Addr) (mk : Str) (ev : List Str) (M : Moves) (z : Str) (L : Lots) (vs : List V) : Prop := HAll (V0 w) H vs [.dat (ruleD CR mk M), .dat (.obj CS (seatsF ev z L))]
theorem twoA_inv {H : Hp} {M : Moves} {z : Str} {L : Lots} {vs : List V} (h : twoA w H CR CS mk ev M z L vs) : ∃ a dx fv b dy gv t, vs = [.ref a, .ref b] ∧ H a = some (.ins CR dx fv) ∧ fv.lookup ("marks" : Str) = some (.str mk) ∧ H b = some (.ins CS dy gv) ∧ gv.lookup ("marks" : Str) = some (.str z) ∧ gv.lookup ("lots" : Str) = some (.ref t) ∧ ∃ xs, H t = some (.tup xs) ∧ xs.length = L.length := by
  obtain ⟨v1, v2, rfl, h1, h2⟩ : ∃ v1 v2, vs = [v1, v2] ∧ DT H v1 (ruleD CR mk M) ∧ DT H v2 (.obj CS (seatsF ev z L)) := by
    cases h with
    | cons h1 r => cases r with
      | cons h2 r => cases r; exact ⟨_, _, rfl, h1, h2⟩
  obtain ⟨a, dx, fv, rfl, ha, fa⟩ := obj_fld h1
  obtain ⟨b, dy, gv, rfl, hb, fb⟩ := obj_fld h2
  obtain ⟨u1, l1, d1⟩ := fa "marks" (.str mk) rfl
  obtain ⟨u2, l2, d2⟩ := fb "marks" (.str z) rfl
  obtain ⟨u3, l3, d3⟩ := fb "lots" (eLots ev L) rfl
  obtain ⟨t, xs, rfl, ht, hs⟩ := DT.tup_inv (show DT H u3 (.tup (L.map (eLot ev))) from d3)
  exact ⟨a, dx, fv, b, dy, gv, t, rfl, ha, by rw [l1, d1.str_inv], hb, by rw [l2, d2.str_inv], l3, xs, ht, by rw [hs.len, List.length_map]⟩
def spSX (w : World) (CR CS CO : Addr) (mk : Str) (ev : List Str) : Sp := fun vs H Q E => ∃ M z L, twoA w H CR CS mk ev M z L vs ∧ ((z ≠ mk ∧ E (.ref CO) none H) ∨ (z = mk ∧ Q .non H))
def spFX (w : World) (CR CS CT CO : Addr) (mk : Str) (ev : List Str) : Sp := fun vs H Q E => ∃ M z L, twoA w H CR CS mk ev M z L vs ∧ ((z ≠ mk ∧ E (.ref CO) none H) ∨ (z = mk ∧ 12 < L.length ∧ ∀ d, H d = none → E (.ref CT) (some d) (upd H d (.xd [("most", .int 12)]))))
theorem okSX (kc : Kc K CR CS) (x : ExK K mg CT CO) (D : Dn K mg "check_same_marks" s_check_same_marks) : ∃ f fd, FnOk P w K mg base (L2.CX P w) 1 f fd ["one", "other"] (spSX w CR CS CO mk ev) ∧ mg "check_same_marks" = some (.ref f) ∧ PySem.W.keepIn K (.ref f) = true ∧ Binds K fd ["one", "other"] [] := by
  obtain ⟨f, fd, F, gm⟩ := D
  refine ⟨f, fd, F.ok (CX := L2.CX P w) sc_check_same_marks (fun vs H Q E ⟨M, z, L, h, _⟩ => by rw [h.len]; rfl) (fun cdv A outer s H vs Q E hr hsp => ⟨_, pss_one (ps_if (pt_cmpR op_ne (show PE _ _ (tFld K _ _) from pe_fld (pv 0) rfl) (show PE _ _ (tFld K _ _) from pe_fld (pv 1) rfl) (nomark _)) (pss_one (ps_raise rfl (takes_of rfl rfl rfl rfl) (pmk_none0 PySem.F.excBase_ValueError x.oO x.gO x.kO (raises_own x.sO x.yO) (by rfl)))) pss_nil), ?_⟩), gm, F.kp, F.bindsN bd_check_same_marks⟩
  obtain ⟨M, z, L, h, q⟩ := hsp
  obtain ⟨a, dx, fv, b, dy, gv, t, rfl, ha, l1, hb, l2, _⟩ := twoA_inv h
  refine s_if (b := !decide (mk = z)) (ev_neS (ev_fld (ev_var rfl) ha kc.r kc.rm l1) (ev_fld (ev_var rfl) hb kc.s kc.sm l2)) (fun hb => ?_) fun hb => ?_
  · rcases q with ⟨_, q⟩ | ⟨e, _⟩
    · exact q
    · rw [e] at hb
      simp at hb
  · rcases q with ⟨e, _⟩ | ⟨_, q⟩
    · exact absurd (by simpa using hb : mk = z).symm e
    · exact q
theorem okFX (kc : Kc K CR CS) (Mm : Mf mg) (x : ExK K mg CT CO) (D1 : Dn K mg "check_same_marks" s_check_same_marks) (D : Dn K mg "part_from" s_part_from) : ∃ f fd, FnOk P w K mg base (L2.CX P w) 3 f fd ["rule", "seats"] (spFX w CR CS CT CO mk ev) ∧ mg "part_from" = some (.ref f) ∧ PySem.W.keepIn K (.ref f) = true ∧ Binds K fd ["rule", "seats"] [] := by
  obtain ⟨f, fd, F, gm⟩ := D
  obtain ⟨f1, fd1, F1, gm1, kp1, b1⟩ := okSX (P := P) (w := w) (base := base) (mk := mk) (ev := ev) kc x D1
  obtain ⟨fI, fdI, i1, i2, FI, bI⟩ := okTM (P := P) (w := w) (base := base) x
  refine ⟨f, fd, F.ok (CX := L2.CX P w) sc_part_from (fun vs H Q E ⟨M, z, L, h, _⟩ => by rw [h.len]; rfl) (fun cdv A outer s H vs Q E hr hsp => ⟨_, pss_cons (ps_expr (pe_call F1 (hr.mono (by decide)) (by rfl) gm1 kp1 b1 .nil (passes_call (takes_of rfl rfl rfl rfl) fun _ _ _ _ h => h) (pa_cons (pv 0) (pa_cons (pv 1) pa_nil))))
      (pss_cons (ps_if (pt_cmpR op_gt (pe_callB (show CallR _ _ (rLen K) from call_len_seq) (by rfl) Mm.len_ PySem.boot_len (pa_cons (show PE _ _ (tFld K _ _) from pe_fld (pv 1) rfl) pa_nil)) (pe_gc (by rfl) Mm.MOST_KNOWN) (nomark _))
        (pss_one (ps_raise rfl (takes_of rfl rfl rfl rfl) (pmk_oex x.tT i1 i2 FI hr bI .nil C8.pass0 (by rfl) x.gT (pa_cons (pe_gc (by rfl) Mm.MOST_KNOWN) pa_nil)))) pss_nil) (pss_one ps_never)), ?_⟩), gm, F.kp, F.bindsN bd_part_from⟩
  obtain ⟨M, z, L, h, q⟩ := hsp
  obtain ⟨a, dx, fv, b, dy, gv, t, rfl, ha, l1, hb, l2, l3, xs, ht, hxl⟩ := twoA_inv h
  rcases q with ⟨e, q⟩ | ⟨e, hl, q⟩
  · exact ⟨_, rfl, _, rfl, M, z, L, h, .inl ⟨e, q⟩⟩
  · refine ⟨_, rfl, _, rfl, M, z, L, h, .inr ⟨e, ?_⟩⟩
    try dsimp only
    refine s_seq (s_if (b := decide ((12 : Int) < (xs.length : Int))) (ev_I0 (ev_lenT (ev_fld (ev_var rfl) hb kc.s kc.sl l3) ht) ev_c) (fun _ => ?_) fun hb => ?_)
    · refine ⟨by decide, fun a na => ⟨a, .int 12, rfl, upd_same, fun d nd ne => ⟨rfl, d, [("most", .int 12)], upd_same, ?_, ?_, ?_⟩⟩⟩
      · rw [upd_ne ne, upd_same]
      · rw [upd_ne ne] at nd
        exact nd
      · rw [upd_ne ne] at nd
        have e1 : upd (del (upd (upd (upd H a (exo a CT none)) d (exd d [("most", .int 12)])) a (exo a CT (some d))) a) d (.xd [("most", .int 12)]) = upd H d (.xd [("most", .int 12)]) := by
          funext b
          by_cases h : b = d
          · rw [h, upd_same, upd_same]
          · rw [upd_ne h, upd_ne h]
            by_cases h2 : b = a
            · rw [h2, del_same, na]
            · rw [del_ne h2, upd_ne h2, upd_ne h, upd_ne h2]
        exact (congrArg (E (.ref CT) (some d)) e1).mpr (q d nd)
    · have z := of_decide_eq_false hb
      omega
end
end K13
end
section
set_option Elab.async false
set_option linter.all false
set_option maxRecDepth 100000
set_option maxHeartbeats 4000000
set_option autoImplicit false
local macro_rules | `(tactic| walk_at "fg") => `(tactic| (repeat' (first | exact True.intro | exact rfl | constructor)))
namespace K13
open PySem PySem.Spec PyProof.Rows L2 C8 NdefX LamX
section
variable {P : Program} {w : World} {K : PySem.W.Frag} {mg : Str → Option Value} {base : Heap} {mk : Str} {ev : List Str} {m : Nat} {CR CS CT CO : Addr}
/-! ### _law_too_many -/
abbrev s__law_too_many : Stmt := topS 69
theorem sc__law_too_many : FnScope ["_law_rule", "_law_seats", "_law_found", "_law_other", "e"] ["_law_rule", "_law_seats"] (defScope s__law_too_many) := ⟨rfl, rfl, rfl, by decide +kernel, rfl, by decide +kernel, by decide +kernel⟩
theorem bd__law_too_many : Bd "_law_too_many" s__law_too_many ["_law_rule", "_law_seats"] := fun _ _ _ _ _ _ us hl => match us, hl with | [_, _], _ => rfl
def tsA (K : PySem.W.Frag) (CT : Addr) : Addr → Value → Option Addr → TS := fun a cls d => tDrop (tBM K "list" rAppend (tVar 2) (tCons (tXf a cls d CT "most" (tVar 4)) tNil))
def tsB (K : PySem.W.Frag) : Addr → Value → Option Addr → TS := fun _ _ _ => tDrop (tBM K "list" rAppend (tVar 2) (tCons (tC (.str "marks")) tNil))
def tryW (K : PySem.W.Frag) (CT CO : Addr) (D : Ends) : WX := wAs K (.ref CT) 4 (tsA K CT) (fun cls d σ H => ∃ b, PySem.W.exmOne K cls (.ref CO) = some b ∧ (b = true → ∀ a, H a = none → tsB K a cls d D σ H) ∧ (b = false → False)) D
def tTry (w : World) (K : PySem.W.Frag) (CR CS CT CO : Addr) (mk : Str) (ev : List Str) : TS := fun D σ H => tDrop (L2.tCallS (spFX w CR CS CT CO mk ev) (WE (tryW K CT CO D)) (tCons (tVar 0) (tCons (tVar 3) tNil))) D σ H
/-- one turn of the try -/
theorem d_try {G : DE} {M : Moves} {z : Str} {L : Lots} {d1 : Dt} {ds es : List Dt} (x : ExK K mg CT CO) (hl : ds.length < 1000) (he : (z ≠ mk ∧ es = ds ++ [.str "marks"]) ∨ (z = mk ∧ 12 < L.length ∧ es = ds ++ [.int 12]))
    (k : G.nx [some (.dat (ruleD CR mk M)), some (.dat d1), some (.ol es), some (.dat (.obj CS (seatsF ev z L))), none]) :
    DS (V0 w) (tTry w K CR CS CT CO mk ev) [some (.dat (ruleD CR mk M)), some (.dat d1), some (.ol ds), some (.dat (.obj CS (seatsF ev z L))), none] G := fun D H0 σ H S F => by
  obtain ⟨v0, e0, g0, _⟩ := S.sl 0 _ rfl
  obtain ⟨v3, e3, g3, _⟩ := S.sl 3 _ rfl
  have two : twoA w H CR CS mk ev M z L [v0, v3] := .cons g0 (.cons g3 .nil)
  refine ⟨v0, e0, v3, e3, M, z, L, two, ?_⟩
  rcases he with ⟨hz, rfl⟩ | ⟨hz, hL, rfl⟩
  · refine .inl ⟨hz, false, x.e2, fun z => (by cases z), fun _ => ⟨true, x.e3, fun _ a na => ?_, fun z => by cases z⟩⟩
    obtain ⟨v2, e2, ⟨l, xs, rfl, h2, h3, h4⟩, _⟩ := S.sl 2 _ rfl
    refine ⟨_, e2, .inl ⟨rfl, _, .of h2⟩, l, xs, .str "marks", rfl, rfl, h2, by rw [h4.len]; exact Nat.lt_of_lt_of_le hl (by decide), ?_⟩
    exact F.nx _ _ _ k (S.turn rfl e2 h2 (h4.snoc (.str _)))
  · refine .inr ⟨hz, hL, fun d nd => ⟨true, x.e1, fun _ a na => ?_, fun z => by cases z⟩⟩
    have sm : Same H (upd H d (.xd [("most", .int 12)])) := same_new nd
    have S' := S.same sm
    obtain ⟨v2, e2, ⟨l, xs, rfl, h2, h3, h4⟩, _⟩ := S'.sl 2 _ rfl
    have hlen : 4 < σ.length := by rw [← S.len]; show 4 < 5; decide
    have e2' : (σ.set 4 (some (V.ref a)))[2]? = some (some (.ref l)) := by rw [List.getElem?_set_ne (by decide)]; exact e2
    have e4 : (σ.set 4 (some (V.ref a)))[4]? = some (some (.ref a)) := by rw [List.getElem?_set_self hlen]
    refine ⟨_, e2', .inl ⟨rfl, _, .of h2⟩, _, e4, rfl, rfl, d, _, .int 12, rfl, upd_same, rfl, l, xs, .int 12, rfl, rfl, h2, by rw [h4.len]; exact Nat.lt_of_lt_of_le hl (by decide), ?_⟩
    have T := (S'.turn rfl e2 h2 (h4.snoc (.int 12))).wipe [4]
    have es : (σ.set 4 (some (V.ref a))).set 4 none = wipe σ [4] := by
      show _ = σ.set 4 none
      rw [List.set_set]
    have q := F.nx _ _ _ k T
    rw [← es] at q
    exact q
def aTooMany (mk : Str) (ev : List Str) (m : Nat) (CR CS : Addr) : Ask := fun ss P => ∃ M L, 12 < L.length ∧ L.length ≤ 40 ∧ ss = [.dat (ruleD CR mk M), .dat (seatsD CS ev mk L)] ∧ P (.dat (.bl true))
theorem cTooMany (hx : ("xyz" : Str) ≠ mk) (kc : Kc K CR CS) (M : Mf mg) (x : ExK K mg CT CO) (k_Seats : Mak P w K mg base 5 "Seats" CS (spInit w CS (aSeats mk ev m)) []) (D1 : Dn K mg "check_same_marks" s_check_same_marks) (D2 : Dn K mg "part_from" s_part_from) (D : Dn K mg "_law_too_many" s__law_too_many) :
    Cal P w K mg base 7 "_law_too_many" (spD (V0 w) (aTooMany mk ev m CR CS)) [] := by
  obtain ⟨f, fd, F, gm, kp, bn⟩ := okFX (P := P) (w := w) (base := base) (mk := mk) (ev := ev) kc M x D1 D2
  have sc := sc__law_too_many
  refine cal_of D sc bd__law_too_many (fine1 fun ss P ⟨_, _, _, _, e, _⟩ => ⟨[_, _], e, rfl⟩) (by decide) fun f' cdv A' outer s H E hr => ⟨_, (pss_cons (ps_set (i := 2) sc.nd rfl (by first | exact .inl rfl | exact .inr rfl) (pe_lst pa_nil))
      (pss_cons (ps_for PassesOwn.never rfl (show PI _ _ _ (iList K _) from pi_list (pe_lst (pa_cons (pv 1) (pa_cons (show PE _ _ (tMake _ _ _ _ _) from pe_mk k_Seats hr (by decide) (by rfl) (pa_cons pe_str (pa_cons (pe_op (show OpR _ _ (rRep0 K) from op_rep0) (show PE _ _ (tFld K _ _) from pe_fld (pv 1) rfl) pe_int) pa_nil))) pa_nil)))) (pg_name (i := 3) sc.nd rfl (by first | exact .inl rfl | exact .inr rfl))
        (pss_one (show PS _ _ (tTry w K CR CS CT CO mk ev) from ps_try_w (tb := fun W => tDrop (L2.tCallS (spFX w CR CS CT CO mk ev) (WE W) (tCons (tVar 0) (tCons (tVar 3) tNil)))) (wi := tryW K CT CO) rfl rfl
          (fun W pn xe tk => pss_one (ps_expr (L2.pe_callS F (hr.mono (by decide)) (by rfl) gm kp bn (fun σ => passAt tk σ) (pa_cons (pv 0) (pa_cons (pv 3) pa_nil)))))
          (hds_as (i := 4) (ts := tsA K CT) rfl sc.nd rfl rfl ⟨rfl, by decide, .inl x.gT⟩ (fun a oe cls d pn hz hf => pss_one (ps_expr (show PE _ _ (tBM K _ _ _ _) from pe_bm PySem.F.plainAttrs_list PySem.F.slot_list_append PySem.F.type_list_append mt_append (pv 2) (pa_cons (pe_xf x.xT x.nT hz hf (pv 4)) pa_nil))))
            (hds_cons (ts := tsB K) rfl ⟨rfl, by decide, .inl x.gO⟩ (fun a oe cls d pn hz hf => pss_one (ps_expr (show PE _ _ (tBM K _ _ _ _) from pe_bm PySem.F.plainAttrs_list PySem.F.slot_list_append PySem.F.type_list_append mt_append (pv 2) (pa_cons pe_str pa_nil)))) (hds_nil rfl rfl takes_none5))))))
      (pss_one (ps_ret (pe_cmpR (show OpR _ _ (rEqD K) from (op_eqD hr.units)) (pv 2) (pe_lst (pa_cons pe_int (pa_cons pe_str pa_nil))) (nomark _)))))), ?_⟩
  rintro ss Pp ⟨R, L, hl1, hl2, rfl, hP⟩
  refine d_seq (d_asgN (ds := []) (e_lst (ds := []) ea_nil) ?_)
  have hne : L.map (eLot ev) ≠ [] := fun e => by
    rw [List.map_eq_nil_iff] at e
    rw [e] at hl1
    exact absurd hl1 (by decide)
  refine d_seq (d_forE (fun i => [some (.dat (ruleD CR mk R)), some (.dat (seatsD CS ev mk L)), some (.ol (([.int 12, .str "marks"] : List Dt).take i)), none, none]) (i_list (l_newD (e_lst (ds := [seatsD CS ev mk L, .obj CS (seatsF ev "xyz" [])]) (ea_cons (e_var rfl) (ea_cons (e_mk (U := V0 w) (ss := [.dat (.str "xyz"), .dat (eLots ev [])]) (ea_cons e_str (ea_cons (e_opD (e_fld (e_var rfl) kc.s kc.sl rfl) e_int (rp_rep0 hne)) ea_nil)) ⟨"xyz", [], by decide +kernel, (fun a ha => by cases ha), Nat.zero_le _, .inl rfl, rfl, rfl⟩) ea_nil))))) (by walk_at "fg") (fun i d hd => ?_) ?_)
  · match i, hd with
    | 0, hd =>
      cases hd
      exact ⟨_, _, gd_name, d_try (z := mk) (L := L) x (by decide) (.inr ⟨rfl, hl1, rfl⟩) (by walk_at "fg")⟩
    | 1, hd =>
      cases hd
      exact ⟨_, _, gd_name, d_try (z := "xyz") (L := []) x (by show 1 < 1000; decide) (.inl ⟨hx, rfl⟩) (by walk_at "fg")⟩
    | i + 2, hd => simp at hd
  · exact d_ret (d := .bl true) (e_opD (e_ol (ds := [.int 12, .str "marks"]) rfl) (EvP.rl (e_lst (ds := [.int 12, .str "marks"]) (ea_cons e_int (ea_cons e_str ea_nil)))) (rp_eqL (by decide +kernel) (by decide +kernel) (by simp))) hP
end
end K13
end
section
set_option Elab.async false
set_option linter.all false
set_option maxRecDepth 100000
set_option maxHeartbeats 4000000
set_option autoImplicit false
local macro_rules | `(tactic| walk_at "fg") => `(tactic| (repeat' (first | exact True.intro | exact rfl | constructor)))
namespace K13
open PySem PySem.Spec PyProof.Rows L2 C8 NdefX LamX
section
variable {U : Vol} {E : DEnv} {G : DE} {t u : TS} {X : Cx} {ss : List Stmt}
/-- a walk that is told later -/
def tAny (X : Cx) (ss : List Stmt) : TS := fun D σ H => ∃ t, PSs X ss t ∧ t D σ H
theorem pss_any : PSs X ss (tAny X ss) := ⟨fun pins s σ H D I ⟨_, h, q⟩ => h.run pins s σ H D I q⟩
theorem d_any (h : ∃ t, PSs X ss t ∧ DS U t E G) : DS U (tAny X ss) E G := fun D H0 σ H S F => let ⟨t, h1, h2⟩ := h; ⟨t, h1, h2 D H0 σ H S F⟩
/-- a statement, then the rest from any of the places it may lead to -/
theorem d_cut {α : Type} (env : α → DEnv) (P : α → Prop) (h1 : DS U t E { G with nx := fun E' => ∃ x, P x ∧ Fg E' (env x) }) (h2 : ∀ x, P x → DS U u (env x) G) : DS U (tSeq t u) E G := fun D H0 σ H S F =>
  h1 { D with nx := u D } H0 σ H S ⟨fun E' σ' H' ⟨x, p, f⟩ S' => h2 x p D H0 σ' H' (S'.fg f) F, F.rt, F.bk, F.ct⟩
end
/-- what the law draws: a list for the kinds, with few ways to leave seats -/
structure Good (m : Nat) (L : Lots) : Prop where
  v : ValidL m L
  l : L.length ≤ 14
  few : ∃ tt : List (List Nat), tt.length ≤ 60 ∧ ∀ t, ReachT m L t → t ∈ tt
theorem Good.few4 {m : Nat} {L : Lots} (h : ValidL m L) (hl : L.length ≤ 4) : Good m L := ⟨h, by omega, reachT_few (by omega)⟩
theorem Good.two {m : Nat} {L : Lots} (h : ValidL m L) (hl : L.length ≤ 12) (f : ∃ tt : List (List Nat), tt.length ≤ 60 ∧ ∀ t, ReachT m L t → t ∈ tt) : Good m L := ⟨h, by omega, f⟩
theorem Good.rep {m : Nat} {a : Lot} {n : Nat} (h : ValidLot m a) (hn : n ≤ 14) : Good m (List.replicate n a) := ⟨fun c hc => by rw [(List.mem_replicate.mp hc).2]; exact h, by rw [List.length_replicate]; exact hn, reachT_same (by omega)⟩
/-! ### what list_of tells -/
section
variable {M : Moves} {m : Nat} {L : Lots} {o : Option Lots}
theorem lr_list (h : LR M m o) (hs : Sim M m 0 L) (hv : ValidL m L) (hl : L.length ≤ 12) : o = some (leastOf L) := by
  have hc := candidate_sim hs hv hl
  rcases h with ⟨c, h1, h2, h3⟩ | ⟨h1, _⟩
  · rw [hc] at h1
    cases h1
    rw [h3, least_idem hv.full]
  · exact absurd (hs.alike (alike_least L)) (h1 _ hc)
theorem lr_long (h : LR M m o) (hs : Sim M m 0 L) (hv : ValidL m L) (hl : 12 < L.length) : o = none := by
  rcases h with ⟨c, h1, h2, h3⟩ | ⟨_, h2⟩
  · obtain ⟨cv, cl⟩ := candidate_valid h1
    have q := len_of_ans _ c L rfl cv hv fun w hw => (h2 w hw).symm.trans (hs w hw)
    omega
  · exact h2
theorem lr_some {c : Lots} (h : LR M m (some c)) : ∃ d, c = leastOf d ∧ Sim M m 0 c ∧ ValidL m c ∧ c.length ≤ 12 ∧ leastOf c = c := by
  rcases h with ⟨d, h1, h2, h3⟩ | ⟨_, h2⟩
  · cases h3
    obtain ⟨cv, cl⟩ := candidate_valid h1
    exact ⟨d, rfl, h2.alike (alike_least d), cv.least, by rw [least_len]; exact cl, least_idem cv.full⟩
  · cases h2
theorem lr_none (h : LR M m none) (hv : ValidL m L) (hl : L.length ≤ 12) : ¬ Sim M m 0 L := fun hs => by
  have q := lr_list h hs hv hl
  cases q
end
section
variable {P : Program} {w : World} {K : PySem.W.Frag} {mg : Str → Option Value} {base : Heap} {mk : Str} {ev : List Str} {m : Nat} {CR CS CT CO c Pt f0 tp sp : Addr}
/-! ### _law_tape -/
abbrev s__law_tape : Stmt := topS 53
theorem sc__law_tape : FnScope ["_law_script"] ["_law_script"] (defScope s__law_tape) := ⟨rfl, rfl, rfl, by decide +kernel, rfl, by decide +kernel, by decide +kernel⟩
theorem bd__law_tape : Bd "_law_tape" s__law_tape ["_law_script"] := fun _ _ _ _ _ _ us hl => match us, hl with | [_], _ => rfl
def spTape (K : PySem.W.Frag) : Sp := fun vs H Q _ => ∃ (a : Addr) (ns : List Int), vs = [.ref a] ∧ SqL K H a (ns.map V.int) ∧ ∀ sp tp, H sp = none → tp ≠ sp → H tp = none → Q (.ref tp) (upd (upd H sp (.lst (ns.map V.int))) tp (tapeO sp 0 0 1 0))
theorem cTape (M : Mf mg) (D : Dn K mg "_law_tape" s__law_tape) : Cal P w K mg base 1 "_law_tape" (spTape K) [] := by
  have sc := sc__law_tape
  refine cal_raw D sc bd__law_tape (fun vs H Q E ⟨a, ns, e, _⟩ => by rw [e]; rfl) fun f cdv A' outer s H E hr => ⟨_, (pss_one (ps_ret (pe_lst (pa_cons (pe_callTy (show CallR _ _ (rLst K) from call_list_of) (by rfl) M.list_ boot_list (pa_cons (pv 0) pa_nil)) (pa_cons pe_int (pa_cons pe_int (pa_cons pe_int (pa_cons pe_int pa_nil)))))))), ?_⟩
  rintro vs Q E' ⟨a, ns, rfl, ha, q⟩
  refine ⟨.ref a, rfl, a, ns.map V.int, rfl, .inl ha, fun l nl => ⟨by show 5 ≤ sizeLine; decide, fun p np => ?_⟩⟩
  have hne : p ≠ l := fun z => by rw [z, upd_same] at np; cases np
  rw [upd_ne hne] at np
  exact q l p nl hne np
/-! ### all that the law calls -/
structure LawC (P : Program) (w : World) (K : PySem.W.Frag) (mg : Str → Option Value) (base : Heap) (mk : Str) (ev : List Str) (m : Nat) (CR CS Pt tp sp : Addr) : Prop where
  kinds : Cal P w K mg base 1 "_law_kinds" (spD (V0 w) (a__law_kinds mk ev)) []
  pick : Cal P w K mg base 1 "_law_pick" (spD (VL w (TQ Pt) tp sp) (aPick tp)) []
  lot : Cal P w K mg base 2 "_law_lot" (spD (VL w (TQ Pt) tp sp) (aLot tp ev m)) []
  lots : Cal P w K mg base 3 "_law_lots" (spD (VL w (TQ Pt) tp sp) (aLots tp ev m)) []
  two : Cal P w K mg base 3 "_law_two_lots" (spD (VL w (TQ Pt) tp sp) (aTwo tp ev m)) []
  moves : Cal P w K mg base 2 "_law_moves" (spD (VL w (TQ Pt) tp sp) (aMoves tp ev m)) []
  changed : Cal P w K mg base 2 "_law_changed" (spD (VL w (TQ Pt) tp sp) (aChanged tp m)) []
  ofl : Cal P w K mg base 1 "_law_of_list" (spD (V0 w) (aOfList ev m)) []
  part : Cal P w K mg base 1 "_law_part" (spD (V0 w) (aLPart m)) []
  lnever : Cal P w K mg base 2 "_law_never_back" (spD (V0 w) (aLNever m)) []
  some_ : m ≤ 2 → Cal P w K mg base 2 "_law_some_list" (spD (V0 w) (aSome ev m)) []
  flag : Cal P w K mg base 1 "_law_flag" (spD (V0 w) aFlag) []
  tooMany : Cal P w K mg base 7 "_law_too_many" (spD (V0 w) (aTooMany mk ev m CR CS)) []
  seats : Mak P w K mg base 5 "Seats" CS (spInit w CS (aSeats mk ev m)) []
  rule : Mak P w K mg base 4 "Rule" CR (spInit w CR (aRule mk m)) []
  listOf : Cal P w K mg base 9 "list_of" (spD (VT w (TQ Pt)) (aListOf mk ev m CR CS)) []
  from_ : Cal P w K mg base 9 "part_from" (spD (VT w (TQ Pt)) (aFrom mk ev m CR CS)) []
  form : Cal P w K mg base 7 "form" (spD (V0 w) (aForm mk ev m CS)) []
  ruleOf : Cal P w K mg base 6 "rule_of" (spD (V0 w) (aRuleOf mk ev m CR CS)) []
  never : Cal P w K mg base 3 "never_back" (spD (V0 w) (aNever mk m CR)) []
  eq_ : Met P w K mg base 1 CS "__eq__" (spD (V0 w) (aSeq mk ev m CS)) []
end
end K13
end
section
set_option Elab.async false
set_option linter.all false
set_option maxRecDepth 100000
set_option maxHeartbeats 8000000
set_option autoImplicit false
local macro_rules | `(tactic| walk_at "fg") => `(tactic| (repeat' (first | exact True.intro | exact rfl | constructor)))
namespace K13
open PySem PySem.Spec PyProof.Rows L2 C8 NdefX LamX
section
variable {U U' : Vol} {E : DEnv}
theorem e_callSP {Ew : XK} {ta : TA} {A : Ask} {B : List Sl → Prop} {P : Sl → Prop} (sb : Sub U' U) (h : EvA U ta E B) (ha : ∀ ss, B ss → A ss P) (hm : ∀ s, P s → s.mut = true → s.own = true) : EvP U (tCall (spD U' A) [] Ew ta) E P := fun H0 σ H S Q q =>
  h H0 σ H S _ fun xs H1 ss' x1 i1 p1 n1 => by
    rw [List.append_nil]
    exact ⟨ss', P, sb.all n1, sb.inv _ i1, ha ss' p1, fun v H' s x i p n => q v H' s (x1.trans (sb.xt x)) (sb.back _ _ i1 x i) p ((sb.holdN i1 (hm s p) n).later x1)⟩
end
theorem b_same {a b : Bool} {p : Prop} (h1 : a = true ↔ p) (h2 : b = true ↔ p) : a = b := Bool.eq_iff_iff.mpr (h1.trans h2.symm)
section
variable {P : Program} {w : World} {K : PySem.W.Frag} {mg : Str → Option Value} {base : Heap} {mk : Str} {ev : List Str} {m : Nat} {CR CS CT CO c Pt f0 tp sp : Addr}
abbrev s_law : Stmt := topS 70
theorem sc_law : FnScope ["_law_script", "_law_tape_here", "_law_marks_here", "_law_every", "_law_lots_here", "_law_seats", "_law_moves_here", "_law_rule", "_law_told", "_law_drawn", "_law_other", "_law_part_here", "_law_due", "_law_found", "_law_number"] ["_law_script"] (defScope s_law) := ⟨rfl, rfl, rfl, by decide +kernel, rfl, by decide +kernel, by decide +kernel⟩
theorem bd_law : Bd "law" s_law ["_law_script"] := fun _ _ _ _ _ _ us hl => match us, hl with | [_], _ => rfl
def env0 (tp : Addr) (mk : Str) : DEnv := [none, some (.dat (.adr tp)), some (.dat (.str mk)), none, none, none, none, none, none, none, none, none, none, none, none]
theorem law_rest (Cs : LawC P w K mg base mk ev m CR CS Pt tp sp) (ne1 : neB K CS f0 = true) (ne2 : PySem.W.findIn K (.ref CS) "__eq__" = some (some (.ref f0))) (M : Mf mg) (kc : Kc K CR CS) (h : MkLaw mk ev m) (hm : 0 < m) (hm4 : m ≤ 4)
    (f : Addr) (cdv : Value) (A' : Around) (outer : List Env) (s : Shared) (H : Hp) (E : XK) (hr : Room 12 (A'.deeper (envOfC "law" (defScope s_law) s.heap.objs.size f cdv))) :
    ∃ t, PSs (cxOf C8.CX0 P w K mg base ["_law_script", "_law_tape_here", "_law_marks_here", "_law_every", "_law_lots_here", "_law_seats", "_law_moves_here", "_law_rule", "_law_told", "_law_drawn", "_law_other", "_law_part_here", "_law_due", "_law_found", "_law_number"] "law" (defScope s_law) f cdv A' outer s H E).nox ((defBody s_law).drop 2) t ∧
      DS (VL w (TQ Pt) tp sp) t (env0 tp mk) { nx := fun _ => False, rt := (· = .dat (.bl true)) } := by
  have sc := sc_law
  have c_law_kinds := Cs.kinds
  have c_law_pick := Cs.pick
  have c_law_lot := Cs.lot
  have c_law_lots := Cs.lots
  have c_law_two_lots := Cs.two
  have c_law_moves := Cs.moves
  have c_law_changed := Cs.changed
  have c_law_of_list := Cs.ofl
  have c_law_part := Cs.part
  have c_law_never_back := Cs.lnever
  have c_law_flag := Cs.flag
  have c_law_too_many := Cs.tooMany
  have k_Seats := Cs.seats
  have k_Rule := Cs.rule
  have c_list_of := Cs.listOf
  have c_part_from := Cs.from_
  have c_form := Cs.form
  have c_rule_of := Cs.ruleOf
  have c_never_back := Cs.never
  have m_eq := Cs.eq_
  refine ⟨_, (pss_cons (ps_set (i := 3) sc.nd rfl (by first | exact .inl rfl | exact .inr rfl) (pe_c c_law_kinds hr (by decide) (by rfl) (pa_cons (pv 2) pa_nil)))
      (pss_cons (ps_set (i := 4) sc.nd rfl (by first | exact .inl rfl | exact .inr rfl) (pe_c c_law_lots hr (by decide) (by rfl) (pa_cons (pv 1) (pa_cons (pv 3) (pa_cons pe_int pa_nil)))))
      (pss_cons (ps_if (pt_cmpR op_eq (pe_c c_law_pick hr (by decide) (by rfl) (pa_cons (pv 1) (pa_cons pe_int pa_nil))) pe_int (nomark _)) (pss_one (ps_set (i := 4) sc.nd rfl (by first | exact .inl rfl | exact .inr rfl) (pe_op (show OpR _ _ (rRepT K) from op_repT) (pe_tup (pa_cons (pe_c c_law_lot hr (by decide) (by rfl) (pa_cons (pv 1) (pa_cons (pv 3) pa_nil))) pa_nil)) (pe_op op_add pe_int (pe_c c_law_pick hr (by decide) (by rfl) (pa_cons (pv 1) (pa_cons pe_int pa_nil))))))) (pss_one (ps_if (pt_cmpR op_eq (pe_c c_law_pick hr (by decide) (by rfl) (pa_cons (pv 1) (pa_cons pe_int pa_nil))) pe_int (nomark _)) (pss_one (ps_set (i := 4) sc.nd rfl (by first | exact .inl rfl | exact .inr rfl) (pe_c c_law_two_lots hr (by decide) (by rfl) (pa_cons (pv 1) (pa_cons (pv 3) pa_nil))))) pss_nil)))
      (pss_cons (ps_set (i := 5) sc.nd rfl (by first | exact .inl rfl | exact .inr rfl) (show PE _ _ (tMake _ _ _ _ _) from pe_mk k_Seats hr (by decide) (by rfl) (pa_cons (pv 2) (pa_cons (pv 4) pa_nil))))
      (pss_cons (ps_set (i := 6) sc.nd rfl (by first | exact .inl rfl | exact .inr rfl) (pe_c c_law_of_list hr (by decide) (by rfl) (pa_cons (pv 4) (pa_cons (pv 3) pa_nil))))
      (pss_cons (ps_set (i := 7) sc.nd rfl (by first | exact .inl rfl | exact .inr rfl) (show PE _ _ (tMake _ _ _ _ _) from pe_mk k_Rule hr (by decide) (by rfl) (pa_cons (pv 2) (pa_cons (pv 6) pa_nil))))
      (pss_cons (ps_set (i := 8) sc.nd rfl (by first | exact .inl rfl | exact .inr rfl) (pe_c c_list_of hr (by decide) (by rfl) (pa_cons (pv 7) pa_nil)))
      (pss_cons (ps_if (pt_cmpR op_gt (pe_callB (show CallR _ _ (rLen K) from call_len_seq) (by rfl) M.len_ PySem.boot_len (pa_cons (pv 4) pa_nil)) pe_int (nomark _)) (pss_one (ps_ret (pe_and (pe_cmpR op_isN (pv 8) pe_non (nomark _)) (pe_and (pe_cmpR op_isBl (pe_c c_never_back hr (by decide) (by rfl) (pa_cons (pv 7) pa_nil)) pe_bl (nomark _)) (pe_one (pe_c c_law_too_many hr (by decide) (by rfl) (pa_cons (pv 7) (pa_cons (pv 5) pa_nil)))))))) pss_nil)
      (pss_cons (ps_if (PW.pt (pw_or (pt_cmpR (show OpR _ _ (rNeM CS (spD (V0 w) (aSeq mk ev m CS))) from (op_neM m_eq ne1 ne2 hr (by decide))) (pv 8) (pe_c c_form hr (by decide) (by rfl) (pa_cons (pv 5) pa_nil)) (nomark _)) (pw_or (pt_cmpR (show OpR _ _ (rNeM CS (spD (V0 w) (aSeq mk ev m CS))) from (op_neM m_eq ne1 ne2 hr (by decide))) (pe_c c_list_of hr (by decide) (by rfl) (pa_cons (pe_c c_rule_of hr (by decide) (by rfl) (pa_cons (pv 5) pa_nil)) pa_nil)) (pv 8) (nomark _)) (pw_or1 (pt_cmpR op_notBl (pe_c c_never_back hr (by decide) (by rfl) (pa_cons (pv 7) pa_nil)) pe_bl (nomark _)))))) (pss_one (ps_ret pe_bl)) pss_nil)
      (pss_cons (ps_set (i := 9) sc.nd rfl (by first | exact .inl rfl | exact .inr rfl) (pe_ix (show IxR _ (rIxL K) from ix_list) (pe_lst (pa_cons (pe_c c_law_moves hr (by decide) (by rfl) (pa_cons (pv 1) (pa_cons (pv 3) (pa_cons pe_int pa_nil)))) (pa_cons (pe_c c_law_changed hr (by decide) (by rfl) (pa_cons (pv 1) (pa_cons (pv 6) pa_nil))) pa_nil))) (pe_c c_law_pick hr (by decide) (by rfl) (pa_cons (pv 1) (pa_cons pe_int pa_nil))) (fun _ _ => rfl)))
      (pss_cons (ps_set (i := 10) sc.nd rfl (by first | exact .inl rfl | exact .inr rfl) (show PE _ _ (tMake _ _ _ _ _) from pe_mk k_Rule hr (by decide) (by rfl) (pa_cons (pv 2) (pa_cons (pv 9) pa_nil))))
      (pss_cons (ps_set (i := 11) sc.nd rfl (by first | exact .inl rfl | exact .inr rfl) (pe_c c_law_part hr (by decide) (by rfl) (pa_cons (pv 9) (pa_cons (pv 6) (pa_cons (pe_callB (show CallR _ _ (rLen K) from call_len_seq) (by rfl) M.len_ PySem.boot_len (pa_cons (pv 3) pa_nil)) pa_nil)))))
      (pss_cons (ps_set (i := 12) sc.nd rfl (by first | exact .inl rfl | exact .inr rfl) pe_non)
      (pss_cons (ps_if (pt_cmpR op_notN (pv 11) pe_non (nomark _)) (pss_one (ps_set (i := 12) sc.nd rfl (by first | exact .inl rfl | exact .inr rfl) (show PE _ _ (tThen _ (kTup K)) from pe_tupleOf (by rfl) M.tuple_ (pe_lc rfl sc.nd (show PI _ _ _ (iTup K _) from pi_tup (pv 11)) (blk_of (N := ["_law_script", "_law_tape_here", "_law_marks_here", "_law_every", "_law_lots_here", "_law_seats", "_law_moves_here", "_law_rule", "_law_told", "_law_drawn", "_law_other", "_law_part_here", "_law_due", "_law_found", "_law_number"]) (sc := defScope s_law) (own := [("_law_number", 14)]) (by decide +kernel)) (fun _ _ _ _ _ => (pg_name (i := 14) sc.nd rfl (by first | exact .inl rfl | exact .inr rfl))) (fun _ _ _ _ _ => pts_nil) (fun _ _ _ _ _ => (pe_ix (show IxR _ (rIxL K) from ix_list) (pv 3) (pv 14) (fun _ _ => rfl))))))) pss_nil)
      (pss_cons (ps_if (PW.pt (pw_or (pt_cmpR (show OpR _ _ (rNeD K) from (op_neD hr.units)) (pe_c c_part_from hr (by decide) (by rfl) (pa_cons (pv 10) (pa_cons (pv 5) pa_nil))) (pv 12) (nomark _)) (pw_or1 (pt_not (pt_val (pe_c c_law_flag hr (by decide) (by rfl) (pa_cons (pe_c c_never_back hr (by decide) (by rfl) (pa_cons (pv 10) pa_nil)) (pa_cons (pe_c c_law_never_back hr (by decide) (by rfl) (pa_cons (pv 9) pa_nil)) pa_nil)))))))) (pss_one (ps_ret pe_bl)) pss_nil)
      (pss_cons (ps_set (i := 13) sc.nd rfl (by first | exact .inl rfl | exact .inr rfl) (pe_c c_list_of hr (by decide) (by rfl) (pa_cons (pv 10) pa_nil)))
      (pss_cons (ps_if (pt_cmpR op_notN (pv 13) pe_non (nomark _)) (pss_cons (ps_if (PW.pt (pw_or (pt_cmpR (show OpR _ _ (rNeM CS (spD (V0 w) (aSeq mk ev m CS))) from (op_neM m_eq ne1 ne2 hr (by decide))) (pv 13) (pe_c c_form hr (by decide) (by rfl) (pa_cons (pv 13) pa_nil)) (nomark _)) (pw_or1 (pt_cmpR op_notN (pe_c c_law_part hr (by decide) (by rfl) (pa_cons (pv 9) (pa_cons (pe_c c_law_of_list hr (by decide) (by rfl) (pa_cons (show PE _ _ (tFld K _ _) from pe_fld (pv 13) rfl) (pa_cons (pv 3) pa_nil))) (pa_cons (pe_callB (show CallR _ _ (rLen K) from call_len_seq) (by rfl) M.len_ PySem.boot_len (pa_cons (pv 3) pa_nil)) pa_nil)))) pe_non (nomark _))))) (pss_one (ps_ret pe_bl)) pss_nil)
      (pss_one (ps_ret (pe_and (pe_cmpR op_le (pe_callB (show CallR _ _ (rLen K) from call_len_seq) (by rfl) M.len_ PySem.boot_len (pa_cons (show PE _ _ (tFld K _ _) from pe_fld (pv 13) rfl) pa_nil)) pe_int (nomark _)) (pe_one (pe_cmpR op_isBl (pe_c c_never_back hr (by decide) (by rfl) (pa_cons (pv 10) pa_nil)) pe_bl (nomark _))))))) pss_nil)
      (pss_cons (ps_if (PW.pt (pw_or (pt_cmpR op_gt (pe_callB (show CallR _ _ (rLen K) from call_len_seq) (by rfl) M.len_ PySem.boot_len (pa_cons (pv 3) pa_nil)) pe_int (nomark _)) (pw_or1 (pt_cmpR op_isBl (pe_c c_law_never_back hr (by decide) (by rfl) (pa_cons (pv 9) pa_nil)) pe_bl (nomark _))))) (pss_one (ps_ret pe_bl)) pss_nil)
      pss_any)))))))))))))))))), ?_⟩
  -- the kinds
  refine d_seq (d_asgN (e_callN (ss := [.dat (.str mk)]) (ea_cons (e_var rfl) ea_nil) ⟨rfl, rfl⟩) ?_)
  refine d_weak (E' := [none, some (.dat (.adr tp)), some (.dat (.str mk)), some (.rl (ev.map .str)), none, none, none, none, none, none, none, none, none, none, none]) ?_ (by walk_at "fg")
  -- the list
  refine d_seq (d_asgP (P := fun s => ∃ L, ValidL m L ∧ L.length ≤ 4 ∧ s = .dat (eLots ev L)) (e_callU (B := (· = [.dat (.adr tp), .rl (ev.map .str), .dat (.int 4)])) (ea_cons (e_var rfl) (ea_cons (e_rl rfl) (ea_cons e_int ea_nil))) fun ss e => ⟨e, fun L h1 h2 => ⟨L, h1, h2, rfl⟩⟩) (fun s ⟨L, _, _, e⟩ => own_dat s e) ?_)
  rintro _ ⟨L0, hv0, hl0, rfl⟩
  refine d_cut (fun L : Lots => [none, some (.dat (.adr tp)), some (.dat (.str mk)), some (.rl (ev.map .str)), some (.dat (eLots ev L)), none, none, none, none, none, none, none, none, none, none]) (Good m) (d_if (P := fun _ => True) (b_testP (e_pickEq (n := 8) rfl e_int (by decide) (by decide) e_int)) (fun _ => ?_) fun _ => d_if (P := fun _ => True) (b_testP (e_pickEq (n := 5) rfl e_int (by decide) (by decide) e_int)) (fun _ => ?_) fun _ => d_next ⟨L0, .few4 hv0 hl0, by walk_at "fg"⟩) ?_
  · refine d_asgP (P := fun s => ∃ a n, ValidLot m a ∧ n ≤ 14 ∧ s = .dat (eLots ev (List.replicate n a))) (e_op (A := fun s => ∃ a, ValidLot m a ∧ s = .dat (.tup [eLot ev a])) (B := fun s => ∃ n : Nat, 11 ≤ n ∧ n ≤ 14 ∧ s = .dat (.int (n : Int)))
      (e_tupP (ea_consP (A := fun s => ∃ a, ValidLot m a ∧ s = .dat (eLot ev a)) (e_callU (B := (· = [.dat (.adr tp), .rl (ev.map .str)])) (ea_cons (e_var rfl) (ea_cons (e_rl rfl) ea_nil)) fun ss e => ⟨e, fun a ha => ⟨a, ha, rfl⟩⟩) ea_nil) ?_)
      (e_op (A := (· = .dat (.int 11))) e_int (e_pick (n := 4) rfl e_int (by decide) (by decide)) fun s t e1 ⟨r, hr, e2⟩ => by rw [e1, e2]; exact rp_add.imp fun s e => ⟨11 + r, by omega, by omega, by rw [e]; rfl⟩) ?_) (fun s ⟨_, _, _, _, e⟩ => own_dat s e) ?_
    · rintro ss ⟨s, r, rfl, ⟨a, ha, rfl⟩, rfl⟩
      exact ⟨[eLot ev a], rfl, Nat.le_of_ble_eq_true rfl, a, ha, rfl⟩
    · rintro s t ⟨a, ha, rfl⟩ ⟨n, h1, h2, rfl⟩
      exact (rp_repT (n := n) rfl (by omega) (by omega)).imp fun s e => ⟨a, n, ha, h2, by rw [e]; unfold eLots; rw [List.map_replicate]⟩
    · rintro _ ⟨a, n, ha, hn, rfl⟩
      exact ⟨List.replicate n a, .rep ha hn, by walk_at "fg"⟩
  · refine d_asgP (P := fun s => ∃ L, Good m L ∧ s = .dat (eLots ev L)) (e_callU (B := (· = [.dat (.adr tp), .rl (ev.map .str)])) (ea_cons (e_var rfl) (ea_cons (e_rl rfl) ea_nil)) fun ss e => ⟨e, fun L h1 h2 h3 => ⟨L, .two h1 h2 h3, rfl⟩⟩) (fun s ⟨_, _, e⟩ => own_dat s e) ?_
    rintro _ ⟨L, hL, rfl⟩
    exact ⟨L, hL, by walk_at "fg"⟩
  intro L hL
  have hl14 := hL.l
  -- seats, moves, rule
  refine d_seq (d_asg (d := seatsD CS ev mk L) (e_mk (U := VL w (TQ Pt) tp sp) (ss := [.dat (.str mk), .dat (eLots ev L)]) (ea_cons (e_var rfl) (ea_cons (e_var rfl) ea_nil)) (val40 h hL.v (by omega))) ?_)
  refine d_seq (d_asgP (P := fun s => ∃ N : Moves, RuleOk N m ∧ N.length ≤ 60 ∧ Sim N m 0 L ∧ s = .dat (eMoves N)) (e_call (ss := [.dat (eLots ev L), .rl (ev.map .str)]) (ea_cons (e_var rfl) (ea_cons (e_rl rfl) ea_nil)) ⟨L, hL.v, by omega, rfl, fun N h1 h2 _ => ⟨N, (h1 (h2 hL.few)).1, h2 hL.few, (h1 (h2 hL.few)).2.1, rfl⟩⟩ (fun s ⟨N, _, _, _, e⟩ => own_dat s e)) (fun s ⟨N, _, _, _, e⟩ => own_dat s e) ?_)
  rintro _ ⟨N, hN, hNl, hNs, rfl⟩
  have mkR : ∀ {E : DEnv} {i : Nat} {R : Moves}, E[2]? = some (some (.dat (.str mk))) → E[i]? = some (some (.dat (eMoves R))) → RuleOk R m → R.length ≤ 60 → EvD (VL w (TQ Pt) tp sp) (tMake CR (spInit w CR (aRule mk m)) [] C8.E0 (tCons (tVar 2) (tCons (tVar i) tNil))) E (ruleD CR mk R) := fun {E i R} h2 hi hR hRl => e_mk (U := VL w (TQ Pt) tp sp) (ss := [.dat (.str mk), .dat (eMoves R)]) (ea_cons (e_var h2) (ea_cons (e_var hi) ea_nil)) ⟨R, hR, hRl, rfl, rfl⟩
  refine d_seq (d_asg (d := ruleD CR mk N) (mkR rfl rfl hN hNl) ?_)
  have lst : ∀ {E : DEnv} {i : Nat} {R : Moves}, E[i]? = some (some (.dat (ruleD CR mk R))) → RuleOk R m → R.length ≤ 60 → EvP (VL w (TQ Pt) tp sp) (tCall (spD (VT w (TQ Pt)) (aListOf mk ev m CR CS)) [] C8.E0 (tCons (tVar i) tNil)) E (fun s => ∃ o, LR R m o ∧ s = .dat (oSeats CS ev mk o)) := fun {E i R} h0 hR hl => e_callS subT (ss := [.dat (ruleD CR mk R)]) (ea_cons (e_var h0) ea_nil) ⟨R, hR, hl, rfl, fun o ho => ⟨o, ho, rfl⟩⟩ (fun s ⟨o, _, e⟩ => own_dat s e)
  have nev : ∀ {E : DEnv} {i : Nat} {R : Moves} {b : Bool}, E[i]? = some (some (.dat (ruleD CR mk R))) → RuleOk R m → R.length ≤ 60 → (b = true ↔ NB R m) → EvD (VL w (TQ Pt) tp sp) (tCall (spD (V0 w) (aNever mk m CR)) [] C8.E0 (tCons (tVar i) tNil)) E (.bl b) := fun {E i R b} h0 hR hl hb => e_callD (ss := [.dat (ruleD CR mk R)]) (ea_cons (e_var h0) ea_nil) ⟨R, hR, hl, rfl, fun b' hb' => by rw [b_same hb' hb]⟩
  have frm : ∀ {E : DEnv} {i : Nat} {C C' : Lots}, E[i]? = some (some (.dat (seatsD CS ev mk C))) → ValidL m C → C.length ≤ 40 → leastOf C = C' → EvD (VL w (TQ Pt) tp sp) (tCall (spD (V0 w) (aForm mk ev m CS)) [] C8.E0 (tCons (tVar i) tNil)) E (seatsD CS ev mk C') := fun {E i C C'} h0 hv hl e => by
    subst e
    exact e_callD (ss := [.dat (seatsD CS ev mk C)]) (ea_cons (e_var h0) ea_nil) ⟨C, hv, hl, rfl, rfl⟩
  have nbN : (true = true) ↔ NB N m := ⟨fun _ => nb_sim hNs, fun _ => rfl⟩
  refine d_seq (d_asgP (lst rfl hN hNl) (fun s ⟨o, _, e⟩ => own_dat s e) ?_)
  rintro _ ⟨o, ho, rfl⟩
  by_cases hL12 : 12 < L.length
  · obtain rfl := lr_long ho hNs hL.v hL12
    refine d_seq (d_ifD (b := true) ((b_test (e_opD (e_cb1 (e_var rfl) (rc_lenTn (n := L.length) (List.length_map _))) e_int rp_gt)).imp fun b e => by rw [e]; exact decide_eq_true (by omega)) (fun _ => ?_) fun z => by cases z)
    exact d_ret (d := .bl (true && (true && true))) (e_andV (a := true) (b := true && true) (e_opD (e_var (d := .non) rfl) e_non rp_isNn) fun _ => e_andV (a := true) (b := true) (e_opD (nev rfl hN hNl nbN) e_bl rp_isB) fun _ => e_callD (ss := [.dat (ruleD CR mk N), .dat (seatsD CS ev mk L)]) (ea_cons (e_var rfl) (ea_cons (e_var rfl) ea_nil)) ⟨N, L, hL12, by omega, rfl, rfl⟩) rfl
  have hl12 : L.length ≤ 12 := by omega
  obtain rfl := lr_list ho hNs hL.v hl12
  have hlv := hL.v.least
  refine d_seq (d_ifD (b := false) ((b_test (e_opD (e_cb1 (e_var rfl) (rc_lenTn (n := L.length) (List.length_map _))) e_int rp_gt)).imp fun b e => by rw [e]; exact decide_eq_false (by omega)) (fun z => by cases z) fun _ => d_next ?_)
  -- the form, the rule of the list, never back
  refine d_seq (d_ifD (b := false || (false || !decide (true = true))) (b_orD (a := false) (b_test (e_opD (e_var (d := seatsD CS ev mk (leastOf L)) rfl) (frm rfl hL.v (by omega) rfl) (rp_neSeats hlv))) fun _ => b_orD (a := false) (b_test (e_opD (a := .dat (seatsD CS ev mk (leastOf L))) ?_ (e_var (d := seatsD CS ev mk (leastOf L)) rfl) (rp_neSeats hlv))) fun _ => b_test (e_opD (nev rfl hN hNl nbN) e_bl rp_isnB)) (fun z => by cases z) fun _ => d_next ?_)
  · obtain ⟨tt, t1, t2⟩ := reachL_small hL.v hl12 hN hNs
    refine e_callSP subT (B := fun ss => ∃ R : Moves, RuleOk R m ∧ R.length ≤ 60 ∧ Sim R m 0 L ∧ ss = [.dat (ruleD CR mk R)]) ((ea_consP (A := fun s => ∃ R : Moves, RuleOk R m ∧ R.length ≤ 60 ∧ Sim R m 0 L ∧ s = .dat (ruleD CR mk R)) (e_call (ss := [.dat (seatsD CS ev mk L)]) (ea_cons (e_var rfl) ea_nil) ⟨L, hL.v, by omega, ⟨tt, Nat.le_trans t1 hNl, t2⟩, rfl, fun R h1 h2 h3 => ⟨R, h1, h2, h3, rfl⟩⟩ (fun s ⟨R, _, _, _, e⟩ => own_dat s e)) ea_nil).imp ?_) (fun ss ⟨R, h1, h2, h3, e⟩ => ⟨R, h1, h2, e, fun o' ho' => by rw [lr_list ho' h3 hL.v hl12]; rfl⟩) own_dat
    rintro ss ⟨s, r, rfl, ⟨R, h1, h2, h3, rfl⟩, rfl⟩
    exact ⟨R, h1, h2, h3, rfl⟩
  -- another rule
  refine d_seq (d_asgP (P := fun s => ∃ R : Moves, RuleOk R m ∧ R.length ≤ 60 ∧ s = .dat (eMoves R)) (e_op (A := fun s => ∃ R1 R2 : Moves, (RuleOk R1 m ∧ R1.length ≤ 60) ∧ (RuleOk R2 m ∧ R2.length ≤ 60) ∧ s = .rl [eMoves R1, eMoves R2]) (B := fun s => ∃ r : Nat, r < 2 ∧ s = .dat (.int (r : Int)))
    ((EvP.rlP (P := fun ds => ∃ R1 R2 : Moves, (RuleOk R1 m ∧ R1.length ≤ 60) ∧ (RuleOk R2 m ∧ R2.length ≤ 60) ∧ ds = [eMoves R1, eMoves R2]) (e_lstP (ea_consP (A := fun s => ∃ R : Moves, (RuleOk R m ∧ R.length ≤ 60) ∧ s = .dat (eMoves R)) (e_callU (B := (· = [.dat (.adr tp), .rl (ev.map .str), .dat (.int 6)])) (ea_cons (e_var rfl) (ea_cons (e_rl rfl) (ea_cons e_int ea_nil))) fun ss e => ⟨e, fun R h1 h2 => ⟨R, ⟨h1, by omega⟩, rfl⟩⟩)
      (ea_consP (A := fun s => ∃ R : Moves, (RuleOk R m ∧ R.length ≤ 60) ∧ s = .dat (eMoves R)) (e_callU (B := (· = [.dat (.adr tp), .dat (eMoves N)])) (ea_cons (e_var rfl) (ea_cons (e_var rfl) ea_nil)) fun ss e => ⟨N, hN, hNl, e, fun R h1 h2 => ⟨R, ⟨h1, by omega⟩, rfl⟩⟩) ea_nil)) ?_)).imp ?_) (e_pick (n := 2) rfl e_int (by decide) (by decide)) ?_) (fun s ⟨R, _, _, e⟩ => own_dat s e) ?_)
  · rintro ss ⟨s, q, rfl, ⟨R1, k1, rfl⟩, s2, q2, rfl, ⟨R2, k2, rfl⟩, rfl⟩
    exact ⟨[eMoves R1, eMoves R2], rfl, Nat.le_of_ble_eq_true rfl, _, rfl, R1, R2, k1, k2, rfl⟩
  · rintro s ⟨ds, rfl, R1, R2, k1, k2, rfl⟩
    exact ⟨R1, R2, k1, k2, rfl⟩
  · rintro s t ⟨R1, R2, k1, k2, rfl⟩ ⟨r, hr, rfl⟩
    match r, hr with
    | 0, _ => exact (rp_ixL (j := 0) (d := eMoves R1) rfl).imp fun s e => ⟨R1, k1.1, k1.2, e⟩
    | 1, _ => exact (rp_ixL (j := 1) (d := eMoves R2) rfl).imp fun s e => ⟨R2, k2.1, k2.2, e⟩
  rintro _ ⟨R, hR, hRl, rfl⟩
  refine d_seq (d_asg (d := ruleD CR mk R) (mkR rfl rfl hR hRl) ?_)
  -- the law's part
  have lenE : ∀ {E : DEnv}, E[3]? = some (some (.rl (ev.map .str))) → EvD (VL w (TQ Pt) tp sp) (tCB (rLen K) (tCons (tVar 3) tNil)) E (.int (m : Int)) := fun {E} h3 => e_cb1 (e_rl h3) (rc_lenLn (n := m) (by rw [List.length_map, h.ok.evk.len]))
  refine d_seq (d_asgP (P := fun s => ∃ r, (partR R N).first m r ∧ (∀ n, r = some n → (rowOf m n).length ≤ 20000) ∧ s = .dat (oRowI m r)) (e_call (ss := [.dat (eMoves R), .dat (eMoves N), .dat (.int (m : Int))]) (ea_cons (e_var rfl) (ea_cons (e_var rfl) (ea_cons (lenE rfl) ea_nil))) ⟨R, N, hR, hN, hRl, hNl, rfl, fun r hr hl => ⟨r, hr, hl, rfl⟩⟩ (fun s ⟨r, _, _, e⟩ => own_dat s e)) (fun s ⟨r, _, _, e⟩ => own_dat s e) ?_)
  rintro _ ⟨r, hr0, hrl, rfl⟩
  refine d_seq (d_asg e_non ?_)
  have rlt : ∀ n, ∀ k ∈ rowOf m n, k < m := row_lt hm
  refine d_cut (α := Unit) (fun _ => [none, some (.dat (.adr tp)), some (.dat (.str mk)), some (.rl (ev.map .str)), some (.dat (eLots ev L)), some (.dat (seatsD CS ev mk L)), some (.dat (eMoves N)), some (.dat (ruleD CR mk N)), some (.dat (seatsD CS ev mk (leastOf L))), some (.dat (eMoves R)), some (.dat (ruleD CR mk R)), none, some (.dat (oRow ev m r)), none, none]) (fun _ => True) ?_ fun _ _ => ?_
  · cases r with
    | none => exact d_ifD (b := false) (b_test (e_opD (e_var (d := .non) rfl) e_non rp_notNn)) (fun z => by cases z) fun _ => d_next ⟨(), trivial, by walk_at "fg"⟩
    | some n =>
      have hlen := hrl n rfl
      have l1 : ((rowOf m n).map fun (k : Nat) => Dt.int (k : Int)).length = (rowOf m n).length := List.length_map _
      refine d_ifD (b := true) (b_test (e_opD (e_var (d := iLot (rowOf m n)) rfl) e_non (rp_notN (fun z => by cases z)))) (fun _ => d_asg (d := rowD ev (rowOf m n)) (e_tupleN (e_lcX (es := (rowOf m n).map fun k => .str (kd ev k)) (i_tupD (e_var (d := iLot (rowOf m n)) rfl)) (by rw [l1]; omega) (by rw [l1, List.length_map]) fun i d e hd he => ?_)) ⟨(), trivial, by walk_at "fg"⟩) fun z => by cases z
      rw [List.getElem?_map] at hd he
      cases q : (rowOf m n)[i]? with
      | none => rw [q] at hd; cases hd
      | some k =>
        rw [q] at hd he
        cases hd
        cases he
        have hk := rlt n k (List.mem_of_getElem? q)
        exact ⟨_, _, gd_name, by decide, e_opD (e_rl rfl) (e_var rfl) (rp_ixL (ev_get h.ok.evk hk))⟩
  -- part_from, never back
  obtain ⟨bR, hbR⟩ : ∃ b : Bool, (b = true ↔ NB R m) := by
    by_cases q : NB R m
    · exact ⟨true, fun _ => q, fun _ => rfl⟩
    · exact ⟨false, (fun z => by cases z), fun z => absurd z q⟩
  have lnv : ∀ {E : DEnv}, E[9]? = some (some (.dat (eMoves R))) → EvD (VL w (TQ Pt) tp sp) (tCall (spD (V0 w) (aLNever m)) [] C8.E0 (tCons (tVar 9) tNil)) E (.bl bR) := fun {E} h9 => e_callD (ss := [.dat (eMoves R)]) (ea_cons (e_var h9) ea_nil) ⟨R, hR, hRl, rfl, fun b' hb' => by rw [b_same hb' hbR]⟩
  have clr : cl 9 (oRow ev m r) = true := by
    cases r with
    | none => rfl
    | some n =>
      show ((rowOf m n).map fun k => Dt.str (kd ev k)).all (cl 8) = true
      rw [List.all_map]
      exact List.all_eq_true.mpr fun k hk => h.ok.ok k (rlt n k hk)
  refine d_seq (d_ifD (b := false) ((b_orD (a := !true) (b := !decide (bR = bR)) (b_test (e_opD (a := .dat (oRow ev m r)) (b := .dat (oRow ev m r)) (e_callSD subT (ss := [.dat (ruleD CR mk R), .dat (seatsD CS ev mk L)]) (ea_cons (e_var rfl) (ea_cons (e_var rfl) ea_nil)) ⟨R, L, hR, hRl, hL.v, hl12, rfl, fun r' hr' => by rw [first_one (first_two (part_same hm hL.v.full hNs) hr') hr0]⟩) (e_var rfl) (rp_neD clr clr (by simp)))) fun _ =>
    b_not (b_val (e_callD (ss := [.dat (.bl bR), .dat (.bl bR)]) (ea_cons (nev rfl hR hRl hbR) (ea_cons (lnv rfl) ea_nil)) ⟨bR, bR, rfl, rfl⟩))).imp fun b e => by rw [e]; simp) (fun z => by cases z) fun _ => d_next ?_)
  -- the list found
  refine d_seq (d_asgP (lst rfl hR hRl) (fun s ⟨o, _, e⟩ => own_dat s e) ?_)
  rintro _ ⟨o2, ho2, rfl⟩
  cases o2 with
  | some C =>
    obtain ⟨_, _, hCs, hCv, hCl, hCi⟩ := lr_some ho2
    obtain ⟨tt, t1, t2⟩ := reachT_small hCv hCl hR hCs
    have nbR : (true = true) ↔ NB R m := ⟨fun _ => nb_sim hCs, fun _ => rfl⟩
    refine d_seq (d_ifD (b := true) (b_test (e_opD (e_var (d := seatsD CS ev mk C) rfl) e_non (rp_notN (fun z => by cases z)))) (fun _ => ?_) fun z => by cases z)
    refine d_seq (d_ifD (b := false || false) (b_orD (a := false) (b_test (e_opD (e_var (d := seatsD CS ev mk C) rfl) (frm rfl hCv (by omega) hCi) (rp_neSeats hCv))) fun _ => b_test (e_opD (a := .dat .non) ?_ e_non rp_notNn)) (fun z => by cases z) fun _ => d_next ?_)
    · refine e_callP (B := fun ss => ∃ N' : Moves, RuleOk N' m ∧ N'.length ≤ 60 ∧ Sim N' m 0 C ∧ ss = [.dat (eMoves R), .dat (eMoves N'), .dat (.int (m : Int))]) ((ea_consP (e_var (d := eMoves R) rfl) (ea_consP (A := fun s => ∃ N' : Moves, RuleOk N' m ∧ N'.length ≤ 60 ∧ Sim N' m 0 C ∧ s = .dat (eMoves N')) (e_call (ss := [.dat (eLots ev C), .rl (ev.map .str)]) (ea_cons (e_fld (e_var (d := seatsD CS ev mk C) rfl) kc.s kc.sl rfl) (ea_cons (e_rl rfl) ea_nil)) ⟨C, hCv, by omega, rfl, fun N' h1 h2 _ => ⟨N', (h1 (h2 ⟨tt, Nat.le_trans t1 hRl, t2⟩)).1, h2 ⟨tt, Nat.le_trans t1 hRl, t2⟩, (h1 (h2 ⟨tt, Nat.le_trans t1 hRl, t2⟩)).2.1, rfl⟩⟩ (fun s ⟨N', _, _, _, e⟩ => own_dat s e)) (ea_consP (lenE rfl) ea_nil))).imp ?_)
        (fun ss ⟨N', hN', hNl', hNs', e⟩ => ⟨R, N', hR, hN', hRl, hNl', e, fun r' hr' _ => ?_⟩) own_dat
      · rintro ss ⟨s, q, rfl, rfl, s2, q2, rfl, ⟨N', k1, k2, k3, rfl⟩, s3, q3, rfl, rfl, rfl⟩
        exact ⟨N', k1, k2, k3, rfl⟩
      · cases r' with
        | none => rfl
        | some n =>
          have q := (none_sim (L := C) hm hCv.full).mpr hCs n
          rw [part_same hm hCv.full hNs', hr'.1] at q
          cases q
    · exact d_ret (d := .bl (decide ((C.length : Int) ≤ 12) && true)) (e_andV (a := decide ((C.length : Int) ≤ 12)) (b := true) (e_opD (e_cb1 (e_fld (e_var (d := seatsD CS ev mk C) rfl) kc.s kc.sl rfl) (rc_lenTn (n := C.length) (List.length_map _))) e_int rp_le) fun _ => e_opD (nev rfl hR hRl nbR) e_bl rp_isB) (by rw [decide_eq_true (by omega)]; rfl)
  | none =>
    refine d_seq (d_ifD (b := false) (b_test (e_opD (e_var (d := .non) rfl) e_non rp_notNn)) (fun z => by cases z) fun _ => d_next ?_)
    refine d_seq (d_ifD (b := decide ((2 : Int) < (m : Int)) || decide (bR = false)) (b_orD (b_test (e_opD (lenE rfl) e_int rp_gt)) fun _ => b_test (e_opD (lnv rfl) e_bl rp_isB)) (fun _ => d_ret e_bl rfl) fun hb => d_next ?_)
    have hm2 : m ≤ 2 := by
      rw [Bool.or_eq_false_iff] at hb
      have z := of_decide_eq_false hb.1
      omega
    refine d_any ⟨_, pss_one (ps_ret (pe_not (pe_c (Cs.some_ hm2) hr (by decide) (by rfl) (pa_cons (pv 9) (pa_cons (pv 3) (pa_cons pe_int pa_nil)))))), ?_⟩
    exact d_ret (d := .bl (!false)) (e_notV (e_callD (ss := [.dat (eMoves R), .rl (ev.map .str), .dat (.int 4)]) (ea_cons (e_var rfl) (ea_cons (e_rl rfl) (ea_cons e_int ea_nil))) ⟨R, hR, hRl, fun C hv hl => lr_none ho2 hv (by omega), rfl, rfl⟩)) rfl
end
end K13
end
section
set_option Elab.async false
set_option linter.all false
set_option maxRecDepth 100000
set_option maxHeartbeats 8000000
set_option autoImplicit false
local macro_rules | `(tactic| walk_at "fg") => `(tactic| (repeat' (first | exact True.intro | exact rfl | constructor)))
namespace K13
open PySem PySem.Spec PyProof.Rows L2 C8 NdefX LamX
/-! ### the three sets of marks -/
theorem mkLaw0 : MkLaw "" [""] 1 where
  ok := ⟨⟨rfl, by decide +kernel, by decide⟩, fun i j hi hj => (by decide +kernel : ∀ i : Fin 1, ∀ j : Fin 1, ltS (kd [""] i.val) (kd [""] j.val) = decide (i.val < j.val)) ⟨i, hi⟩ ⟨j, hj⟩, fun k hk => (by decide +kernel : ∀ k : Fin 1, PyData.strOk (kd [""] k.val) = true) ⟨k, hk⟩⟩
  kinds := ⟨by decide +kernel, by decide +kernel, by decide +kernel⟩
  marks := by decide +kernel
  each := fun k hk => (by decide +kernel : ∀ k : Fin 1, kndB "" (kd [""] k.val) = true) ⟨k, hk⟩
theorem mkLaw1 : MkLaw "a" ["", "a"] 2 where
  ok := ⟨⟨rfl, by decide +kernel, by decide⟩, fun i j hi hj => (by decide +kernel : ∀ i : Fin 2, ∀ j : Fin 2, ltS (kd ["", "a"] i.val) (kd ["", "a"] j.val) = decide (i.val < j.val)) ⟨i, hi⟩ ⟨j, hj⟩, fun k hk => (by decide +kernel : ∀ k : Fin 2, PyData.strOk (kd ["", "a"] k.val) = true) ⟨k, hk⟩⟩
  kinds := ⟨by decide +kernel, by decide +kernel, by decide +kernel⟩
  marks := by decide +kernel
  each := fun k hk => (by decide +kernel : ∀ k : Fin 2, kndB "a" (kd ["", "a"] k.val) = true) ⟨k, hk⟩
theorem mkLaw2 : MkLaw "ab" ["", "a", "ab", "b"] 4 where
  ok := ⟨⟨rfl, by decide +kernel, by decide⟩, fun i j hi hj => (by decide +kernel : ∀ i : Fin 4, ∀ j : Fin 4, ltS (kd ["", "a", "ab", "b"] i.val) (kd ["", "a", "ab", "b"] j.val) = decide (i.val < j.val)) ⟨i, hi⟩ ⟨j, hj⟩, fun k hk => (by decide +kernel : ∀ k : Fin 4, PyData.strOk (kd ["", "a", "ab", "b"] k.val) = true) ⟨k, hk⟩⟩
  kinds := ⟨by decide +kernel, by decide +kernel, by decide +kernel⟩
  marks := by decide +kernel
  each := fun k hk => (by decide +kernel : ∀ k : Fin 4, kndB "ab" (kd ["", "a", "ab", "b"] k.val) = true) ⟨k, hk⟩
/-- what the law's marks are -/
def MkAny (mk : Str) (ev : List Str) (m : Nat) : Prop := MkLaw mk ev m ∧ 0 < m ∧ m ≤ 4 ∧ ("xyz" : Str) ≠ mk
theorem mkAny0 : MkAny "" [""] 1 := ⟨mkLaw0, by decide, by decide, by decide +kernel⟩
theorem mkAny1 : MkAny "a" ["", "a"] 2 := ⟨mkLaw1, by decide, by decide, by decide +kernel⟩
theorem mkAny2 : MkAny "ab" ["", "a", "ab", "b"] 4 := ⟨mkLaw2, by decide, by decide, by decide +kernel⟩
/-! ### all defs -/
structure Dfs (K : PySem.W.Frag) (mg : Str → Option Value) (base : Heap) (CR CS CT CO c Pt f0 : Addr) : Prop where
  M : Mf mg
  kc : Kc K CR CS
  ik : InK K CS
  x : ExK K mg CT CO
  TB : TabB base mg c Pt
  mS : ∃ u, mg "Seats" = some u ∧ RelV (.ref CS) u
  ne1 : neB K CS f0 = true
  ne2 : PySem.W.findIn K (.ref CS) "__eq__" = some (some (.ref f0))
  i_seats : DnI K mg "Seats" "Seats.__init__" s_Seats_init CS
  i_rule : DnI K mg "Rule" "Rule.__init__" s_Rule_init CR
  e_seats : DnM K "__eq__" "Seats.__eq__" s_Seats_eq CS
  d_first_seat : Dn K mg "first_seat" sFirstSeat
  c_part_of_lots : DnC K mg "part_of_lots" s_part_of_lots c
  d_is_integer : Dn K mg "is_integer" s_is_integer
  d_is_within : Dn K mg "is_within" s_is_within
  d_is_pair : Dn K mg "is_pair" s_is_pair
  d_is_ascending : Dn K mg "is_ascending" s_is_ascending
  d_is_marks : Dn K mg "is_marks" s_is_marks
  d_is_kind : Dn K mg "is_kind" s_is_kind
  d_is_lot : Dn K mg "is_lot" s_is_lot
  d_check_same_marks : Dn K mg "check_same_marks" s_check_same_marks
  d_all_kinds : Dn K mg "all_kinds" s_all_kinds
  d_shares : Dn K mg "shares" s_shares
  d_first_no_lot : Dn K mg "first_no_lot" s_first_no_lot
  d_pairs_of : Dn K mg "pairs_of" s_pairs_of
  d_heads : Dn K mg "heads" s_heads
  d_least_of : Dn K mg "least_of" s_least_of
  d_form : Dn K mg "form" s_form
  d_is_stand : Dn K mg "is_stand" s_is_stand
  d_behind : Dn K mg "behind" s_behind
  d_rule_of : Dn K mg "rule_of" s_rule_of
  d_first_stands : Dn K mg "first_stands" s_first_stands
  d_parting_row : Dn K mg "parting_row" s_parting_row
  d_counts_at : Dn K mg "counts_at" s_counts_at
  d_lot_taken : Dn K mg "lot_taken" s_lot_taken
  d_first_lot : Dn K mg "first_lot" s_first_lot
  d_candidate : Dn K mg "candidate" s_candidate
  d_part_from : Dn K mg "part_from" s_part_from
  d_list_of : Dn K mg "list_of" s_list_of
  d_closure : Dn K mg "closure" s_closure
  d_keeps_away : Dn K mg "keeps_away" s_keeps_away
  d_never_back : Dn K mg "never_back" s_never_back
  d_law_flag : Dn K mg "_law_flag" s__law_flag
  d_law_tape : Dn K mg "_law_tape" s__law_tape
  d_law_pick : Dn K mg "_law_pick" s__law_pick
  d_law_kinds : Dn K mg "_law_kinds" s__law_kinds
  d_law_lot : Dn K mg "_law_lot" s__law_lot
  d_law_lots : Dn K mg "_law_lots" s__law_lots
  d_law_moves : Dn K mg "_law_moves" s__law_moves
  d_law_of_list : Dn K mg "_law_of_list" s__law_of_list
  d_law_part : Dn K mg "_law_part" s__law_part
  d_law_reach : Dn K mg "_law_reach" s__law_reach
  d_law_never_back : Dn K mg "_law_never_back" s__law_never_back
  d_law_some_list : Dn K mg "_law_some_list" s__law_some_list
  d_law_changed : Dn K mg "_law_changed" s__law_changed
  d_law_two_lots : Dn K mg "_law_two_lots" s__law_two_lots
  d_law_too_many : Dn K mg "_law_too_many" s__law_too_many
  d_law : Dn K mg "law" s_law
section
variable {P : Program} {w : World} {K : PySem.W.Frag} {mg : Str → Option Value} {base : Heap} {mk : Str} {ev : List Str} {m : Nat} {CR CS CT CO c Pt f0 : Addr}
theorem lawC_of (X : Dfs K mg base CR CS CT CO c Pt f0) (hk : MkAny mk ev m) (tp sp : Addr) : LawC P w K mg base mk ev m CR CS Pt tp sp := by
  obtain ⟨h, hm, hm4, hx⟩ := hk
  have M := X.M
  have kc := X.kc
  have h16 : m ≤ 16 := by omega
  have h8 : m ≤ 8 := by omega
  have c_shares := cShares (P := P) (w := w) (base := base) h.ok.evk M X.d_shares
  have c_pairs_of := cPairs (P := P) (w := w) (base := base) h.ok.evk M c_shares X.d_pairs_of
  have c_heads := cHeads (P := P) (w := w) (base := base) h.ok.evk M c_pairs_of X.d_heads
  have c_least_of := cLeast (P := P) (w := w) (base := base) h.ok M c_heads X.d_least_of
  have c_first_seat := cFirstSeat (P := P) (w := w) (base := base) h.ok.evk X.d_first_seat
  have c_behind := cBehind (P := P) (w := w) (base := base) h.ok M c_first_seat c_least_of X.d_behind
  have c_all_kinds := cAllKinds (P := P) (w := w) (base := base) h.kinds M X.d_all_kinds
  have c_counts_at := cCounts (P := P) (w := w) (base := base) h16 M X.d_counts_at
  have c_lot_taken := cTaken (P := P) (w := w) (base := base) h16 M c_counts_at X.d_lot_taken
  have c_first_lot := cFirstLot (P := P) (w := w) (base := base) h16 hm M c_counts_at c_lot_taken X.d_first_lot
  have c_candidate := cCand (P := P) (w := w) (base := base) h.ok kc M c_all_kinds c_first_lot X.d_candidate
  have c_first_stands := cStands (P := P) (w := w) (base := base) (m := m) M X.d_first_stands
  have c_closure := cClosure (P := P) (w := w) (base := base) (m := m) M X.d_closure
  have c_keeps_away := cKeeps (P := P) (w := w) (base := base) M c_closure X.d_keeps_away
  have c_is_ascending := cAsc (P := P) (w := w) (base := base) M X.d_is_ascending
  have c_is_marks := cMarks (P := P) (w := w) (base := base) M c_is_ascending X.d_is_marks
  have c_is_kind := cKind (P := P) (w := w) (base := base) M c_is_ascending X.d_is_kind
  have c_is_lot := cIsLot (P := P) (w := w) (base := base) h M c_is_ascending c_is_kind X.d_is_lot
  have c_first_no_lot := cNoLot (P := P) (w := w) (base := base) M c_is_lot X.d_first_no_lot
  have k_Seats := kSeats (P := P) (w := w) (base := base) kc M c_is_marks c_first_no_lot X.i_seats
  have c_is_integer := cInt (P := P) (w := w) (base := base) M X.d_is_integer
  have c_is_within := cWithin (P := P) (w := w) (base := base) M c_is_integer X.d_is_within
  have c_is_pair := cPair (P := P) (w := w) (base := base) M X.d_is_pair
  have c_is_stand := cStand (P := P) (w := w) (base := base) (m := m) M c_is_pair c_is_within X.d_is_stand
  have k_Rule := kRule (P := P) (w := w) (base := base) h kc M c_is_marks c_all_kinds c_is_stand X.i_rule
  have c_part_of_lots := cPart (P := P) (w := w) (base := base) h.ok hm kc M X.TB c_all_kinds c_least_of c_behind X.d_parting_row X.c_part_of_lots
  have c_same := cSame (P := P) (w := w) (base := base) (mk := mk) (ev := ev) kc X.d_check_same_marks
  have c_pick := cPick (P := P) (w := w) (base := base) (T := TQ Pt) (tp := tp) (sp := sp) M X.d_law_pick
  have c_lot := cLot (P := P) (w := w) (base := base) h.ok.evk hm h8 M c_pick X.d_law_lot
  have c_ofl := cOfList (P := P) (w := w) (base := base) h.ok hm M X.d_law_of_list
  have c_lp := cLPart (P := P) (w := w) (base := base) hm h16 M X.d_law_part
  have c_reach := cReach (P := P) (w := w) (base := base) h16 M X.d_law_reach
  exact {
    kinds := cLawKinds h.kinds M X.d_law_kinds
    pick := c_pick
    lot := c_lot
    lots := cLots M c_pick c_lot X.d_law_lots
    two := cTwo M c_pick c_lot c_ofl X.d_law_two_lots
    moves := cMoves h.ok.evk M c_pick X.d_law_moves
    changed := cChanged hm h16 M c_pick X.d_law_changed
    ofl := c_ofl
    part := c_lp
    lnever := cLNever h16 M c_reach X.d_law_never_back
    some_ := fun h2 => cSome h.ok hm h2 M c_ofl c_lp X.d_law_some_list
    flag := cFlag M X.d_law_flag
    tooMany := cTooMany hx kc M X.x k_Seats X.d_check_same_marks X.d_part_from X.d_law_too_many
    seats := k_Seats
    rule := k_Rule
    listOf := cListOf h hm kc M c_candidate c_least_of c_part_of_lots k_Seats X.d_list_of
    from_ := cFrom kc M c_same c_part_of_lots X.d_part_from
    form := cForm h kc M c_least_of k_Seats X.d_form
    ruleOf := cRuleOf h hm kc M c_all_kinds c_least_of c_behind k_Rule X.d_rule_of
    never := cNever h16 kc M c_first_stands c_closure c_keeps_away X.d_never_back
    eq_ := mSeatsEq h.ok kc X.ik M X.mS X.e_seats }
/-! ### the law -/
theorem run_ds {U : Vol} {t : TS} {E : DEnv} {G : DE} {D : Ends} {H0 H : Hp} {σ : Sg} (S : SD U H0 E σ H) (F : Fit U G D H0) (h : DS U t E G) : t D σ H := h D H0 σ H S F
def spLaw (K : PySem.W.Frag) (Pt : Addr) : Sp := fun vs H Q _ => ∃ (a : Addr) (ns : List Int), vs = [.ref a] ∧ SqL K H a (ns.map V.int) ∧ H Pt = some (.tbl #[]) ∧ ∀ H', Q (.bl true) H'
/-- a def's promise by a proof of its own -/
theorem fn_raw {x : Str} {st : Stmt} {N ps : List Str} {k : Nat} {sp : Sp} {f : Addr} {fd : FuncData} (F : FunD K x x (defArgs st) (defBody st) (defScope st) [] [] f fd) (S : FnScope N ps (defScope st)) (len : ∀ vs H Q E, sp vs H Q E → vs.length = ps.length)
    (body : ∀ (cdv : Value) (A' : Around) (outer : List Env) (s : Shared) (H : Hp) (E : XK), Room k (A'.deeper (envOfC x (defScope st) s.heap.objs.size f cdv)) →
      ∃ t, PSs (cxOf C8.CX0 P w K mg base N x (defScope st) f cdv A' outer s H E).nox (defBody st) t ∧ ∀ vs Q E', sp vs H Q E' → t { nx := fun _ H' => Q .non H', rt := Q } (L2.start N vs) H) : FnOk P w K mg base C8.CX0 (k + 1) f fd ps sp := by
  refine F.ok (CX := C8.CX0) S len fun cdv A' outer s H vs Q E hr hsp => ?_
  obtain ⟨t, h1, h2⟩ := body cdv A' outer s H E hr
  exact ⟨t, h1.nox, h2 vs Q E hsp⟩
theorem okLaw (X : Dfs K mg base CR CS CT CO c Pt f0) {f : Addr} {fd : FuncData} (F : FunD K "law" "law" (defArgs s_law) (defBody s_law) (defScope s_law) [] [] f fd) : FnOk P w K mg base C8.CX0 13 f fd ["_law_script"] (spLaw K Pt) := by
  have sc := sc_law
  have M := X.M
  have c_law_tape := cTape (P := P) (w := w) (base := base) M X.d_law_tape
  refine fn_raw F sc (fun vs H Q E ⟨a, ns, e, _⟩ => by rw [e]; rfl) fun cdv A' outer s H E hr => ⟨_, pss_cons (ps_set (i := 1) sc.nd rfl (by first | exact .inl rfl | exact .inr rfl) (pe_c c_law_tape hr (by decide) (by rfl) (pa_cons (pv 0) pa_nil))) pss_any, ?_⟩
  rintro vs Q E' ⟨a, ns, rfl, ha, hT, q⟩
  refine ⟨.ref a, rfl, a, ns, rfl, ha, fun sp tp nsp hne ntp => ?_⟩
  have c_law_pick := cPick (P := P) (w := w) (base := base) (T := TQ Pt) (tp := tp) (sp := sp) M X.d_law_pick
  refine ⟨_, pss_cons (ps_set (i := 2) sc.nd rfl (by first | exact .inl rfl | exact .inr rfl) (pe_ix (show IxR _ (rIxL K) from ix_list) (pe_lst (pa_cons pe_str (pa_cons pe_str (pa_cons pe_str (pa_cons pe_str pa_nil))))) (pe_c c_law_pick hr (by decide) (by rfl) (pa_cons (pv 1) (pa_cons pe_int pa_nil))) (fun _ _ => rfl))) pss_any, ?_⟩
  have hpt : Pt ≠ sp := fun z => by rw [z, nsp] at hT; cases hT
  have hpt2 : Pt ≠ tp := fun z => by rw [z, ntp] at hT; cases hT
  have S : SD (VL w (TQ Pt) tp sp) (upd (upd H sp (.lst (ns.map V.int))) tp (tapeO sp 0 0 1 0)) [none, some (.dat (.adr tp)), none, none, none, none, none, none, none, none, none, none, none, none, none] [some (.ref a), some (.ref tp), none, none, none, none, none, none, none, none, none, none, none, none, none] (upd (upd H sp (.lst (ns.map V.int))) tp (tapeO sp 0 0 1 0)) := by
    refine ⟨rfl, .refl, ⟨fun p hp => ?_, hne.symm, ns, 0, 0, 1, 0, upd_same, by rw [upd_ne hne.symm, upd_same]⟩, fun i t e => ?_, fun i j t u v ne e1 e2 o => ?_⟩
    · rw [List.mem_singleton.mp hp]
      exact .nil (by rw [upd_ne hpt2, upd_ne hpt]; exact hT)
    · match i, e with
      | 1, e => cases e; exact ⟨_, rfl, .dat (.adr tp)⟩
      | 0, e => cases e
      | i + 2, e =>
        exfalso
        have z : (List.replicate 13 (none : Option Sl))[i]? = some (some t) := e
        rw [List.getElem?_replicate] at z
        split at z <;> cases z
    · match i, e1 with
      | 1, e => cases e; cases o
      | 0, e => cases e
      | i + 2, e =>
        exfalso
        have z : (List.replicate 13 (none : Option Sl))[i]? = some (some t) := e
        rw [List.getElem?_replicate] at z
        split at z <;> cases z
  refine run_ds (G := { nx := fun _ => False, rt := (· = .dat (.bl true)) }) S ⟨fun _ _ _ z => z.elim, fun v H' s g x i n => ?_, fun _ _ _ z => z.elim, fun _ _ _ z => z.elim⟩ ?_
  · subst g
    rw [DT.bl_inv n.1]
    exact q H'
  refine d_seq (d_asgP (P := fun s => ∃ mk ev m, MkAny mk ev m ∧ s = .dat (.str mk)) (e_op (A := (· = .rl [.str "", .str "a", .str "a", .str "ab"])) (EvP.rl (e_lst (ds := [.str "", .str "a", .str "a", .str "ab"]) (ea_cons e_str (ea_cons e_str (ea_cons e_str (ea_cons e_str ea_nil)))))) (e_pick (n := 4) rfl e_int (by decide) (by decide)) ?_) (fun s ⟨_, _, _, _, e⟩ => own_dat s e) ?_)
  · rintro s t rfl ⟨r, hr, rfl⟩
    match r, hr with
    | 0, _ => exact (rp_ixL (j := 0) (d := .str "") rfl).imp fun s e => ⟨_, _, _, mkAny0, e⟩
    | 1, _ => exact (rp_ixL (j := 1) (d := .str "a") rfl).imp fun s e => ⟨_, _, _, mkAny1, e⟩
    | 2, _ => exact (rp_ixL (j := 2) (d := .str "a") rfl).imp fun s e => ⟨_, _, _, mkAny1, e⟩
    | 3, _ => exact (rp_ixL (j := 3) (d := .str "ab") rfl).imp fun s e => ⟨_, _, _, mkAny2, e⟩
  rintro _ ⟨mk, ev, m, hk, rfl⟩
  exact d_any (law_rest (lawC_of X hk tp sp) X.ne1 X.ne2 M X.kc hk.1 hk.2.1 hk.2.2.1 f cdv A' outer s H E hr)
end
end K13
end
section
set_option Elab.async false
set_option linter.all false
set_option maxRecDepth 100000
set_option maxHeartbeats 0
/-! what the head tells -/
namespace K13H
open PySem PySem.Spec PyProof.Rows L2 K13 LamX
theorem inB_ok {K : PySem.W.Frag} {C : Addr} (c : Cls K C) (h : inB K C = true) : InK K C := by
  obtain ⟨h1, h⟩ := He.ba h
  obtain ⟨h2, h⟩ := He.ba h
  obtain ⟨h3, h4⟩ := He.ba h
  exact ⟨c, He.eqO_ok h1, He.eqO_ok h2, of_decide_eq_true h3, of_decide_eq_true h4⟩
theorem dnOf {h : Heap} {mg : Str → Option Value} {K : PySem.W.Frag} {x : Str} {st : Stmt} (X : K.In h) (G : h.Ns mainGlobals mg) (c : He.SaysD fa fn K) (i j : Nat) (hd : fn[i]? = some ⟨(x, none), x, x, defArgs st, defBody st, defScope st, [], []⟩ := by rfl) (hf : fa[j]? = some (.glo x) := by rfl) : Dn K mg x st := by
  obtain ⟨fd, F⟩ := c.def_ i hd
  exact ⟨_, fd, F, He.glo_ok X G (c.fact j hf)⟩
theorem code_of {K : PySem.W.Frag} {x : Str} {params : Arguments} {body : List Stmt} {scope : Scope} {dvs : List V} {kws : List (Str × V)} {fd : FuncData} (F : FunD K x x params body scope dvs kws (He.fAd K (x, none)) fd) : fd.code = .ref (He.cT K (x, none)).1 := by
  obtain ⟨oc, od, dV, kV, doc, pm, an, cdv, ct, osl, rfl, lk, hcd, _, _⟩ := F.ex
  obtain ⟨c, rfl⟩ := He.codeIn_ref hcd
  show Value.ref c = Value.ref (He.codeOf K (x, none))
  rw [He.codeOf_eq lk rfl]
theorem facts {h : Heap} {mg : Str → Option Value} {K : PySem.W.Frag} (X : K.In h) (G : h.Ns mainGlobals mg) (c : He.SaysD fa fn K) (e : ex K = true) {base : Heap} (TB : TabB base mg (He.cT K ("part_of_lots", none)).1 (He.cT K ("part_of_lots", none)).2) :
    Dfs K mg base (He.ga K "Rule") (He.ga K "Seats") (He.ga K "TooMany") (He.ga K "OtherMarks") (He.cT K ("part_of_lots", none)).1 (He.cT K ("part_of_lots", none)).2 (He.ma K (He.ga K "Seats") "__eq__") := by
  obtain ⟨e1, e'⟩ := He.ba e
  obtain ⟨e2, e'⟩ := He.ba e'
  obtain ⟨e3, e4⟩ := He.ba e'
  have cS := He.cls_ok (c.fact 71 (f := .cls "Seats") rfl)
  have cR := He.cls_ok (c.fact 72 (f := .cls "Rule") rfl)
  have mE := He.meth_ok (c.fact 80 (f := .meth "Seats" "__eq__") rfl)
  have mI := He.meth_ok (c.fact 81 (f := .meth "TooMany" "__init__") rfl)
  obtain ⟨o1, o2, o3, o4⟩ := He.exc_ok (c.fact 82 (f := .exc "OtherMarks") rfl)
  obtain ⟨fdFI, FI⟩ := c.def_ 0 (d := d5_0) rfl
  obtain ⟨fdFS, FS⟩ := c.def_ 12 (d := d23_0) rfl
  obtain ⟨fdFE, FE⟩ := c.def_ 13 (d := d23_1) rfl
  obtain ⟨fdFR, FR⟩ := c.def_ 20 (d := d34_0) rfl
  obtain ⟨fdFP, FP⟩ := c.def_ 29 (d := d45) rfl
  exact {
    M := { len_ := He.free_ok X G (c.fact 51 (f := .free "len") rfl), range_ := He.free_ok X G (c.fact 52 (f := .free "range") rfl), list_ := He.free_ok X G (c.fact 53 (f := .free "list") rfl), tuple_ := He.free_ok X G (c.fact 54 (f := .free "tuple") rfl), sorted_ := He.free_ok X G (c.fact 55 (f := .free "sorted") rfl), any_ := He.free_ok X G (c.fact 56 (f := .free "any") rfl), all_ := He.free_ok X G (c.fact 57 (f := .free "all") rfl), isinstance_ := He.free_ok X G (c.fact 58 (f := .free "isinstance") rfl), enumerate_ := He.free_ok X G (c.fact 59 (f := .free "enumerate") rfl), zip_ := He.free_ok X G (c.fact 60 (f := .free "zip") rfl), min_ := He.free_ok X G (c.fact 61 (f := .free "min") rfl), max_ := He.free_ok X G (c.fact 62 (f := .free "max") rfl), int_ := He.free_ok X G (c.fact 63 (f := .free "int") rfl), bool_ := He.free_ok X G (c.fact 64 (f := .free "bool") rfl), str_ := He.free_ok X G (c.fact 65 (f := .free "str") rfl), MOST_MARKS := (He.int_ok X G (c.fact 66 (f := .int "MOST_MARKS" 5) rfl)).elim fun t e => ⟨_, e, t, rfl⟩, MOST_SEATS := (He.int_ok X G (c.fact 67 (f := .int "MOST_SEATS" 40) rfl)).elim fun t e => ⟨_, e, t, rfl⟩, MOST_STANDS := (He.int_ok X G (c.fact 68 (f := .int "MOST_STANDS" 60) rfl)).elim fun t e => ⟨_, e, t, rfl⟩, MOST_KNOWN := (He.int_ok X G (c.fact 69 (f := .int "MOST_KNOWN" 12) rfl)).elim fun t e => ⟨_, e, t, rfl⟩, SMALL := (He.str_ok X G (c.fact 70 (f := .str "SMALL" "abcdefghijklmnopqrstuvwxyz") rfl)).elim fun t e => ⟨_, e, t, rfl⟩ }
    kc := ⟨cR, cS, He.noat_ok (c.fact 73 (f := .noat "Rule" "marks") rfl), He.noat_ok (c.fact 74 (f := .noat "Rule" "moves") rfl), He.noat_ok (c.fact 75 (f := .noat "Seats" "marks") rfl), He.noat_ok (c.fact 76 (f := .noat "Seats" "lots") rfl)⟩
    ik := inB_ok cS e1
    x := { gT := He.glo_ok X G (c.fact 1 (f := .glo "TooMany") rfl), gO := He.glo_ok X G (c.fact 0 (f := .glo "OtherMarks") rfl), tT := oexB_ok e2, xT := xfB_ok e3, nT := He.noat_ok (c.fact 77 (f := .noat "TooMany" "most") rfl), iT := ⟨_, fdFI, mI.at_, beq_iff_eq.mp mI.fn, FI⟩, oO := o1, kO := o2, sO := o3, yO := o4, e1 := He.exm_ok (c.fact 83 (f := .exm "TooMany" "TooMany" true) rfl), e2 := He.exm_ok (c.fact 84 (f := .exm "OtherMarks" "TooMany" false) rfl), e3 := He.exm_ok (c.fact 85 (f := .exm "OtherMarks" "OtherMarks" true) rfl) }
    TB := TB
    mS := ⟨_, He.glo_ok X G (c.fact 13 (f := .glo "Seats") rfl), rfl⟩
    ne1 := e4
    ne2 := mE.at_
    i_seats := ⟨_, fdFS, He.mkr_ok (c.fact 78 (f := .mkr "Seats") rfl), FS, He.glo_ok X G (c.fact 13 (f := .glo "Seats") rfl)⟩
    i_rule := ⟨_, fdFR, He.mkr_ok (c.fact 79 (f := .mkr "Rule") rfl), FR, He.glo_ok X G (c.fact 20 (f := .glo "Rule") rfl)⟩
    e_seats := ⟨_, fdFE, cS, mE, FE⟩
    d_first_seat := dnOf X G c 18 18
    c_part_of_lots := ⟨_, ⟨fdFP, FP, code_of FP⟩, He.glo_ok X G (c.fact 29 (f := .glo "part_of_lots") rfl)⟩
    d_is_integer := dnOf X G c 1 2
    d_is_within := dnOf X G c 2 3
    d_is_pair := dnOf X G c 3 4
    d_is_ascending := dnOf X G c 4 5
    d_is_marks := dnOf X G c 5 6
    d_is_kind := dnOf X G c 6 7
    d_is_lot := dnOf X G c 7 8
    d_check_same_marks := dnOf X G c 8 9
    d_all_kinds := dnOf X G c 9 10
    d_shares := dnOf X G c 10 11
    d_first_no_lot := dnOf X G c 11 12
    d_pairs_of := dnOf X G c 14 14
    d_heads := dnOf X G c 15 15
    d_least_of := dnOf X G c 16 16
    d_form := dnOf X G c 17 17
    d_is_stand := dnOf X G c 19 19
    d_behind := dnOf X G c 21 21
    d_rule_of := dnOf X G c 22 22
    d_first_stands := dnOf X G c 23 23
    d_parting_row := dnOf X G c 24 24
    d_counts_at := dnOf X G c 25 25
    d_lot_taken := dnOf X G c 26 26
    d_first_lot := dnOf X G c 27 27
    d_candidate := dnOf X G c 28 28
    d_part_from := dnOf X G c 30 30
    d_list_of := dnOf X G c 31 31
    d_closure := dnOf X G c 32 32
    d_keeps_away := dnOf X G c 33 33
    d_never_back := dnOf X G c 34 34
    d_law_flag := dnOf X G c 35 35
    d_law_tape := dnOf X G c 36 36
    d_law_pick := dnOf X G c 37 37
    d_law_kinds := dnOf X G c 38 38
    d_law_lot := dnOf X G c 39 39
    d_law_lots := dnOf X G c 40 40
    d_law_moves := dnOf X G c 41 41
    d_law_of_list := dnOf X G c 42 42
    d_law_part := dnOf X G c 43 43
    d_law_reach := dnOf X G c 44 44
    d_law_never_back := dnOf X G c 45 45
    d_law_some_list := dnOf X G c 46 46
    d_law_changed := dnOf X G c 47 47
    d_law_two_lots := dnOf X G c 48 48
    d_law_too_many := dnOf X G c 49 49
    d_law := dnOf X G c 50 50 }
end K13H
end
set_option Elab.async false
set_option linter.all false
set_option maxRecDepth 100000
set_option maxHeartbeats 0
open PySem PySem.W PySem.Calls PyProof.Rows
theorem PySem.Challenge.cw_narrowahead_k13_whole_rules_that_are_lis_holds : PySem.Challenge.rw_narrowahead_k13_whole_rules_that_are_lis.Holds := by
  w_on; o_law
  refine HandSHeadRun.head_any (r := OpenLaw.row PySem.Challenge.rw_narrowahead_k13_whole_rules_that_are_lis) (q := view K13H.R.prog [70]) (H := K13H.hk) (ob := K13H.ob) (M := 4000) (loose := K13H.loose) (d := HandSHeadRun.topDef K13H.R.prog 70) (kwd := []) K13H.ob_eq
    (by kernel_rfl) (fun s => by kernel_rfl) K13H.run (by kernel_rfl) (by kernel_rfl) (by kernel_rfl) (by rfl) (by first | assumption | decide +kernel) (by decide +kernel) ⟨rfl, rfl, rfl, rfl, rfl, by decide +kernel⟩ ?hw ?hc
  case hw => w_witness2
  case hc =>
    refine LamX.walk_ofTsE (l := PySem.Challenge.rw_narrowahead_k13_whole_rules_that_are_lis) (n := 63) (k := 13) (x := "_law_script") (CX := fun _ => C8.CX0) rfl (by decide) (by kernel_rfl) ⟨rfl, by decide, by decide⟩ ?F (fun _ _ _ _ _ z => z)
    intro w mg fa h Y G hmg0
    obtain ⟨K, KX, c⟩ := Y
    have hmg : mg ("law" : PySem.Str) = some (.ref fa) := by
      have e : (HandSHeadRun.topDef K13H.R.prog 70).name = ("law" : PySem.Str) := by kernel_rfl
      rw [← e]
      exact hmg0
    have cd := c.t.d
    obtain ⟨fd, F⟩ := cd.def_ 50 (d := K13H.d70) rfl
    have e := hmg.symm.trans (He.glo_ok KX G (cd.fact 50 (f := .glo "law") rfl))
    cases e
    refine ⟨K, KX, fd, [He.cT K ("part_of_lots", none)], K13.spLaw K (He.cT K ("part_of_lots", none)).2, fun p hp => ?_, fun p hp => ?_, fun p hp => ?_, fun s u => L2.FunD.bindsA (ps := ["_law_script"]) F (fun _ _ _ _ _ _ us hl => match us, hl with | [_], _ => rfl) s [u] rfl, fun H a ns hl _ hT hS => ⟨a, ns, rfl, hS, hT _ List.mem_cons_self, fun _ => rfl⟩, fun base _ _ hB => K13.okLaw (K13H.facts KX G cd c.more (hB _ List.mem_cons_self)) F⟩
    · rw [List.mem_singleton.mp hp]
      exact c.empty _ List.mem_cons_self
    · rw [List.mem_singleton.mp hp]
      exact c.out _ List.mem_cons_self
    · rw [List.mem_singleton.mp hp]
      exact PySem.W.codeHd_of_K KX (c.hd _ List.mem_cons_self)
