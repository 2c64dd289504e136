import PyProof.Rows.All
import Wide.All
import OpenK.AllK
import Wide.FinOn
import KE.KStateDown
import Lean
import HandS.ForMost
import KE.KEqNest
import PyProof.NeKinds
import HandS.ForExc
import HandS.Wide
import HandS.SortInts
import HandS.TupAny
import HandS.Style
import HandS.IsInst
import HandS.Flow
import HandS.Defaults
import HandS.HeadHook2
import HandS.WideBits
import KE.KSortedM
import HandS.TupSets
import HandS.More
import HandS.Iter
import HandS.Zip
import HandS.Small
import HandS.CallSlots
import HandS.SetFor
import HandS.SetTxt0
import HandS.Strs
import HandS.SortOrd
import HandS.SortKw
import HandS.HeadHook1
import HandS.Finally
import HandS.SetKeys
import HandS.Dict
import HandS.Text
import PyProof.Rows.CountFlat
import PyProof.Rows.SeqMore2
import KE.KDictZip
import KE.KRevSl
import KE.GoesMore
import HandS.TupLen
import KE.KDictCopyH
import HandS.TryElse
import HandS.ClsMeth
import HandS.ExcInit
import HandS.ExcField
import HandS.ExcIs
import HandS.Head0
import HandS.Head1
import HandS.Head2
import HandS.HeadEnd
import HandS.EndBits
import PySem.Challenge.RW_maybetables_k21_clash_or_agreeing
set_option Elab.async false
set_option linter.all false
set_option maxRecDepth 100000
set_option maxHeartbeats 0
namespace PySem.SeqAt
open AutoSeq1 (wpAny_loadPart')
open MeetsSeq MeetsSeq2 MeetsSeq3 SeqRoads2
section
variable {prog : Program} {w : World}
theorem mt_ne_loopIn (l b : Addr) (items items2 : Array Value) (n n2 : Nat) (dd dd2 : Option Addr) (sl sl2 : Array (Option Value)) (hsz : items.size = items2.size) (e : Nat → Bool) (k : Nat) :
    ∀ i : Nat, items.size - i = k → MeetsIn prog w (Builtin.«list.__eq__.loop» ⟨[.ref l, .ref b, rawInt i, rawInt 3], []⟩)
      (fun A R s => s.heap.get? l = some { cls := .type "list", dict := dd, data := .seq items n, slots := sl } ∧ s.heap.get? b = some { cls := .type "list", dict := dd2, data := .seq items2 n2, slots := sl2 } ∧
        (∀ j (h1 : j < items.size) (h2 : j < items2.size), EqIn prog w A.in1 s items[j] items2[j] (e j)) ∧
        R (.ok (.ret (.bool (!((List.range items.size).drop i).all e)))) s) := by
  induction k with
  | zero =>
    intro i hk A R s h
    obtain ⟨hp, g, d, tk, os⟩ := s; obtain ⟨hl, hb, he, h⟩ := h
    wp_walk using wpAny_loadPart' hl, wpAny_loadPart' hb
    have hi1 : items[((i : Nat) : Int).toNat]? = none := by simp; omega
    have hi2 : items2[((i : Nat) : Int).toNat]? = none := by simp; omega
    have hd : (List.range items.size).drop i = [] := by simp; omega
    rw [hd] at h
    rw [hi1, hi2]
    wp_walk using wpAny_loadPart' hl, wpAny_loadPart' hb
    show R (.ok (.ret (.bool (items.size != items2.size)))) _
    rw [hsz]
    simpa using h
  | succ k ih =>
    intro i hk A R s h
    obtain ⟨hp, g, d, tk, os⟩ := s; obtain ⟨hl, hb, he, h⟩ := h
    wp_walk using wpAny_loadPart' hl, wpAny_loadPart' hb
    have hlt : i < items.size := by omega
    have hlt2 : i < items2.size := by omega
    have hi1 : items[((i : Nat) : Int).toNat]? = some items[i] := by simp [hlt]
    have hi2 : items2[((i : Nat) : Int).toNat]? = some items2[i] := by simp [hlt2]
    have hd : (List.range items.size).drop i = i :: (List.range items.size).drop (i + 1) := by simp [List.drop_eq_getElem_cons, hlt]
    have hc : ((i : Int) + 1) = ((i + 1 : Nat) : Int) := by push_cast; rfl
    rw [hd, List.all_cons] at h
    rw [hi1, hi2]
    refine wpAny_bind (he i hlt hlt2 _ _ ?_)
    cases hb' : e i with
    | true =>
      rw [hb'] at h
      wp_walk
      rw [hc]
      exact ⟨plainId_quiet plain_eq_loop _, codeAny_builtin entry_eq_loop (by
        rw [Around.under_plainId plain_eq_loop _]
        exact ih (i + 1) (by omega) A R _ ⟨hl, hb, he, by simpa using h⟩)⟩
    | false =>
      rw [hb'] at h
      wp_walk using wpAny_loadPart' hl, wpAny_loadPart' hb
      rw [hi1, hi2]
      wp_walk
      simpa using h
theorem mt_list_neIn (l b : Addr) (items items2 : Array Value) (n n2 : Nat) (dd dd2 : Option Addr) (sl sl2 : Array (Option Value)) (hsz : items.size = items2.size) (e : Nat → Bool) :
    MeetsIn prog w (Builtin.«list.__ne__» ⟨[.ref l, .ref b], []⟩)
      (fun A R s => s.heap.get? l = some { cls := .type "list", dict := dd, data := .seq items n, slots := sl } ∧ s.heap.get? b = some { cls := .type "list", dict := dd2, data := .seq items2 n2, slots := sl2 } ∧
        (∀ j (h1 : j < items.size) (h2 : j < items2.size), EqIn prog w A.in1 s items[j] items2[j] (e j)) ∧
        R (.ok (.ret (.bool (!(List.range items.size).all e)))) s) := by
  intro A R s h
  obtain ⟨hp, g, d, tk, os⟩ := s; obtain ⟨hl, hb, he, h⟩ := h
  have f3 := AutoSeq1.sub_list_list
  have hne : ¬ (items.size != items2.size) = true := by simp [hsz]
  wp_walk using wpAny_loadPart' hl, wpAny_loadPart' hb
  exact ⟨plainId_quiet plain_eq_loop _, codeAny_builtin entry_eq_loop (by
    rw [Around.under_plainId plain_eq_loop _]
    exact mt_ne_loopIn l b items items2 n n2 dd dd2 sl sl2 hsz e _ 0 rfl A R _ ⟨hl, hb, he, by simpa using h⟩)⟩
theorem mt_tuple_neIn (l b : Addr) (items items2 : Array Value) (n n2 : Nat) (dd dd2 : Option Addr) (sl sl2 : Array (Option Value)) (e : Nat → Bool) :
    MeetsIn prog w (Builtin.«tuple.__ne__» ⟨[.ref l, .ref b], []⟩)
      (fun A R s => s.heap.get? l = some { cls := .type "tuple", dict := dd, data := .seq items n, slots := sl } ∧ s.heap.get? b = some { cls := .type "tuple", dict := dd2, data := .seq items2 n2, slots := sl2 } ∧
        (∀ j (h1 : j < items.size) (h2 : j < items2.size), EqIn prog w A.in1 s items[j] items2[j] (e j)) ∧
        R (.ok (.ret (.bool (!((List.range (min items.size items2.size)).all e && items.size == items2.size))))) s) :=
  .of_wp fun A R s h => by
    obtain ⟨hp, g, d, tk, os⟩ := s; obtain ⟨hl, hb, he, h⟩ := h
    have f2 := AutoSeq1.sub_tuple_tuple
    have hZ : (items.toList.zip items2.toList).length = min items.size items2.size := by simp
    wp_walk using wpAny_loadPart' hl, wpAny_loadPart' hb, wpAny_forIn_list _ (fun rest b s' => b.1 = none ∧ s' = ⟨hp, g, d, tk, os⟩ ∧ ∃ i, rest = (items.toList.zip items2.toList).drop i ∧
      R (.ok (.ret (.bool (!(((List.range (min items.size items2.size)).drop i).all e && items.size == items2.size))))) ⟨hp, g, d, tk, os⟩) _
    case turn =>
      rintro ⟨y, x⟩ rest b s' ⟨hb', rfl, i, hz, hR⟩
      have hlt : i < (items.toList.zip items2.toList).length := by
        rcases Nat.lt_or_ge i (items.toList.zip items2.toList).length with h' | h'
        · exact h'
        · rw [List.drop_of_length_le h'] at hz; cases hz
      have hm : i < min items.size items2.size := hZ ▸ hlt
      have h1 : i < items.size := Nat.lt_of_lt_of_le hm (Nat.min_le_left _ _)
      have h2 : i < items2.size := Nat.lt_of_lt_of_le hm (Nat.min_le_right _ _)
      rw [List.drop_eq_getElem_cons hlt] at hz
      injection hz with hyx hrest
      have hy : y = items[i] := by have := congrArg Prod.fst hyx; simpa using this
      have hx : x = items2[i] := by have := congrArg Prod.snd hyx; simpa using this
      subst hy hx
      have hd : (List.range (min items.size items2.size)).drop i = i :: (List.range (min items.size items2.size)).drop (i + 1) := by simp [List.drop_eq_getElem_cons, hm]
      rw [hd, List.all_cons] at hR
      refine wpAny_bind (he i h1 h2 _ _ ?_)
      cases hy : e i with
      | true =>
        rw [hy] at hR
        wp_walk
        exact ⟨rfl, rfl, i + 1, hrest, by simpa using hR⟩
      | false =>
        rw [hy] at hR
        wp_walk
        exact ⟨_, rfl, by simpa using hR⟩
    case fin =>
      rintro ⟨b1, b2⟩ s' ⟨hb', rfl, i, hz, hR⟩
      simp only at hb'
      subst hb'
      have hge : min items.size items2.size ≤ i := by
        rcases Nat.lt_or_ge i (items.toList.zip items2.toList).length with h' | h'
        · rw [List.drop_eq_getElem_cons h'] at hz; cases hz
        · exact hZ ▸ h'
      rw [List.drop_of_length_le (by simpa using hge)] at hR
      wp_walk
      exact ⟨_, rfl, by simpa [Builtin.Tuple.tupleCompareSizes, bne] using hR⟩
    case h =>
      exact ⟨rfl, rfl, 0, rfl, by simpa using h⟩
theorem mt_has_loopIn (l : Addr) (items : Array Value) (n : Nat) (dd : Option Addr) (sl : Array (Option Value)) (x : Value) (e : Nat → Bool) (k : Nat) :
    ∀ i : Nat, items.size - i = k → MeetsIn prog w (Builtin.«list.__contains__.loop» ⟨[.ref l, x, rawInt i], []⟩)
      (fun A R s => s.heap.get? l = some { cls := .type "list", dict := dd, data := .seq items n, slots := sl } ∧ (∀ j (h : j < items.size), EqIn prog w A.in1 s items[j] x (e j)) ∧ R (.ok (.ret (.bool (((List.range items.size).drop i).any e)))) s) := by
  induction k with
  | zero =>
    intro i hk A R s h
    obtain ⟨hp, g, d, tk, os⟩ := s; obtain ⟨hl, he, h⟩ := h
    wp_walk using wpAny_loadPart' hl
    have hi : items[((i : Nat) : Int).toNat]? = none := by simp; omega
    have hd : (List.range items.size).drop i = [] := by simp; omega
    rw [hd] at h
    rw [hi]
    wp_walk
    exact h
  | succ k ih =>
    intro i hk A R s h
    obtain ⟨hp, g, d, tk, os⟩ := s; obtain ⟨hl, he, h⟩ := h
    wp_walk using wpAny_loadPart' hl
    have hlt : i < items.size := by omega
    have hi : items[((i : Nat) : Int).toNat]? = some items[i] := by simp [hlt]
    have hd : (List.range items.size).drop i = i :: (List.range items.size).drop (i + 1) := by simp [List.drop_eq_getElem_cons, hlt]
    rw [hd, List.any_cons] at h
    rw [hi]
    refine wpAny_bind (he i hlt _ _ ?_)
    cases hb : e i with
    | true =>
      rw [hb] at h
      wp_walk
      exact h
    | false =>
      rw [hb] at h
      have hc : ((i : Int) + 1) = ((i + 1 : Nat) : Int) := by push_cast; rfl
      wp_walk
      rw [hc]
      exact ⟨plainId_quiet plain_contains_loop _, codeAny_builtin entry_contains_loop (by
        rw [Around.under_plainId plain_contains_loop _]
        exact ih (i + 1) (by omega) A R _ ⟨hl, he, by simpa using h⟩)⟩
theorem mt_list_has (l : Addr) (items : Array Value) (n : Nat) (dd : Option Addr) (sl : Array (Option Value)) (x : Value) (e : Nat → Bool) :
    MeetsIn prog w (Builtin.«list.__contains__» ⟨[.ref l, x], []⟩)
      (fun A R s => s.heap.get? l = some { cls := .type "list", dict := dd, data := .seq items n, slots := sl } ∧ (∀ j (h : j < items.size), EqIn prog w A.in1 s items[j] x (e j)) ∧ R (.ok (.ret (.bool ((List.range items.size).any e)))) s) := by
  intro A R s h
  obtain ⟨hp, g, d, tk, os⟩ := s; obtain ⟨hl, he, h⟩ := h
  wp_walk using wpAny_loadPart' hl
  exact ⟨plainId_quiet plain_contains_loop _, codeAny_builtin entry_contains_loop (by
    rw [Around.under_plainId plain_contains_loop _]
    exact mt_has_loopIn l items n dd sl x e _ 0 rfl A R _ ⟨hl, he, by simpa using h⟩)⟩
theorem mt_tuple_has (l : Addr) (items : Array Value) (n : Nat) (dd : Option Addr) (sl : Array (Option Value)) (x : Value) (e : Nat → Bool) :
    MeetsIn prog w (Builtin.«tuple.__contains__» ⟨[.ref l, x], []⟩)
      (fun A R s => s.heap.get? l = some { cls := .type "tuple", dict := dd, data := .seq items n, slots := sl } ∧ (∀ j (h : j < items.size), EqIn prog w A.in1 s items[j] x (e j)) ∧ R (.ok (.ret (.bool ((List.range items.size).any e)))) s) :=
  .of_wp fun A R s h => by
    obtain ⟨hp, g, d, tk, os⟩ := s; obtain ⟨hl, he, h⟩ := h
    wp_walk using wpAny_loadPart' hl, wpAny_forIn_array _ (fun rest b s' => b.1 = none ∧ s' = ⟨hp, g, d, tk, os⟩ ∧ ∃ i, rest = items.toList.drop i ∧ R (.ok (.ret (.bool (((List.range items.size).drop i).any e)))) ⟨hp, g, d, tk, os⟩) _
    case turn =>
      rintro y rest b s' ⟨hb', rfl, i, hz, hR⟩
      have hlt : i < items.size := by
        rcases Nat.lt_or_ge i items.toList.length with h' | h'
        · simpa using h'
        · rw [List.drop_of_length_le h'] at hz; cases hz
      rw [List.drop_eq_getElem_cons (by simpa using hlt)] at hz
      injection hz with hyx hrest
      have hy : y = items[i] := by simpa using hyx
      subst hy
      have hd : (List.range items.size).drop i = i :: (List.range items.size).drop (i + 1) := by simp [List.drop_eq_getElem_cons, hlt]
      rw [hd, List.any_cons] at hR
      refine wpAny_bind (he i hlt _ _ ?_)
      cases hy : e i with
      | true =>
        rw [hy] at hR
        wp_walk
        exact ⟨_, rfl, by simpa using hR⟩
      | false =>
        rw [hy] at hR
        wp_walk
        exact ⟨rfl, rfl, i + 1, hrest, by simpa using hR⟩
    case fin =>
      rintro ⟨b1, b2⟩ s' ⟨hb', rfl, i, hz, hR⟩
      simp only at hb'
      subst hb'
      have hge : items.size ≤ i := by
        rcases Nat.lt_or_ge i items.toList.length with h' | h'
        · rw [List.drop_eq_getElem_cons h'] at hz; cases hz
        · simpa using h'
      rw [List.drop_of_length_le (by simpa using hge)] at hR
      wp_walk
      exact ⟨_, rfl, by simpa using hR⟩
    case h =>
      exact ⟨rfl, rfl, 0, rfl, by simpa using h⟩
theorem mt_in {T id : String} {B : Builtin} {c x : Value} {S : Spec} {A : Around} {E : Value → Shared → Prop} {s : Shared} {Q : Value → Shared → Prop} (hT : s.TypeIs c T) (slot : Slot T "__contains__" id)
    (entry : entryFor table id = some B) (args : argsOk id ⟨[c, x], []⟩) (g : MeetsIn prog w (B ⟨[c, x], []⟩) S) {b : Bool}
    (h : S A (wants (fun v s' => v = .bool b ∧ s' = s) E) s) : (Q (.bool b) s → wpAny (model prog w) A (compareOp .In x c) Q E s) ∧ (Q (.bool (!b)) s → wpAny (model prog w) A (compareOp .NotIn x c) Q E s) := by
  refine ⟨fun hq => ?_, fun hq => ?_⟩
  · show wpAny _ A (do return .bool (← contains c x)) Q E s
    refine wpAny_bind (wpAny_contains_slot hT slot (wpAny_mono (call_meetsIn slot hT entry args g h) (fun v s' hv => ?_) fun _ _ e => e))
    obtain ⟨rfl, rfl⟩ := hv
    exact wpAny_truthy_bool (wpAny_pure hq)
  · show wpAny _ A (do return .bool (!(← contains c x))) Q E s
    refine wpAny_bind (wpAny_contains_slot hT slot (wpAny_mono (call_meetsIn slot hT entry args g h) (fun v s' hv => ?_) fun _ _ e => e))
    obtain ⟨rfl, rfl⟩ := hv
    exact wpAny_truthy_bool (wpAny_pure hq)
/-- x in a list, a tuple, by the items' == -/
theorem mt_in_list {A : Around} {E : Value → Shared → Prop} {s : Shared} {l : Addr} {items : Array Value} {x : Value} (e : Nat → Bool) {Q : Value → Shared → Prop} (hl : s.heap.IsList l items) (he : ∀ j (h : j < items.size), EqIn prog w A.in1 s items[j] x (e j)) :
    (Q (.bool ((List.range items.size).any e)) s → wpAny (model prog w) A (compareOp .In x (.ref l)) Q E s) ∧ (Q (.bool (!(List.range items.size).any e)) s → wpAny (model prog w) A (compareOp .NotIn x (.ref l)) Q E s) := by
  obtain ⟨⟨cls, dd, data, sl⟩, ho, hc, n, hd⟩ := id hl
  simp only at hc hd
  subst hc hd
  exact mt_in (T := "list") (c := .ref l) (s := s) (b := (List.range items.size).any e) ⟨_, ho, rfl⟩ F.slot_list_contains F.entry_list_contains (F.args_list_contains_2 _ _) (mt_list_has l items n dd sl x e) ⟨ho, he, rfl, rfl⟩
theorem mt_in_tuple {A : Around} {E : Value → Shared → Prop} {s : Shared} {l : Addr} {items : Array Value} {x : Value} (e : Nat → Bool) {Q : Value → Shared → Prop} (hl : s.heap.IsTuple l items) (he : ∀ j (h : j < items.size), EqIn prog w A.in1 s items[j] x (e j)) :
    (Q (.bool ((List.range items.size).any e)) s → wpAny (model prog w) A (compareOp .In x (.ref l)) Q E s) ∧ (Q (.bool (!(List.range items.size).any e)) s → wpAny (model prog w) A (compareOp .NotIn x (.ref l)) Q E s) := by
  obtain ⟨⟨cls, dd, data, sl⟩, ho, hc, n, hd⟩ := id hl
  simp only at hc hd
  subst hc hd
  exact mt_in (T := "tuple") (c := .ref l) (s := s) (b := (List.range items.size).any e) ⟨_, ho, rfl⟩ F.slot_tuple_contains F.entry_tuple_contains (F.args_tuple_contains_2 _ _) (mt_tuple_has l items n dd sl x e) ⟨ho, he, rfl, rfl⟩
variable {A : Around} {s : Shared}
theorem mt_rcNe_lists {E : Value → Shared → Prop} {l b : Addr} {items items2 : Array Value} {e : Nat → Bool} {Q : Value → Shared → Prop} (hl : s.heap.IsList l items) (hb : s.heap.IsList b items2) (hsz : items.size = items2.size) (hu : A.units < cLine)
    (he : ∀ j (h1 : j < items.size) (h2 : j < items2.size), EqIn prog w A.in1 s items[j] items2[j] (e j)) (h : Q (.bool (!(List.range items.size).all e)) s) : wpAny (model prog w) A (richCompare .NotEq (.ref l) (.ref b)) Q E s := by
  obtain ⟨⟨cls, dd, data, sl⟩, ho, hc, n, hd⟩ := id hl
  obtain ⟨⟨cls2, dd2, data2, sl2⟩, ho2, hc2, n2, hd2⟩ := id hb
  simp only at hc hd hc2 hd2
  subst hc hd hc2 hd2
  exact wpAny_richCompare_same_room (T := "list") (op := .NotEq) ⟨_, ho, rfl⟩ ⟨_, ho2, rfl⟩ F.slot_list_ne (call_meetsIn F.slot_list_ne ⟨_, ho, rfl⟩ F.entry_list_ne (F.args_list_ne_2 _ _) (mt_list_neIn l b items items2 n n2 dd dd2 sl sl2 hsz e)
    ⟨ho, ho2, he, show Value.bool (!(List.range items.size).all e) ≠ Value.notImplemented ∧ Q (.bool (!(List.range items.size).all e)) s from ⟨(fun x => nomatch x), h⟩⟩) hu
theorem mt_rcNe_tuples {E : Value → Shared → Prop} {l b : Addr} {items items2 : Array Value} {e : Nat → Bool} {Q : Value → Shared → Prop} (hl : s.heap.IsTuple l items) (hb : s.heap.IsTuple b items2) (hu : A.units < cLine)
    (he : ∀ j (h1 : j < items.size) (h2 : j < items2.size), EqIn prog w A.in1 s items[j] items2[j] (e j)) (h : Q (.bool (!((List.range (min items.size items2.size)).all e && items.size == items2.size))) s) :
    wpAny (model prog w) A (richCompare .NotEq (.ref l) (.ref b)) Q E s := by
  obtain ⟨⟨cls, dd, data, sl⟩, ho, hc, n, hd⟩ := id hl
  obtain ⟨⟨cls2, dd2, data2, sl2⟩, ho2, hc2, n2, hd2⟩ := id hb
  simp only at hc hd hc2 hd2
  subst hc hd hc2 hd2
  exact wpAny_richCompare_same_room (T := "tuple") (op := .NotEq) ⟨_, ho, rfl⟩ ⟨_, ho2, rfl⟩ F.slot_tuple_ne (call_meetsIn F.slot_tuple_ne ⟨_, ho, rfl⟩ F.entry_tuple_ne (F.args_tuple_ne_2 _ _) (mt_tuple_neIn l b items items2 n n2 dd dd2 sl sl2 e)
    ⟨ho, ho2, he, show Value.bool (!((List.range (min items.size items2.size)).all e && items.size == items2.size)) ≠ Value.notImplemented ∧ Q (.bool (!((List.range (min items.size items2.size)).all e && items.size == items2.size))) s from ⟨(fun x => nomatch x), h⟩⟩) hu
end
end PySem.SeqAt
namespace PySem.W
open Lean Elab Tactic Meta PySem PySem.Calls PyProof.Rows PyProof.V PySem.Spec
section
variable {prog : Program} {w : World} {K : Type} [DecidableEq K] {knd : KeyKind prog w K} {A : Around} {E : Value → Shared → Prop} {s : Shared}
theorem mt_neIn {a b : Addr} {ka kb : List (K × Value)} {r : Bool} {Q : Value → Shared → Prop} (ha : (a == sysModules) = false) (hb : (b == sysModules) = false)
    (da : s.heap.DictOf knd a ka) (db : s.heap.DictOf knd b kb) (hu : A.units < cLine) (hits : ka.length = kb.length → KeqHitsIn prog w A.in1 s kb ka r) (h : Q (.bool (!(ka.length == kb.length && r))) s) :
    wpAny (model prog w) A (compareOp .NotEq (.ref a) (.ref b)) Q E s := by
  refine wpAny_richCompare_same_room (op := .NotEq) da.typeIs db.typeIs PySem.F.slot_dict_ne (wpAny_call_entry PySem.F.slot_dict_ne da.typeIs PySem.F.entry_dict_ne ?_ (PySem.F.args_dict_ne_2 _ _)) hu
  show wpAny _ _ (Builtin.Dict.dictSlotArgs "__ne__" ⟨[.ref a, .ref b], []⟩ >>= _) _ _ s
  refine wpAny_bind ?_
  unfold Builtin.Dict.dictSlotArgs
  refine wpAny_bind (wpAny_notOrdered_dict da.typeIs ?_)
  show wpAny _ _ (pure (Value.ref a, Value.ref b)) _ _ s
  refine wpAny_pure ?_
  refine wpAny_bind (wpAny_isInstance (T := "dict") db.typeIs PySem.F.sub_dict_dict ?_)
  simp only [Bool.not_true, Bool.false_eq_true, if_false]
  refine wpAny_bind (wpAny_pure (wpAny_bind (wpAny_pure ?_)))
  refine wpAny_bind (keq_samePairsIn ha hb da db hits ?_)
  refine wpAny_pure ⟨_, rfl, ?_, ?_⟩
  · exact fun x => nomatch x
  · simpa using h
end
end PySem.W
namespace MT
open PySem PySem.Spec PyProof.Rows L2
/-- data: what a value comes to, without addresses -/
inductive D where
  | non | bl (b : Bool) | int (i : Int) | str (x : Str)
  | scr (ns : List Int)
  | lst (xs : List D) | tup (xs : List D)
  | dK (kvs : List (Key × D)) | dT (kvs : List (List Key × D))
  | obj (c : Nat) (fs : List (Nat × D))
  | rf (n : Nat)
  | exn (c : Nat) (fs : List (Nat × D))
/-- a caught exception's object -/
def exz (a : Addr) (oe : Obj) : HO := .ext fun h => h.get? a = some oe
/-- the classes' places, the fields' names -/
structure Nm where
  K : PySem.W.Frag
  ca : Nat → Addr
  fn : Nat → Str
  F0 : Hp := fun _ => none
/-- the script's list -/
def SqS (K : PySem.W.Frag) (F : Hp) (a : Addr) (ns : List Int) : Prop := (∃ o, F a = some (.frz o (.lst (ns.map V.int)))) ∨ ∀ H : Hp, SqL K H a (ns.map V.int)
section
variable (nm : Nm) (F : Hp)
mutual
/-- v stands for d, by what stands in F -/
inductive Rep : V → D → Prop
  | non : Rep .non .non
  | bl {b} : Rep (.bl b) (.bl b)
  | int {i} : Rep (.int i) (.int i)
  | str {x} : Rep (.str x) (.str x)
  | scr {a ns} : SqS nm.K F a ns → Rep (.ref a) (.scr ns)
  | lst {a vs ds} : F a = some (.lst vs) → RepL vs ds → Rep (.ref a) (.lst ds)
  | tup {a vs ds} : F a = some (.tup vs) → RepL vs ds → Rep (.ref a) (.tup ds)
  | dK {a kvs kds} : F a = some (.dK kvs) → kvs.map (·.1) = kds.map (·.1) → RepL (kvs.map (·.2)) (kds.map (·.2)) → Rep (.ref a) (.dK kds)
  | dT {a kvs kds} : F a = some (.dT kvs) → kvs.map (·.1) = kds.map (·.1) → RepL (kvs.map (·.2)) (kds.map (·.2)) → Rep (.ref a) (.dT kds)
  | obj {a dx c fvs fds} : F a = some (.ins (nm.ca c) dx fvs) → fvs.map (·.1) = fds.map (fun p => nm.fn p.1) → RepL (fvs.map (·.2)) (fds.map (·.2)) → Rep (.ref a) (.obj c fds)
  | rf {a n} : F a = some (.own n) → Rep (.ref a) (.rf n)
  | exn0 {a oe c} : F a = some (exz a oe) → oe.cls = .ref (nm.ca c) → (∃ vs, oe.data = .fields vs) → oe.dict = none → Rep (.ref a) (.exn c [])
  | exnD {a oe c dd fvs fds} : F a = some (exz a oe) → oe.cls = .ref (nm.ca c) → (∃ vs, oe.data = .fields vs) → oe.dict = some dd → F dd = some (.xd fvs) → fvs.map (·.1) = fds.map (fun p => nm.fn p.1) → RepL (fvs.map (·.2)) (fds.map (·.2)) → Rep (.ref a) (.exn c fds)
inductive RepL : List V → List D → Prop
  | nil : RepL [] []
  | cons {v d vs ds} : Rep v d → RepL vs ds → RepL (v :: vs) (d :: ds)
end
end
/-- F marks a cell's place: .own n, the n-th -/
def Mrk (F : Hp) (a : Addr) : Prop := ∃ n, F a = some (.own n)
/-- F tells no more than H does; dicts may be locked in H; of a cell F tells its number alone -/
def LeO (o : HO) (x : Option HO) : Prop := x = some o ∨ (((∃ kvs, o = .dK kvs) ∨ ∃ kvs, o = .dT kvs) ∧ ∃ ob, x = some (.frz ob o)) ∨ ((∃ n, o = .own n) ∧ x ≠ none)
def Le (F H : Hp) : Prop := ∀ a o, F a = some o → LeO o (H a)
def Sub (F F' : Hp) : Prop := ∀ a o, F a = some o → F' a = some o
theorem Sub.refl (F : Hp) : Sub F F := fun _ _ h => h
theorem Sub.trans {F F1 F2 : Hp} (a : Sub F F1) (b : Sub F1 F2) : Sub F F2 := fun x o h => b x o (a x o h)
theorem LeO.ne {o x} (h : LeO o x) : x ≠ none := by
  rcases h with h | ⟨_, ob, h⟩ | ⟨_, h⟩
  · rw [h]; exact fun z => nomatch z
  · rw [h]; exact fun z => nomatch z
  · exact h
theorem Le.rdK {F H : Hp} (l : Le F H) {a kvs} (h : F a = some (.dK kvs)) : Rd H a (.dK kvs) := by
  rcases l a _ h with q | ⟨_, ob, q⟩ | ⟨⟨_, q⟩, _⟩
  · exact .inl q
  · exact .inr ⟨ob, q⟩
  · cases q
theorem Le.rdT {F H : Hp} (l : Le F H) {a kvs} (h : F a = some (.dT kvs)) : Rd H a (.dT kvs) := by
  rcases l a _ h with q | ⟨_, ob, q⟩ | ⟨⟨_, q⟩, _⟩
  · exact .inl q
  · exact .inr ⟨ob, q⟩
  · cases q
theorem Le.lst {F H : Hp} (l : Le F H) {a vs} (h : F a = some (.lst vs)) : H a = some (.lst vs) := by
  rcases l a _ h with q | ⟨(⟨_, q⟩ | ⟨_, q⟩), _⟩ | ⟨⟨_, q⟩, _⟩
  · exact q
  · cases q
  · cases q
  · cases q
theorem Le.tup {F H : Hp} (l : Le F H) {a vs} (h : F a = some (.tup vs)) : H a = some (.tup vs) := by
  rcases l a _ h with q | ⟨(⟨_, q⟩ | ⟨_, q⟩), _⟩ | ⟨⟨_, q⟩, _⟩
  · exact q
  · cases q
  · cases q
  · cases q
theorem Le.ins {F H : Hp} (l : Le F H) {a C dx fs} (h : F a = some (.ins C dx fs)) : H a = some (.ins C dx fs) := by
  rcases l a _ h with q | ⟨(⟨_, q⟩ | ⟨_, q⟩), _⟩ | ⟨⟨_, q⟩, _⟩
  · exact q
  · cases q
  · cases q
  · cases q
theorem Le.scr {F H : Hp} (l : Le F H) {a o vs} (h : F a = some (.frz o (.lst vs))) : H a = some (.frz o (.lst vs)) := by
  rcases l a _ h with q | ⟨(⟨_, q⟩ | ⟨_, q⟩), _⟩ | ⟨⟨_, q⟩, _⟩
  · exact q
  · cases q
  · cases q
  · cases q
theorem Le.exz {F H : Hp} (l : Le F H) {a b oe} (h : F a = some (exz b oe)) : H a = some (MT.exz b oe) := by
  rcases l a _ h with q | ⟨(⟨_, q⟩ | ⟨_, q⟩), _⟩ | ⟨⟨_, q⟩, _⟩
  · exact q
  · have q : HO.ext _ = HO.dK _ := q; cases q
  · have q : HO.ext _ = HO.dT _ := q; cases q
  · have q : HO.ext _ = HO.own _ := q; cases q
theorem Le.xd {F H : Hp} (l : Le F H) {a fs} (h : F a = some (.xd fs)) : H a = some (.xd fs) := by
  rcases l a _ h with q | ⟨(⟨_, q⟩ | ⟨_, q⟩), _⟩ | ⟨⟨_, q⟩, _⟩
  · exact q
  · cases q
  · cases q
  · cases q
theorem SqS.mono {K : PySem.W.Frag} {F F' : Hp} {a : Addr} {ns : List Int} (h : SqS K F a ns) (s : Sub F F') : SqS K F' a ns := h.imp (fun ⟨o, e⟩ => ⟨o, s _ _ e⟩) id
theorem SqS.sq {K : PySem.W.Frag} {F H : Hp} {a : Addr} {ns : List Int} (h : SqS K F a ns) (l : Le F H) : SqL K H a (ns.map V.int) := by
  rcases h with ⟨o, e⟩ | h
  · exact .inl (.inr ⟨_, l.scr e⟩)
  · exact h H
section
variable {nm : Nm} {F F' H H' : Hp}
mutual
theorem Rep.mono (s : Sub F F') {v : V} {d : D} : Rep nm F v d → Rep nm F' v d
  | .non => .non
  | .bl => .bl
  | .int => .int
  | .str => .str
  | .scr h => .scr (h.mono s)
  | .lst h r => .lst (s _ _ h) (RepL.mono s r)
  | .tup h r => .tup (s _ _ h) (RepL.mono s r)
  | .dK h k r => .dK (s _ _ h) k (RepL.mono s r)
  | .dT h k r => .dT (s _ _ h) k (RepL.mono s r)
  | .obj h k r => .obj (s _ _ h) k (RepL.mono s r)
  | .rf h => .rf (s _ _ h)
  | .exn0 h k d e => .exn0 (s _ _ h) k d e
  | .exnD h k d e f g r => .exnD (s _ _ h) k d e (s _ _ f) g (RepL.mono s r)
theorem RepL.mono (s : Sub F F') {vs : List V} {ds : List D} : RepL nm F vs ds → RepL nm F' vs ds
  | .nil => .nil
  | .cons r t => .cons (Rep.mono s r) (RepL.mono s t)
end
theorem RepL.length {vs : List V} {ds : List D} (r : RepL nm F vs ds) : vs.length = ds.length := by
  induction ds generalizing vs with
  | nil => cases r; rfl
  | cons d ds ih => cases r with | cons _ t => simp [ih t]
theorem RepL.append {vs ws : List V} {ds es : List D} (r : RepL nm F vs ds) (q : RepL nm F ws es) : RepL nm F (vs ++ ws) (ds ++ es) := by
  induction ds generalizing vs with
  | nil => cases r; exact q
  | cons d ds ih => cases r with | cons h t => exact .cons h (ih t)
theorem RepL.rep {vs : List V} {ds : List D} (r : RepL nm F vs ds) : ∀ k : Nat, RepL nm F (List.replicate k vs).flatten (List.replicate k ds).flatten
  | 0 => .nil
  | k + 1 => by
    rw [List.replicate_succ, List.replicate_succ, List.flatten_cons, List.flatten_cons]
    exact r.append (RepL.rep r k)
theorem RepL.get {vs : List V} {ds : List D} (r : RepL nm F vs ds) {i : Nat} {d : D} (h : ds[i]? = some d) : ∃ v, vs[i]? = some v ∧ Rep nm F v d := by
  induction ds generalizing vs i with
  | nil => simp at h
  | cons e ds ih =>
    cases r with
    | cons h1 t =>
      cases i with
      | zero => simp at h; subst h; exact ⟨_, rfl, h1⟩
      | succ i => simpa using ih t (by simpa using h)
theorem RepL.getV {vs : List V} {ds : List D} (r : RepL nm F vs ds) {i : Nat} {v : V} (h : vs[i]? = some v) : ∃ d, ds[i]? = some d ∧ Rep nm F v d := by
  induction ds generalizing vs i with
  | nil => cases r; simp at h
  | cons e ds ih =>
    cases r with
    | cons h1 t =>
      cases i with
      | zero => simp at h; subst h; exact ⟨_, rfl, h1⟩
      | succ i => simpa using ih t (by simpa using h)
theorem RepL.take {vs : List V} {ds : List D} (r : RepL nm F vs ds) (n : Nat) : RepL nm F (vs.take n) (ds.take n) := by
  induction ds generalizing vs n with
  | nil => cases r; simp; exact .nil
  | cons e ds ih =>
    cases r with
    | cons h1 t =>
      cases n with
      | zero => exact .nil
      | succ n => exact .cons h1 (ih t n)
theorem RepL.drop {vs : List V} {ds : List D} (r : RepL nm F vs ds) (n : Nat) : RepL nm F (vs.drop n) (ds.drop n) := by
  induction ds generalizing vs n with
  | nil => cases r; simp; exact .nil
  | cons e ds ih =>
    cases r with
    | cons h1 t =>
      cases n with
      | zero => exact .cons h1 t
      | succ n => exact ih t n
theorem RepL.set {vs : List V} {ds : List D} (r : RepL nm F vs ds) {v : V} {d : D} (q : Rep nm F v d) (n : Nat) : RepL nm F (vs.set n v) (ds.set n d) := by
  induction ds generalizing vs n with
  | nil => cases r; simp; exact .nil
  | cons e ds ih =>
    cases r with
    | cons h1 t =>
      cases n with
      | zero => exact .cons q t
      | succ n => exact .cons h1 (ih t n)
theorem RepL.eraseIdx {vs : List V} {ds : List D} (r : RepL nm F vs ds) (n : Nat) : RepL nm F (vs.eraseIdx n) (ds.eraseIdx n) := by
  induction ds generalizing vs n with
  | nil => cases r; simp; exact .nil
  | cons e ds ih =>
    cases r with
    | cons h1 t =>
      cases n with
      | zero => exact t
      | succ n => exact .cons h1 (ih t n)
theorem RepL.dropLast {vs : List V} {ds : List D} (r : RepL nm F vs ds) : RepL nm F vs.dropLast ds.dropLast := by
  rw [List.dropLast_eq_take, List.dropLast_eq_take, r.length]
  exact r.take _
theorem RepL.reverse {vs : List V} {ds : List D} (r : RepL nm F vs ds) : RepL nm F vs.reverse ds.reverse := by
  induction ds generalizing vs with
  | nil => cases r; exact .nil
  | cons e ds ih =>
    cases r with
    | cons h1 t => simp only [List.reverse_cons]; exact (ih t).append (.cons h1 .nil)
/-- a list of ints, of texts, of truths -/
theorem RepL.ints : ∀ {vs : List V} {ns : List Int}, RepL nm F vs (ns.map D.int) → vs = ns.map V.int := by
  intro vs ns r
  induction ns generalizing vs with
  | nil => cases r; rfl
  | cons n ns ih => cases r with | cons h t => cases h; simp [ih t]
theorem RepL.strs : ∀ {vs : List V} {ns : List Str}, RepL nm F vs (ns.map D.str) → vs = ns.map V.str := by
  intro vs ns r
  induction ns generalizing vs with
  | nil => cases r; rfl
  | cons n ns ih => cases r with | cons h t => cases h; simp [ih t]
theorem RepL.bls : ∀ {vs : List V} {ns : List Bool}, RepL nm F vs (ns.map D.bl) → vs = ns.map V.bl := by
  intro vs ns r
  induction ns generalizing vs with
  | nil => cases r; rfl
  | cons n ns ih => cases r with | cons h t => cases h; simp [ih t]
theorem RepL.of_ints (ns : List Int) : RepL nm F (ns.map V.int) (ns.map D.int) := by
  induction ns with
  | nil => exact .nil
  | cons n ns ih => exact .cons .int ih
theorem RepL.of_strs (ns : List Str) : RepL nm F (ns.map V.str) (ns.map D.str) := by
  induction ns with
  | nil => exact .nil
  | cons n ns ih => exact .cons .str ih
end
/-- nothing stands there, or a tuple -/
def Nw (H : Hp) (a : Addr) : Prop := H a = none ∨ ∃ xs, H a = some (.tup xs)
theorem Nw.of {H : Hp} {a : Addr} (h : H a = none) : Nw H a := .inl h
section
variable (nm : Nm) (F H : Hp)
/-- what stands at a is as d says, its parts by F -/
def At (a : Addr) : D → Prop
  | .lst ds => ∃ vs, H a = some (.lst vs) ∧ RepL nm F vs ds
  | .dK kds => ∃ kvs, H a = some (.dK kvs) ∧ kvs.map (·.1) = kds.map (·.1) ∧ RepL nm F (kvs.map (·.2)) (kds.map (·.2))
  | .dT kds => ∃ kvs, H a = some (.dT kvs) ∧ kvs.map (·.1) = kds.map (·.1) ∧ RepL nm F (kvs.map (·.2)) (kds.map (·.2))
  | .obj c fds => ∃ dx fvs, H a = some (.ins (nm.ca c) dx fvs) ∧ fvs.map (·.1) = fds.map (fun p => nm.fn p.1) ∧ RepL nm F (fvs.map (·.2)) (fds.map (·.2))
  | _ => False
def Own (v : V) (d : D) : Prop := ∃ a, v = .ref a ∧ F a = none ∧ At nm F H a d
end
structure Val where
  d : D
  own : Bool
/-- a value's data -/
def ValR (nm : Nm) (F H : Hp) (v : V) (x : Val) : Prop := if x.own = true then Own nm F H v x.d else Rep nm F v x.d
/-- read data: as it stands at its place, or by F -/
def DataR (nm : Nm) (F H : Hp) (v : V) (d : D) : Prop := (∃ a, v = .ref a ∧ At nm F H a d) ∨ Rep nm F v d
section
variable {nm : Nm} {F F' H H' : Hp} {v : V} {d : D} {x : Val} {a : Addr}
theorem ValR.data (h : ValR nm F H v x) : DataR nm F H v x.d := by
  unfold ValR at h
  split at h
  · obtain ⟨a, e, _, q⟩ := h; exact .inl ⟨a, e, q⟩
  · exact .inr h
theorem ValR.rep {d : D} (h : ValR nm F H v ⟨d, false⟩) : Rep nm F v d := h
theorem ValR.ownR {d : D} (h : ValR nm F H v ⟨d, true⟩) : Own nm F H v d := h
theorem ValR.of_rep (h : Rep nm F v d) : ValR nm F H v ⟨d, false⟩ := h
theorem ValR.of_own (h : Own nm F H v d) : ValR nm F H v ⟨d, true⟩ := h
theorem At.some (h : At nm F H a d) : ∃ o, H a = some o := by
  cases d with
  | lst _ => obtain ⟨_, h, _⟩ := h; exact ⟨_, h⟩
  | dK _ => obtain ⟨_, h, _⟩ := h; exact ⟨_, h⟩
  | dT _ => obtain ⟨_, h, _⟩ := h; exact ⟨_, h⟩
  | obj _ _ => obtain ⟨_, _, h, _⟩ := h; exact ⟨_, h⟩
  | _ => exact h.elim
theorem Nw.not {H : Hp} {a : Addr} {o : HO} (h : H a = some o) (n : ∀ xs, o ≠ .tup xs) : ¬ Nw H a := fun z => by
  rcases z with z | ⟨xs, z⟩
  · rw [h] at z; cases z
  · rw [h] at z; cases z; exact n xs rfl
theorem At.nw (h : At nm F H a d) : ¬ Nw H a := by
  cases d with
  | lst _ => obtain ⟨_, h, _⟩ := h; exact Nw.not h fun _ z => nomatch z
  | dK _ => obtain ⟨_, h, _⟩ := h; exact Nw.not h fun _ z => nomatch z
  | dT _ => obtain ⟨_, h, _⟩ := h; exact Nw.not h fun _ z => nomatch z
  | obj _ _ => obtain ⟨_, _, h, _⟩ := h; exact Nw.not h fun _ z => nomatch z
  | _ => exact h.elim
theorem At.mono (h : At nm F H a d) (s : Sub F F') (k : H' a = H a) : At nm F' H' a d := by
  cases d with
  | lst _ => obtain ⟨_, h, r⟩ := h; exact ⟨_, by rw [k]; exact h, r.mono s⟩
  | dK _ => obtain ⟨_, h, q, r⟩ := h; exact ⟨_, by rw [k]; exact h, q, r.mono s⟩
  | dT _ => obtain ⟨_, h, q, r⟩ := h; exact ⟨_, by rw [k]; exact h, q, r.mono s⟩
  | obj _ _ => obtain ⟨_, _, h, q, r⟩ := h; exact ⟨_, _, by rw [k]; exact h, q, r.mono s⟩
  | _ => exact h.elim
/-- it becomes one that others may hold -/
theorem Own.share (h : Own nm F H v d) (l : Le F H) : ∃ a o, v = .ref a ∧ F a = none ∧ H a = some o ∧ Rep nm (upd F a o) v d ∧ Sub F (upd F a o) ∧ Le (upd F a o) H ∧ ∀ k, o ≠ .own k := by
  obtain ⟨a, rfl, n, h⟩ := h
  obtain ⟨o, e⟩ := h.some
  have s : Sub F (upd F a o) := fun b u q => by rw [upd_ne (ne_of_none q n)]; exact q
  refine ⟨a, o, rfl, n, e, ?_, s, fun b u q => ?_, fun k z => ?_⟩
  · cases d with
    | lst _ => obtain ⟨_, h, r⟩ := h; rw [e] at h; cases h; exact .lst upd_same (r.mono s)
    | dK _ => obtain ⟨_, h, k, r⟩ := h; rw [e] at h; cases h; exact .dK upd_same k (r.mono s)
    | dT _ => obtain ⟨_, h, k, r⟩ := h; rw [e] at h; cases h; exact .dT upd_same k (r.mono s)
    | obj _ _ => obtain ⟨_, _, h, k, r⟩ := h; rw [e] at h; cases h; exact .obj upd_same k (r.mono s)
    | _ => exact h.elim
  · by_cases hb : b = a
    · subst hb; rw [upd_same] at q; cases q; exact .inl e
    · rw [upd_ne hb] at q; exact l b u q
  · subst z
    cases d with
    | lst _ => obtain ⟨_, h, _⟩ := h; rw [e] at h; cases h
    | dK _ => obtain ⟨_, h, _⟩ := h; rw [e] at h; cases h
    | dT _ => obtain ⟨_, h, _⟩ := h; rw [e] at h; cases h
    | obj _ _ => obtain ⟨_, _, h, _⟩ := h; rw [e] at h; cases h
    | _ => exact h.elim
end
abbrev AS := Addr → Prop
structure Step (S : AS) (F H : Hp) (S' : AS) (F' H' : Hp) : Prop where
  sub : Sub F F'
  new : ∀ a, F' a ≠ none → F a ≠ none ∨ Nw H a ∨ S a
  keep : ∀ a o, H a = some o → ¬ S a → ¬ Mrk F a → H' a = some o
  les : ∀ a, S' a → S a ∨ H a = none
  there : ∀ a, H' a = none → H a = none
  mrk : ∀ a, Mrk F' a → Mrk F a ∨ H a = none ∨ S a
theorem Mrk.mono {F F' : Hp} {a : Addr} (h : Mrk F a) (s : Sub F F') : Mrk F' a := h.imp fun _ e => s _ _ e
theorem Step.refl {S : AS} {F H : Hp} : Step S F H S F H := ⟨Sub.refl _, fun _ h => .inl h, fun _ _ h _ _ => h, fun _ h => .inl h, fun _ h => h, fun _ h => .inl h⟩
/-- where marks come from -/
theorem mrk_of {S : AS} {F F' H : Hp} (sub : Sub F F') (new : ∀ a, F' a ≠ none → F a ≠ none ∨ H a = none ∨ S a) : ∀ a, Mrk F' a → Mrk F a ∨ H a = none ∨ S a := fun a ⟨k, h⟩ => by
  rcases new a (by rw [h]; exact fun z => nomatch z) with z | z
  · cases e : F a with
    | none => exact absurd e z
    | some u =>
      have := sub a u e
      rw [h] at this; cases this
      exact .inl ⟨k, e⟩
  · exact .inr z
theorem Step.mk5 {S S' : AS} {F H F' H' : Hp} (sub : Sub F F') (new : ∀ a, F' a ≠ none → F a ≠ none ∨ H a = none ∨ S a) (keep : ∀ a o, H a = some o → ¬ S a → ¬ Mrk F a → H' a = some o) (les : ∀ a, S' a → S a ∨ H a = none) (there : ∀ a, H' a = none → H a = none) : Step S F H S' F' H' :=
  ⟨sub, fun a h => (new a h).imp id (.imp .inl id), keep, les, there, mrk_of sub new⟩
theorem Step.more {S S1 S2 : AS} {F H F1 H1 F2 : Hp} (s : Step S F H S1 F1 H1) (sb : Sub F1 F2) (n : ∀ b, F2 b ≠ none → F1 b ≠ none ∨ S1 b ∨ H b = none) (ow : ∀ a, S2 a → S1 a) : Step S F H S2 F2 H1 := by
  refine ⟨s.sub.trans sb, fun b hb => ?_, s.keep, fun a ha => s.les a (ow a ha), s.there, fun b hb => ?_⟩
  · rcases n b hb with z | z | z
    · exact s.new b z
    · rcases s.les b z with z | z
      · exact .inr (.inr z)
      · exact .inr (.inl (.inl z))
    · exact .inr (.inl (.inl z))
  · rcases mrk_of (S := S1) (H := H) sb (fun b hb => (n b hb).imp id Or.symm) b hb with z | z | z
    · exact s.mrk b z
    · exact .inr (.inl z)
    · rcases s.les b z with z | z
      · exact .inr (.inr z)
      · exact .inr (.inl z)
/-- a thing that stood and is not its owner's does not become a cell -/
theorem Step.nomrk {S S' : AS} {F H F' H' : Hp} (s : Step S F H S' F' H') {a : Addr} {o : HO} (h : H a = some o) (ns : ¬ S a) (nm : ¬ Mrk F a) : ¬ Mrk F' a := fun q => by
  rcases s.mrk a q with z | z | z
  · exact nm z
  · rw [h] at z; cases z
  · exact ns z
theorem Step.trans {S S1 S2 : AS} {F H F1 H1 F2 H2 : Hp} (a : Step S F H S1 F1 H1) (b : Step S1 F1 H1 S2 F2 H2) : Step S F H S2 F2 H2 := by
  refine ⟨a.sub.trans b.sub, fun x h => ?_, fun x o h ns nm => ?_, fun x h => ?_, fun x h => a.there x (b.there x h), fun x h => ?_⟩
  · rcases b.new x h with q | q | q
    · exact a.new x q
    · rcases q with q | ⟨ws, q⟩
      · exact .inr (.inl (.inl (a.there x q)))
      · by_cases s : S x
        · exact .inr (.inr s)
        · by_cases m : Mrk F x
          · obtain ⟨k, m⟩ := m
            exact .inl (by rw [m]; exact fun z => nomatch z)
          · cases e : H x with
            | none => exact .inr (.inl (.inl e))
            | some o =>
              have := a.keep x o e s m
              rw [q] at this; cases this
              exact .inr (.inl (.inr ⟨ws, e⟩))
    · rcases a.les x q with q | q
      · exact .inr (.inr q)
      · exact .inr (.inl (.inl q))
  · refine b.keep x o (a.keep x o h ns nm) (fun q => ?_) (a.nomrk h ns nm)
    rcases a.les x q with q | q
    · exact ns q
    · rw [h] at q; cases q
  · rcases b.les x h with q | q
    · exact a.les x q
    · exact .inr (a.there x q)
  · rcases b.mrk x h with q | q | q
    · exact a.mrk x q
    · exact .inr (.inl (a.there x q))
    · rcases a.les x q with q | q
      · exact .inr (.inr q)
      · exact .inr (.inl q)
/-- a step that changes nothing that stood -/
structure Ext (F H F' H' : Hp) : Prop where
  le : Le F' H'
  step : Step (fun _ => False) F H (fun _ => False) F' H'
  all : ∀ a o, H a = some o → H' a = some o
  mrk : ∀ a, Mrk F' a → Mrk F a
theorem Step.wk {S S' : AS} {F H F' H' : Hp} (e : Step (fun _ => False) F H (fun _ => False) F' H') (l : ∀ a, S' a → S a) : Step S F H S' F' H' :=
  ⟨e.sub, fun a h => (e.new a h).imp id (.imp id False.elim), fun a o h _ => e.keep a o h id, fun a h => .inl (l a h), e.there, fun a h => (e.mrk a h).imp id (.imp id False.elim)⟩
theorem Ext.refl {F H : Hp} (l : Le F H) : Ext F H F H := ⟨l, Step.refl, fun _ _ h => h, fun _ h => h⟩
theorem Ext.trans {F H F1 H1 F2 H2 : Hp} (a : Ext F H F1 H1) (b : Ext F1 H1 F2 H2) : Ext F H F2 H2 := ⟨b.le, a.step.trans b.step, fun x o h => b.all x o (a.all x o h), fun x h => a.mrk x (b.mrk x h)⟩
/-- a new thing in H alone -/
theorem Ext.own {F H : Hp} (l : Le F H) {p : Addr} {o : HO} (n : H p = none) : Ext F H F (upd H p o) ∧ F p = none := by
  have fp : F p = none := by
    cases e : F p with
    | none => rfl
    | some u => exact absurd n (l p u e).ne
  have al : ∀ a u, H a = some u → upd H p o a = some u := fun a u h => by rw [upd_ne (ne_of_none h n)]; exact h
  refine ⟨⟨fun a u h => ?_, ⟨Sub.refl _, fun a h => .inl h, fun a u h _ _ => al a u h, fun a h => h.elim, fun a h => ?_, fun a h => .inl h⟩, al, fun _ h => h⟩, fp⟩
  · rw [upd_ne (ne_of_none h fp)]
    exact l a u h
  · cases e : H a with
    | none => rfl
    | some u => rw [al a u e] at h; cases h
/-- a new thing in both -/
theorem Ext.shr {F H : Hp} (l : Le F H) {p : Addr} {o : HO} (n : H p = none) (no : ∀ k, o ≠ .own k) : Ext F H (upd F p o) (upd H p o) ∧ Sub F (upd F p o) := by
  obtain ⟨x, fp⟩ := Ext.own (o := o) l n
  have s : Sub F (upd F p o) := fun b u q => by rw [upd_ne (ne_of_none q fp)]; exact q
  have mk : ∀ a, Mrk (upd F p o) a → Mrk F a := fun a ⟨k, h⟩ => by
    by_cases ha : a = p
    · subst ha; rw [upd_same] at h; exact absurd (Option.some.inj h) (no k)
    · rw [upd_ne ha] at h; exact ⟨k, h⟩
  refine ⟨⟨fun a u h => ?_, ⟨s, fun a h => ?_, x.step.keep, fun a h => h.elim, x.step.there, fun a h => .inl (mk a h)⟩, x.all, mk⟩, s⟩
  · by_cases ha : a = p
    · subst ha; rw [upd_same] at h ⊢; exact .inl h
    · rw [upd_ne ha] at h; exact x.le a u h
  · by_cases ha : a = p
    · subst ha; exact .inr (.inl (.inl n))
    · rw [upd_ne ha] at h; exact .inl h
section
variable {nm : Nm} {F F' H H' : Hp} {v : V} {d : D} {x : Val} {S S' : AS}
theorem Own.step (h : Own nm F H v d) (e : Step S F H S' F' H') (ns : ∀ a, v = .ref a → ¬ S a) : Own nm F' H' v d := by
  obtain ⟨a, rfl, n, h⟩ := h
  obtain ⟨o, q⟩ := h.some
  refine ⟨a, rfl, ?_, h.mono e.sub (by rw [q]; exact e.keep a o q (ns a rfl) fun ⟨k, z⟩ => by rw [n] at z; cases z)⟩
  cases f : F' a with
  | none => rfl
  | some u =>
    rcases e.new a (by rw [f]; exact fun z => nomatch z) with z | z | z
    · exact absurd n z
    · exact absurd z h.nw
    · exact absurd z (ns a rfl)
theorem At.ext {a : Addr} (h : At nm F H a d) (e : Ext F H F' H') : At nm F' H' a d := by
  obtain ⟨o, q⟩ := h.some
  exact h.mono e.step.sub (by rw [q]; exact e.all a o q)
theorem DataR.ext (h : DataR nm F H v d) (e : Ext F H F' H') : DataR nm F' H' v d := h.imp (fun ⟨a, q, h⟩ => ⟨a, q, h.ext e⟩) fun h => h.mono e.step.sub
theorem ValR.step (h : ValR nm F H v x) (e : Step S F H S' F' H') (ns : x.own = true → ∀ a, v = .ref a → ¬ S a) : ValR nm F' H' v x := by
  unfold ValR at h ⊢
  split
  · rename_i t; rw [if_pos t] at h; exact h.step e (ns t)
  · rename_i t; rw [if_neg t] at h; exact h.mono e.sub
structure CelR (nm : Nm) (F H : Hp) (st : List D) : Prop where
  at_ : ∀ n d, st[n]? = some d → ∃ a, F a = some (.own n) ∧ At nm F H a d
  lt : ∀ a n, F a = some (.own n) → n < st.length
  inj : ∀ a b n, F a = some (.own n) → F b = some (.own n) → a = b
theorem CelR.ext {st : List D} (C : CelR nm F H st) (e : Ext F H F' H') : CelR nm F' H' st := by
  have back : ∀ a n, F' a = some (.own n) → F a = some (.own n) := fun a n h => by
    obtain ⟨k, q⟩ := e.mrk a ⟨n, h⟩
    have := e.step.sub a _ q
    rw [h] at this; cases this; exact q
  exact ⟨fun n d h => let ⟨a, h1, h2⟩ := C.at_ n d h; ⟨a, e.step.sub _ _ h1, h2.ext e⟩, fun a n h => C.lt a n (back a n h), fun a b n h1 h2 => C.inj a b n (back a n h1) (back b n h2)⟩
/-- a cell is read -/
theorem CelR.data {st : List D} (C : CelR nm F H st) {n : Nat} {a : Addr} (h : F a = some (.own n)) {d : D} (e : st[n]? = some d) : At nm F H a d := by
  obtain ⟨b, h1, h2⟩ := C.at_ n d e
  rw [C.inj a b n h h1]; exact h2
/-- a thing of one's own is given to all: no cell -/
theorem CelR.give {st : List D} (C : CelR nm F H st) {p : Addr} {o : HO} (fp : F p = none) (no : ∀ k, o ≠ .own k) : CelR nm (upd F p o) H st := by
  have s : Sub F (upd F p o) := fun b u q => by rw [upd_ne (ne_of_none q fp)]; exact q
  have back : ∀ a n, upd F p o a = some (.own n) → F a = some (.own n) := fun a n h => by
    by_cases ha : a = p
    · subst ha; rw [upd_same] at h; exact absurd (Option.some.inj h) (no n)
    · rw [upd_ne ha] at h; exact h
  exact ⟨fun n d h => let ⟨a, h1, h2⟩ := C.at_ n d h; ⟨a, s _ _ h1, h2.mono s rfl⟩, fun a n h => C.lt a n (back a n h), fun a b n h1 h2 => C.inj a b n (back a n h1) (back b n h2)⟩
end
end MT
namespace MT
open PySem PySem.Spec PyProof.Rows L2
def keyD : D → Option Key
  | .int i => some (.inl i)
  | .str x => some (.inr x)
  | _ => none
def dKey : Key → D
  | .inl i => .int i
  | .inr x => .str x
def keysD : List D → Option (List Key)
  | [] => some []
  | d :: ds => (keyD d).bind fun k => (keysD ds).map (k :: ·)
def flatD : D → Bool
  | .non | .bl _ | .int _ | .str _ => true
  | _ => false
/-- of no changeable thing of its own: what an owner may give out again -/
def plainD : D → Bool
  | .non | .bl _ | .int _ | .str _ => true
  | .lst xs => xs.all flatD
  | .obj _ fs => fs.all fun p => flatD p.2
  | _ => false
def getA {κ α : Type} [DecidableEq κ] : List (κ × α) → κ → Option α
  | [], _ => none
  | p :: r, k => if p.1 = k then some p.2 else getA r k
def setA {κ α : Type} [DecidableEq κ] : List (κ × α) → κ → α → List (κ × α)
  | [], k, v => [(k, v)]
  | p :: r, k, v => if p.1 = k then (p.1, v) :: r else p :: setA r k v
def putA {κ α : Type} [DecidableEq κ] (l : List (κ × α)) (k : κ) (v : α) : List (κ × α) := if (l.any fun p => decide (p.1 = k)) = true then l.map (fun p => if p.1 = k then (p.1, v) else p) else l ++ [(k, v)]
def dropA {κ α : Type} [DecidableEq κ] (l : List (κ × α)) (k : κ) : List (κ × α) := l.filter fun p => decide (p.1 ≠ k)
def eqL (f : D → D → Option Bool) : List D → List D → Option Bool
  | [], [] => some true
  | x :: xs, y :: ys => (f x y).bind fun b => (eqL f xs ys).map (b && ·)
  | _, _ => some false
def eqK (f : D → D → Option Bool) : List (Key × D) → List (Key × D) → Option Bool
  | [], _ => some true
  | p :: r, ys => match getA ys p.1 with
    | none => (eqK f r ys).map fun _ => false
    | some e => (f p.2 e).bind fun b => (eqK f r ys).map (b && ·)
def eqF : D → D → Option Bool
  | .non, .non => some true
  | .bl a, .bl b => some (a == b)
  | .int a, .int b => some (a == b)
  | .str a, .str b => some (a == b)
  | .non, .bl _ | .non, .int _ | .non, .str _ | .bl _, .non | .bl _, .str _ | .int _, .non | .int _, .str _ | .str _, .non | .str _, .bl _ | .str _, .int _ => some false
  | _, _ => none
/-- things of unlike kinds -/
def mixF : D → D → Option Bool
  | .bl a, .int b => some ((if a = true then 1 else 0) == b)
  | .int a, .bl b => some (a == (if b = true then 1 else 0))
  | .lst _, .non => some false
  | .non, .lst _ => some false
  | .lst _, .bl _ => some false
  | .bl _, .lst _ => some false
  | .lst _, .int _ => some false
  | .int _, .lst _ => some false
  | .lst _, .str _ => some false
  | .str _, .lst _ => some false
  | .tup _, .non => some false
  | .non, .tup _ => some false
  | .tup _, .bl _ => some false
  | .bl _, .tup _ => some false
  | .tup _, .int _ => some false
  | .int _, .tup _ => some false
  | .tup _, .str _ => some false
  | .str _, .tup _ => some false
  | .lst _, .tup _ => some false
  | .tup _, .lst _ => some false
  | _, _ => none
def eqM (a b : D) : Option Bool := match eqF a b with
  | some r => some r
  | none => mixF a b
def eqN : Nat → D → D → Option Bool
  | 0, a, b => eqM a b
  | n + 1, a, b => match a, b with
    | .lst xs, .lst ys => if xs.length = ys.length then eqL (eqN n) xs ys else some false
    | .tup xs, .tup ys => eqL (eqN n) xs ys
    | .dK xs, .dK ys => (eqK (eqN n) xs ys).map fun b => xs.length == ys.length && b
    | a, b => eqM a b
/-- ==, none where it isn't told -/
def eqD (a b : D) : Option Bool := eqN 50 a b
/-- x in xs, of flat things -/
def eqG : D → D → Bool
  | .non, .non => true
  | .bl a, .bl b => a == b
  | .bl a, .int b => (if a then 1 else 0) == b
  | .int a, .bl b => a == (if b then 1 else 0)
  | .int a, .int b => a == b
  | .str a, .str b => a == b
  | _, _ => false
/-- flat, or a list or a dict of what is flat -/
def flat1 : D → Bool
  | .lst xs => xs.all flatD
  | .dK kvs => kvs.all fun p => flatD p.2
  | d => flatD d
def memT (x : D) : List D → Option Bool
  | [] => some false
  | y :: ys => (eqD y x).bind fun b => (memT x ys).map (b || ·)
def memD (x : D) (xs : List D) : Option Bool := if flatD x = true ∧ xs.all flatD = true then some (xs.any fun y => eqG y x) else match x with
  | .tup _ => memT x xs
  | .lst ks => if ks.all flatD && xs.all flat1 then memT x xs else none
  | _ => none
def strLt (a b : Str) : Bool := decide (a.cps.toList < b.cps.toList)
def cmpD (op : CmpOp) (a b : D) : Option Bool :=
  match op with
  | .Eq => eqD a b
  | .NotEq => (eqD a b).map (!·)
  | .Lt => match a, b with
    | .int i, .int j => some (decide (i < j))
    | .str x, .str y => some (strLt x y)
    | _, _ => none
  | .LtE => match a, b with
    | .int i, .int j => some (decide (i ≤ j))
    | _, _ => none
  | .Gt => match a, b with
    | .int i, .int j => some (decide (j < i))
    | _, _ => none
  | .GtE => match a, b with
    | .int i, .int j => some (decide (j ≤ i))
    | _, _ => none
  | .In => match b with
    | .lst xs => memD a xs
    | .tup xs => memD a xs
    | .dK kvs => (keyD a).map fun k => (getA kvs k).isSome
    | .dT kvs => match a with
      | .tup ks => (keysD ks).map fun k => (getA kvs k).isSome
      | _ => none
    | _ => none
  | .NotIn => match b with
    | .lst xs => (memD a xs).map (!·)
    | .tup xs => (memD a xs).map (!·)
    | .dK kvs => (keyD a).map fun k => !(getA kvs k).isSome
    | .dT kvs => match a with
      | .tup ks => (keysD ks).map fun k => !(getA kvs k).isSome
      | _ => none
    | _ => none
  | .Is => match a, b with
    | .non, .non => some true
    | .bl x, .bl y => some (decide (x = y))
    | .non, .bl _ | .bl _, .non => some false
    | .int _, .non | .str _, .non | .lst _, .non | .tup _, .non | .dK _, .non | .obj _ _, .non => some false
    | _, _ => none
  | .IsNot => match a, b with
    | .non, .non => some false
    | .bl x, .bl y => some (!decide (x = y))
    | .non, .bl _ | .bl _, .non => some true
    | .int _, .non | .str _, .non | .lst _, .non | .tup _, .non | .dK _, .non | .obj _ _, .non => some true
    | _, _ => none
/-- the lengths that are kept -/
abbrev lineD : Nat := 16777216
def smallI (i : Int) : Bool := decide (-(2 ^ 64) < i) && decide (i < 2 ^ 64)
def binD (op : Operator) (a b : D) : Option Val :=
  match op, a, b with
  | .Add, .int i, .int j => some ⟨.int (i + j), false⟩
  | .Sub, .int i, .int j => some ⟨.int (i - j), false⟩
  | .Mult, .int i, .int j => if smallI i || smallI j || decide (PySem.Builtin.Int.intBits i + PySem.Builtin.Int.intBits j ≤ 134217728) then some ⟨.int (i * j), false⟩ else none
  | .FloorDiv, .int i, .int j => if 0 < j ∧ j < 2 ^ 2000 then some ⟨.int (i / j), false⟩ else none
  | .Mod, .int i, .int j => if 0 < j then some ⟨.int (i % j), false⟩ else none
  | .Pow, .int i, .int j => if 0 ≤ j ∧ j ≤ 1000000 ∧ i.natAbs < 2 ^ 64 then some ⟨.int (i ^ j.toNat), false⟩ else none
  | .Add, .str x, .str y => if x.length + y.length ≤ lineD then some ⟨.str (x ++ y), false⟩ else none
  | .Add, .lst xs, .lst ys => if xs.length + ys.length ≤ lineD then some ⟨.lst (xs ++ ys), true⟩ else none
  | .Add, .tup xs, .tup ys => if xs.length + ys.length ≤ lineD then some ⟨.tup (xs ++ ys), false⟩ else none
  | .Mult, .lst xs, .int k => if -(2 ^ 63) ≤ k ∧ k < 2 ^ 63 ∧ xs.length * k.toNat ≤ lineD then some ⟨.lst (List.replicate k.toNat xs).flatten, true⟩ else none
  | _, _, _ => none
/-- an item; a text's sign -/
def ixD (a i : D) : Option D :=
  match a, i with
  | .lst xs, .int i => atI xs i
  | .tup xs, .int i => atI xs i
  | .scr xs, .int i => (atI xs i).map D.int
  | .str z, .int i => if z.length ≤ lineD then (atI z.cps.toList i).map fun c => .str ⟨#[c]⟩ else none
  | .dK kvs, k => (keyD k).bind fun k => getA kvs k
  | _, _ => none
def cutD {α : Type} (xs : List α) (lo hi : Option Int) : List α := (xs.drop (HT.sIx xs.length 0 lo)).take (HT.sIx xs.length xs.length hi - HT.sIx xs.length 0 lo)
def slD (a : D) (lo hi : Option Int) : Option Val :=
  match a with
  | .lst xs => some ⟨.lst (cutD xs lo hi), true⟩
  | .scr xs => some ⟨.lst ((cutD xs lo hi).map D.int), true⟩
  | .str z => if z.length ≤ lineD then some ⟨.str (cutS z lo hi), false⟩ else none
  | .tup xs => some ⟨.tup (cutD xs lo hi), false⟩
  | _ => none
/-- insertion, for sorted -/
def insI (x : Int) : List Int → List Int
  | [] => [x]
  | y :: ys => if x ≤ y then x :: y :: ys else y :: insI x ys
def sortI : List Int → List Int
  | [] => []
  | x :: xs => insI x (sortI xs)
def intsD : List D → Option (List Int)
  | [] => some []
  | .int i :: r => (intsD r).map (i :: ·)
  | _ => none
def strsD : List D → Option (List Str)
  | [] => some []
  | .str i :: r => (strsD r).map (i :: ·)
  | _ => none
def blsD : List D → Option (List Bool)
  | [] => some []
  | .bl i :: r => (blsD r).map (i :: ·)
  | _ => none
def lenD : D → Option Nat
  | .lst xs => some xs.length
  | .tup xs => some xs.length
  | .scr xs => some xs.length
  | .str z => if z.length ≤ lineD then some z.length else none
  | .dK kvs => some kvs.length
  | _ => none
/-- texts, sorted -/
def insO (x : Str) : List Str → List Str
  | [] => [x]
  | y :: ys => if strLt y x then y :: insO x ys else x :: y :: ys
def sortS : List Str → List Str
  | [] => []
  | x :: xs => insO x (sortS xs)
/-- rows of ints -/
def tupsD : List D → Option (List (List Int))
  | [] => some []
  | .tup ds :: r => (intsD ds).bind fun ns => (tupsD r).map (ns :: ·)
  | _ => none
def lexLt : List Int → List Int → Bool
  | [], [] => false
  | [], _ :: _ => true
  | _ :: _, [] => false
  | x :: xs, y :: ys => if x < y then true else if y < x then false else lexLt xs ys
def insT (x : List Int) : List (List Int) → List (List Int)
  | [] => [x]
  | y :: ys => if lexLt y x = true then y :: insT x ys else x :: y :: ys
def sortT : List (List Int) → List (List Int)
  | [] => []
  | x :: xs => insT x (sortT xs)
def insW (x : List Int) : List (List Int) → List (List Int)
  | [] => [x]
  | y :: ys => if lexLt x y = true then x :: y :: ys else if x = y then y :: ys else y :: insW x ys
def ssetT : List (List Int) → List (List Int)
  | [] => []
  | x :: xs => insW x (ssetT xs)
def rowsL (ls : List (List Int)) : D := .lst (ls.map fun l => D.tup (l.map D.int))
/-- all of one width -/
def evenT : List (List Int) → Bool
  | [] => true
  | x :: xs => xs.all fun y => y.length == x.length
def wideT : List (List Int) → Bool
  | [] => false
  | x :: _ => !x.isEmpty
def sortD (ds : List D) : Option Val := match intsD ds with
  | some ns => some ⟨.lst ((sortI ns).map D.int), true⟩
  | none => match strsD ds with
    | some xs => if xs.length < 64 then some ⟨.lst ((sortS xs).map D.str), true⟩ else none
    | none => (tupsD ds).bind fun ls => if ls.length < 64 ∧ evenT ls = true ∧ (2 ≤ ls.length → wideT ls = true) then some ⟨rowsL (sortT ls), true⟩ else none
/-- pairs of a key and a value -/
def pairsP : List D → Option (List (Key × D))
  | [] => some []
  | .tup [k, v] :: r => (keyD k).bind fun k => (pairsP r).map ((k, v) :: ·)
  | _ => none
def mergeA (acc : List (Key × D)) : List (Key × D) → List (Key × D)
  | [] => acc
  | p :: r => mergeA (putA acc p.1 p.2) r
inductive BI where
  | len | sorted | list | dict | max2 | min2 | sum | any | all
def biD (b : BI) (ds : List D) : Option Val :=
  match b, ds with
  | .len, [d] => (lenD d).map fun n => ⟨.int n, false⟩
  | .sorted, [.lst ds] => sortD ds
  | .sorted, [.dK kvs] => if kvs.length < 64 then sortD (kvs.map fun p => dKey p.1) else none
  | .list, [.lst ds] => some ⟨.lst ds, true⟩
  | .list, [.tup ds] => some ⟨.lst ds, true⟩
  | .dict, [.dK kvs] => some ⟨.dK kvs, true⟩
  | .dict, [.lst ds] => (pairsP ds).map fun kvs => ⟨.dK (mergeA [] kvs), true⟩
  | .max2, [.int i, .int j] => some ⟨.int (if j > i then j else i), false⟩
  | .min2, [.int i, .int j] => some ⟨.int (if j < i then j else i), false⟩
  | .sum, [.lst ds] => (intsD ds).map fun ns => ⟨.int ns.sum, false⟩
  | .any, [.lst ds] => (blsD ds).map fun ns => ⟨.bl (ns.any id), false⟩
  | .all, [.lst ds] => (blsD ds).map fun ns => ⟨.bl (ns.all id), false⟩
  | _, _ => none
/-- a change of one's own thing: what it becomes, what is told -/
inductive MI where
  | append | insert | popAt | put | extend | pop | clear | dclear | dpop | dsetd
def muPut (a : D) (ds : List D) : Option D := match a with
  | .dK kvs => (match ds with
    | [k, v] => (keyD k).bind fun k => if kvs.length < lineD then some (.dK (putA kvs k v)) else none
    | _ => none)
  | .dT kvs => (match ds with
    | [.tup ks, v] => (keysD ks).bind fun k => if kvs.length < lineD then some (.dT (putA kvs k v)) else none
    | _ => none)
  | .lst xs => (match ds with
    | [.int k, v] => (ixN xs.length k).map fun j => .lst (xs.set j v)
    | _ => none)
  | _ => none
def muL (m : MI) (xs : List D) (ds : List D) : Option (D × D) :=
  match m with
  | .append => (match ds with
    | [d] => if xs.length < lineD then some (.lst (xs ++ [d]), .non) else none
    | _ => none)
  | .extend => (match ds with
    | [.lst ys] => if xs.length + ys.length ≤ lineD then some (.lst (xs ++ ys), .non) else none
    | _ => none)
  | .insert => (match ds with
    | [.int i, d] => if xs.length < lineD ∧ 0 ≤ i ∧ i < 2 ^ 63 then some (.lst (xs.take i.toNat ++ [d] ++ xs.drop i.toNat), .non) else none
    | _ => none)
  | .popAt => (match ds with
    | [.int i] => if 0 ≤ i ∧ i < 2 ^ 63 then (xs[i.toNat]?).map fun d => (.lst (xs.eraseIdx i.toNat), d) else none
    | _ => none)
  | .pop => (match ds with
    | [] => (xs[xs.length - 1]?).map fun d => (.lst xs.dropLast, d)
    | _ => none)
  | .clear => (match ds with
    | [] => some (.lst [], .non)
    | _ => none)
  | _ => none
def muD (m : MI) (a : D) (ds : List D) : Option (D × D) := match m with
  | .put => (muPut a ds).map fun d => (d, .non)
  | .dclear => (match a with
    | .dK _ => (match ds with
      | [] => some (.dK [], .non)
      | _ => none)
    | _ => none)
  | .dpop => (match a with
    | .dK kvs => (match ds with
      | [k] => (keyD k).bind fun k => (getA kvs k).map fun d => (.dK (dropA kvs k), d)
      | _ => none)
    | _ => none)
  | .dsetd => (match a with
    | .dK kvs => (match ds with
      | [k, v] => (keyD k).bind fun k => if kvs.length < lineD then some (match getA kvs k with
        | some d => (.dK kvs, d)
        | none => (.dK (putA kvs k v), v)) else none
      | _ => none)
    | _ => none)
  | m => (match a with
    | .lst xs => muL m xs ds
    | _ => none)
/-- of which sort: a built-in's name, an own class -/
inductive Ty where
  | str | int | bool | list | tuple | dict | cls (c : Nat)
def insS (x : Str) : List Str → List Str
  | [] => [x]
  | y :: ys => if strLt x y then x :: y :: ys else if x = y then y :: ys else y :: insS x ys
def ssetS : List Str → List Str
  | [] => []
  | x :: xs => insS x (ssetS xs)
def insU (x : Int) : List Int → List Int
  | [] => [x]
  | y :: ys => if x < y then x :: y :: ys else if x = y then y :: ys else y :: insU x ys
def ssetI : List Int → List Int
  | [] => []
  | x :: xs => insU x (ssetI xs)
def maxI : List Int → Int → Int
  | [], i => i
  | x :: xs, _ => xs.foldl (fun a b => if b > a then b else a) x
def joinS (sep : Str) : List Str → Str
  | [] => ""
  | [x] => x
  | x :: xs => x ++ sep ++ joinS sep xs
/-- every other one -/
def twoD {α : Type} : List α → List α
  | [] => []
  | [x] => [x]
  | x :: _ :: r => x :: twoD r
inductive ItK where
  | seq | tupl | text | range1 | range2 | enum | zip | values | items | rev | keys | zipT | seqK
/-- further built-in doings: sorted(set(xs)), len(set(xs)), max(xs, default=i), tuple(x), sum of the script's part, sep.join(xs) -/
inductive ON where
  | sset | lset | maxd (i : Int) | tup | join | vals | opt (n : Nat) | toi | tos | cnt | idx | dzip | rev | mx | lenT | srtT | keysL | rng | two
mutual
inductive IT where
  | nm (i : Nat) | tp (ts : ITs)
inductive ITs where
  | nil | cons (t : IT) (ts : ITs)
end
mutual
inductive IE where
  | cst (d : D) | var (i : Nat) | neg (a : IE)
  | not (a : IE) | and (a b : IE) | or (a b : IE) | ite (c a b : IE)
  | bin (op : Operator) (a b : IE) | cmp (op : CmpOp) (a b : IE)
  | lst (es : IEs) | tup (es : IEs) | dct (es : IEs) | dctT
  | ix (a i : IE) | sl00 (a : IE) | sl10 (a lo : IE) | sl01 (a hi : IE) | sl11 (a lo hi : IE)
  | fld (a : IE) (f : Nat)
  | bi (b : BI) (es : IEs) | isi (a : IE) (ts : List Ty)
  | get2 (a k d : IE)
  | call (j : Nat) (es : IEs) | mk (c : Nat) (es : IEs) | meth (a : IE) (m : Nat) (es : IEs)
  | mu (i : Nat) (m : MI) (es : IEs)
  | cel (a : IE) | muC (a : IE) (m : MI) (es : IEs) | opn (o : ON) (es : IEs) | fldX (a : IE) (f : Nat) | isiX (a : IE) (ts : List Nat)
  | lc (own : List Nat) (tg : IT) (k : ItK) (it : IEs) (ifs : IEs) (elt : IE)
  | lcO (own : List Nat) (tg : IT) (i : Nat) (ifs : IEs) (elt : IE)
  | callF (j : Nat) (es : IEs) | methF (a : IE) (m : Nat) (es : IEs) | orv (a b : IE)
  | cmpR (op : CmpOp) (a b : IE)
inductive IEs where
  | nil | cons (e : IE) (es : IEs)
end
/-- one more at the end -/
def IEs.snoc : IEs → IE → IEs
  | .nil, a => .cons a .nil
  | .cons e es, a => .cons e (es.snoc a)
mutual
inductive IS where
  | expr (e : IE) | asg (t : IT) (e : IE) | put (i : Nat) (k v : IE) | setF (i : Nat) (f : Nat) (v : IE)
  | ret (e : IE) | ite (c : IE) (a b : ISs)
  | loopL (t : IT) (k : ItK) (i : Nat) (body : ISs) | loopO (t : IT) (i : Nat) (body : ISs)
  | loop (t : IT) (k : ItK) (it : IEs) (body : ISs) | whl (c : IE) (body : ISs)
  | brk | cont | pass | aug (i : Nat) (op : Operator) (e : IE) | never
  | raise (c : Nat) (es : IEs) | putC (a k v : IE) | tri (body : ISs) (c : Nat) (i : Option Nat) (hd : ISs) (els : ISs)
  | loopZ (t : IT) (i : Nat) (es : IEs) (body : ISs)
inductive ISs where
  | nil | cons (s : IS) (ss : ISs)
end
/-- the slots; the cells: things that several may hold and that may change -/
structure Env where
  sl : List (Option Val)
  st : List D := []
abbrev Env.length (e : Env) : Nat := e.sl.length
def Env.set (e : Env) (i : Nat) (o : Option Val) : Env := ⟨e.sl.set i o, e.st⟩
def Env.withSt (e : Env) (st : List D) : Env := ⟨e.sl, st⟩
structure Exc where
  c : Nat
  fs : List (Nat × D)
inductive R (α : Type) where
  | ok (a : α) (e : Env) | exc (x : Exc) (e : Env) | stuck
def R.bind {α β : Type} (r : R α) (f : α → Env → R β) : R β := match r with
  | .ok a e => f a e
  | .exc x e => .exc x e
  | .stuck => .stuck
/-- pure results into it -/
def R.opt {α : Type} (o : Option α) (e : Env) : R α := match o with
  | some a => .ok a e
  | none => .stuck
inductive CR where
  | ok (v : Val) (outs : List D) (st : List D) | exc (x : Exc) (st : List D) | stuck
structure CT where
  call : Nat → List D → List D → CR
  io : Nat → List Bool
  meth : Nat → Nat → Option Nat
  init : Nat → Option Nat
  isa : Nat → Nat → Option Bool
  fld : Nat → Nat → Bool
  wf : Nat
  cur : Option Exc := none
def res1 (st : List D) : D → Option D
  | .rf n => match st[n]? with
    | some d => if flat1 d = true then some d else none
    | none => none
  | d => if flat1 d = true then some d else none
def resL (st : List D) : List D → Option (List D)
  | [] => some []
  | d :: ds => (res1 st d).bind fun d => (resL st ds).map (d :: ·)
/-- a list's cells looked up -/
def resD (st : List D) : D → Option D
  | .lst xs => (resL st xs).map .lst
  | d => if flat1 d = true then some d else none
def slot (env : Env) (i : Nat) : Option Val := match env.sl[i]? with
  | some o => o
  | none => none
def share (env : Env) (i : Nat) : Env := match slot env i with
  | some v => env.set i (some ⟨v.d, false⟩)
  | none => env
inductive Opd where
  | tmp (v : Val) | rd (i : Nat)
def Opd.raw (o : Opd) (env : Env) : Option D := match o with
  | .tmp v => some v.d
  | .rd i => (slot env i).map (·.d)
/-- a cell's content -/
def deref (st : List D) (d : D) : Option D := match d with
  | .rf n => st[n]?
  | d => some d
def Opd.get (o : Opd) (env : Env) : Option D := (o.raw env).bind (deref env.st)
def Opd.slot : Opd → Option Nat
  | .tmp _ => none
  | .rd i => some i
def mkO (a : IE) (r : Env → R Val) (env : Env) : R Opd := match a with
  | .var i => match slot env i with
    | some _ => .ok (.rd i) env
    | none => .stuck
  | _ => (r env).bind fun v e => .ok (.tmp v) e
def getsO : List Opd → Env → Option (List D)
  | [], _ => some []
  | o :: os, env => (o.get env).bind fun d => (getsO os env).map (d :: ·)
def rawsO : List Opd → Env → Option (List D)
  | [], _ => some []
  | o :: os, env => (o.raw env).bind fun d => (rawsO os env).map (d :: ·)
/-- which operands are handed over to be changed: their slots -/
def ioOk : List Bool → List Opd → Env → Bool
  | [], os, _ => true
  | true :: bs, .rd i :: os, env => (match slot env i with
    | some v => v.own
    | none => false) && ioOk bs os env
  | true :: _, _, _ => false
  | false :: bs, _ :: os, env => ioOk bs os env
  | false :: _, [], _ => true
def ioSlots : List Bool → List Opd → List Nat
  | true :: bs, .rd i :: os => i :: ioSlots bs os
  | _ :: bs, _ :: os => ioSlots bs os
  | _, _ => []
def noSlots : List Bool → List Opd → List Nat
  | true :: bs, _ :: os => noSlots bs os
  | _ :: bs, .rd i :: os => i :: noSlots bs os
  | _ :: bs, _ :: os => noSlots bs os
  | [], .rd i :: os => i :: noSlots [] os
  | [], _ :: os => noSlots [] os
  | _, [] => []
def shares (env : Env) (is : List Nat) : Env := is.foldl share env
def putsO (env : Env) : List Nat → List D → Env
  | i :: is, d :: ds => putsO (env.set i (some ⟨d, true⟩)) is ds
  | _, _ => env
def killO (env : Env) (is : List Nat) : Env := is.foldl (fun e i => e.set i none) env
def callO (Φ : CT) (j : Nat) (os : List Opd) (env : Env) : R Val :=
  let ios := ioSlots (Φ.io j) os
  let nos := noSlots (Φ.io j) os
  if ioOk (Φ.io j) os env = true ∧ ios.Nodup ∧ (∀ i ∈ ios, i ∉ nos) then
    match rawsO os env with
    | none => .stuck
    | some ds => match Φ.call j env.st ds with
      | .ok v outs st => if outs.length = ios.length then
          (if v.own = false ∧ flatD v.d = true ∧ outs.all plainD = true ∧ st = [] then .ok v (putsO env ios outs) else .ok v ((putsO (shares env nos) ios outs).withSt st)) else .stuck
      | .exc x st => .exc x ((killO (shares env nos) ios).withSt st)
      | .stuck => .stuck
  else .stuck
/-- what refers to nothing that was handed over -/
def freeV (v : Val) : Bool := if v.own = true then plainD v.d else flatD v.d
def freeS (st st' : List D) : Bool := decide (st.length ≤ st'.length) && (st'.take st.length).all plainD
/-- what refers to no list, no dict, no object of so many fields -/
def lendN (ls : List Nat) : Nat → D → Bool
  | 0, _ => false
  | k + 1, d => match d with
    | .non | .bl _ | .int _ | .str _ => true
    | .tup xs => xs.all (lendN ls k)
    | .obj _ fs => !(ls.contains fs.length) && fs.all fun p => lendN ls k p.2
    | _ => false
/-- how many fields the objects in own slots have -/
def ownLens (env : Env) : List Nat := env.sl.filterMap fun o => match o with
  | some ⟨.obj _ fs, true⟩ => some fs.length
  | _ => none
def lendV (ls : List Nat) (v : Val) : Bool := if v.own = true then (match v.d with
    | .lst xs => xs.all (lendN ls 64)
    | .obj _ fs => fs.all fun p => lendN ls 64 p.2
    | _ => false) else lendN ls 64 v.d
/-- a call that hands its operands out for its own time alone -/
def callFO (Φ : CT) (j : Nat) (os : List Opd) (env : Env) : R Val :=
  match Φ.io j with
  | [] => (match rawsO os env with
    | none => .stuck
    | some ds => match Φ.call j env.st ds with
      | .ok v [] st => if (freeV v || lendV (ownLens env) v) = true ∧ freeS env.st st = true then .ok v (env.withSt (st.take env.st.length)) else .stuck
      | _ => .stuck)
  | _ => .stuck
def intR {α : Type} (v : Val) (f : Int → R α) : R α := match v.d with
  | .int i => f i
  | _ => .stuck
def boolR {α : Type} (v : Val) (f : Bool → R α) : R α := match v.d with
  | .bl b => f b
  | _ => .stuck
def pairsE (n : Nat) : List D → List D
  | [] => []
  | d :: ds => .tup [.int n, d] :: pairsE (n + 1) ds
def zipD : List D → List D → List D
  | x :: xs, y :: ys => .tup [x, y] :: zipD xs ys
  | _, _ => []
/-- three at a time -/
def zip3D : List D → List D → List D → List D
  | x :: xs, y :: ys, z :: zs => .tup [x, y, z] :: zip3D xs ys zs
  | _, _, _ => []
def big62 (j : Int) : Bool := decide (-(2 ^ 62) ≤ j) && decide (j < 2 ^ 62)
def rangeD (lo : Int) (n : Nat) : List D := (List.range n).map fun i => .int (lo + (i : Nat))
def itemsD (k : ItK) (ds : List D) : Option (List D) :=
  match k, ds with
  | .seq, [.lst xs] => some xs
  | .tupl, [.tup xs] => some xs
  | .seq, [.scr ns] => some (ns.map D.int)
  | .seq, [.tup xs] => some xs
  | .seq, [.str z] => some (z.cps.toList.map fun c => .str ⟨#[c]⟩)
  | .text, [.str z] => some (z.cps.toList.map fun c => .str ⟨#[c]⟩)
  | .seqK, [.lst xs] => some xs
  | .seqK, [.scr ns] => some (ns.map D.int)
  | .seqK, [.tup xs] => some xs
  | .seqK, [.str z] => some (z.cps.toList.map fun c => .str ⟨#[c]⟩)
  | .seqK, [.dK kvs] => some (kvs.map fun p => dKey p.1)
  | .range1, [.int j] => if big62 j then some (rangeD 0 j.toNat) else none
  | .range2, [.int i, .int j] => if big62 i && big62 j then some (rangeD i (j - i).toNat) else none
  | .enum, [.lst xs] => some (pairsE 0 xs)
  | .zip, [.lst xs, .lst ys] => some (zipD xs ys)
  | .zip, [.tup xs, .lst ys] => some (zipD xs ys)
  | .zip, [.lst xs, .tup ys] => some (zipD xs ys)
  | .zip, [.tup xs, .tup ys] => some (zipD xs ys)
  | .rev, [.lst xs] => some xs.reverse
  | .zipT, [.lst xs, .lst ys, .lst zs] => if xs.length = ys.length ∧ xs.length = zs.length then some (zip3D xs ys zs) else none
  | _, _ => none
/-- keys that are ints, row by row -/
def intsK : List Key → Option (List Int)
  | [] => some []
  | .inl i :: r => (intsK r).map (i :: ·)
  | _ => none
def rowsK : List (List Key) → Option (List (List Int))
  | [] => some []
  | k :: r => (intsK k).bind fun ns => (rowsK r).map (ns :: ·)
def onD (o : ON) (ds : List D) : Option Val :=
  match o, ds with
  | .sset, [.lst ds] => (match intsD ds, strsD ds with
    | some ns, _ => if ns.length < 4000 ∧ (ssetI ns).length < 64 then some ⟨.lst ((ssetI ns).map D.int), true⟩ else none
    | none, some xs => if xs.length < 4000 ∧ (ssetS xs).length < 64 then some ⟨.lst ((ssetS xs).map D.str), true⟩ else none
    | none, none => (tupsD ds).bind fun ls => if ls.length < 64 ∧ evenT ls = true then some ⟨rowsL (ssetT ls), true⟩ else none)
  | .lset, [.lst ds] => (match intsD ds, strsD ds with
    | some ns, _ => if ns.length < 4000 ∧ (ssetI ns).length < 64 then some ⟨.int (ssetI ns).length, false⟩ else none
    | none, some xs => if xs.length < 4000 ∧ (ssetS xs).length < 64 then some ⟨.int (ssetS xs).length, false⟩ else none
    | none, none => none)
  | .maxd i, [.lst ds] => (intsD ds).map fun ns => ⟨.int (maxI ns i), false⟩
  | .vals, [.dK kvs] => some ⟨.lst (kvs.map (·.2)), true⟩
  | .keysL, [.dK kvs] => some ⟨.lst (kvs.map fun p => dKey p.1), true⟩
  | .tup, [.lst ds] => some ⟨.tup ds, false⟩
  | .tup, [.tup ds] => some ⟨.tup ds, false⟩
  | .toi, [.int i] => some ⟨.int i, false⟩
  | .toi, [.bl k] => some ⟨.int (if k then 1 else 0), false⟩
  | .tos, [.int i] => if i.natAbs.log2 < 1920 then some ⟨.str (toString i), false⟩ else none
  | .cnt, [.lst ds, .str a] => (strsD ds).map fun ys => ⟨.int (ys.count a : Nat), false⟩
  | .idx, [.lst ds, .str a] => (strsD ds).bind fun ys => if a ∈ ys ∧ ys.length < lineD then some ⟨.int (ys.idxOf a : Nat), false⟩ else none
  | .rev, [.lst ds] => some ⟨.lst ds.reverse, true⟩
  | .two, [.lst ds] => some ⟨.lst (twoD ds), true⟩
  | .rng, [.int n] => if big62 n && decide (n ≤ 16777216) then some ⟨.lst (rangeD 0 n.toNat), true⟩ else none
  | .mx, [.lst ds] => (intsD ds).bind fun ns => if 0 < ns.length then some ⟨.int (maxI ns 0), false⟩ else none
  | .lenT, [.dT kvs] => some ⟨.int kvs.length, false⟩
  | .srtT, [.dT kvs] => (rowsK (kvs.map (·.1))).bind fun ls => if ls.length < 64 ∧ evenT ls = true ∧ (2 ≤ ls.length → wideT ls = true) then some ⟨rowsL (sortT ls), true⟩ else none
  | .dzip, [a, b] => (itemsD .zip [a, b]).bind fun ds => (pairsP ds).bind fun kvs => if kvs.length ≤ lineD then some ⟨.dK (mergeA [] kvs), true⟩ else none
  | .join, [.str a, .lst ds] => (strsD ds).bind fun ys => if (ys.map (·.length)).sum + ys.length * a.length ≤ lineD then some ⟨.str (joinS a ys), false⟩ else none
  | _, _ => none
mutual
def asgT (io : List Nat) : IT → D → Env → Option Env
  | .nm i, d, env => if i ∈ io ∨ env.length ≤ i then none else some (env.set i (some ⟨d, false⟩))
  | .tp ts, .tup ds, env => asgTs io ts ds env
  | .tp ts, .lst ds, env => asgTs io ts ds env
  | .tp _, _, _ => none
def asgTs (io : List Nat) : ITs → List D → Env → Option Env
  | .nil, [], env => some env
  | .cons t ts, d :: ds, env => (asgT io t d env).bind fun e => asgTs io ts ds e
  | _, _, _ => none
end
def wipeE (env : Env) (is : List Nat) : Env := is.foldl (fun e i => e.set i none) env
def backE (env old : Env) (is : List Nat) : Env := is.foldl (fun e i => e.set i (slot old i)) env
/-- what the operands are walked as -/
def itR (k : ItK) (os : List Opd) (e : Env) : R (List D) := match (rawsO os e).bind (itemsD k) with
  | some items => .ok items (shares e (noSlots [] os))
  | none => .stuck
/-- what may be changed so -/
def preM (m : MI) (d : D) : Bool := match m with
  | .put => false
  | .dclear => (match d with
    | .dK _ => true
    | _ => false)
  | .dpop => (match d with
    | .dK _ => true
    | _ => false)
  | .dsetd => (match d with
    | .dK _ => true
    | _ => false)
  | _ => (match d with
    | .lst _ => true
    | _ => false)
/-- the turns of a comprehension -/
def lcL (own : List Nat) (t : D → Env → R (Option D)) : List D → Env → R (List D)
  | [], e => .ok [] e
  | d :: ds, e => match t d e with
    | .ok o e1 => (lcL own t ds (wipeE e1 own)).bind fun r e2 => .ok (match o with
      | some y => y :: r
      | none => r) e2
    | _ => .stuck
/-- the turns of a comprehension over a name's list, read anew at each turn -/
def lcI (own : List Nat) (i : Nat) (t : D → Env → R (Option D)) : Nat → Nat → Env → R (List D)
  | 0, k, e => (match slot e i with
    | some v => (match v.d with
      | .lst ds => if ds.length ≤ k then .ok [] e else .stuck
      | _ => .stuck)
    | none => .stuck)
  | m + 1, k, e => (match slot e i with
    | some v => (match v.d with
      | .lst ds => (match ds[k]? with
        | none => .ok [] e
        | some d => (match t d e with
          | .ok o e1 => (lcI own i t m (k + 1) (wipeE e1 own)).bind fun r e2 => .ok (match o with
            | some y => y :: r
            | none => r) e2
          | _ => .stuck))
      | _ => .stuck)
    | none => .stuck)
/-- of a built-in sort -/
def isB (d : D) : Ty → Bool
  | .str => match d with
    | .str _ => true
    | _ => false
  | .int => match d with
    | .int _ => true
    | .bl _ => true
    | _ => false
  | .bool => match d with
    | .bl _ => true
    | _ => false
  | .list => match d with
    | .lst _ => true
    | _ => false
  | .tuple => match d with
    | .tup _ => true
    | _ => false
  | .dict => match d with
    | .dK _ => true
    | _ => false
  | .cls _ => false
def noCls : Ty → Bool
  | .cls _ => false
  | _ => true
/-- of a sort; none: not told -/
def isTy (Φ : CT) (d : D) (t : Ty) : Option Bool := match d with
  | .dT _ => none
  | .scr _ => none
  | .rf _ => none
  | .exn _ _ => none
  | .obj c _ => (match t with
    | .cls c' => (Φ.isa c c).bind fun _ => Φ.isa c c'
    | _ => (Φ.isa c c).map fun _ => false)
  | d => some (isB d t)
/-- isinstance with several: the first that fits -/
def isiD (Φ : CT) (d : D) : List Ty → Option Bool
  | [] => some false
  | t :: ts => (isTy Φ d t).bind fun b => if b = true then some true else isiD Φ d ts
/-- a display of pairs: k, v, k, v, .. -/
def pairsD (acc : List (Key × D)) : List D → Option (List (Key × D))
  | [] => some acc
  | k :: v :: r => (keyD k).bind fun k => pairsD (setA acc k v) r
  | _ => none
/-- of which sort an exception is -/
def xisa (Φ : CT) (c c' : Nat) : Option Bool := (Φ.meth c (1000 + c')).map fun b => b == 1
def isiX (Φ : CT) (c : Nat) : List Nat → Option Bool
  | [] => some false
  | t :: ts => (xisa Φ c t).bind fun b => if b = true then some true else isiX Φ c ts
/-- x or y: a truth, None, a tuple -/
def orR (v : Val) (e : Env) (k : R Val) : R Val := match v.d with
  | .bl c => if c = true then .ok ⟨.bl true, false⟩ e else k
  | .non => k
  | .tup (_ :: _) => .ok v e
  | _ => .stuck
mutual
def ev (Φ : CT) (io : List Nat) : IE → Env → R Val
  | .cst d, e => .ok ⟨d, false⟩ e
  | .var i, e => match slot e i with
    | some v => if v.own = true ∧ i ∈ io then .stuck else .ok ⟨v.d, false⟩ (share e i)
    | none => .stuck
  | .neg a, e => (ev Φ io a e).bind fun v e => match v.d with
    | .int i => .ok ⟨.int (-i), false⟩ e
    | _ => .stuck
  | .not a, e => (ev Φ io a e).bind fun v e => boolR v fun b => .ok ⟨.bl (!b), false⟩ e
  | .and a b, e => (ev Φ io a e).bind fun v e => boolR v fun c => if c = true then ev Φ io b e else .ok ⟨.bl false, false⟩ e
  | .or a b, e => (ev Φ io a e).bind fun v e => boolR v fun c => if c = true then .ok ⟨.bl true, false⟩ e else ev Φ io b e
  | .ite c a b, e => (ev Φ io c e).bind fun v e => boolR v fun c => if c = true then ev Φ io a e else ev Φ io b e
  | .bin op a b, e => (mkO a (ev Φ io a) e).bind fun x e => (mkO b (ev Φ io b) e).bind fun y e =>
      match x.get e, y.get e with
      | some dx, some dy => R.opt (binD op dx dy) e
      | _, _ => .stuck
  | .cmp op a b, e => (mkO a (ev Φ io a) e).bind fun x e => (mkO b (ev Φ io b) e).bind fun y e =>
      match x.get e, y.get e with
      | some dx, some dy => R.opt ((cmpD op dx dy).map fun b => ⟨.bl b, false⟩) e
      | _, _ => .stuck
  | .lst es, e => (evs Φ io es e).bind fun ds e => if ds.length ≤ lineD then .ok ⟨.lst ds, true⟩ e else .stuck
  | .tup es, e => (evs Φ io es e).bind fun ds e => if ds.length ≤ lineD then .ok ⟨.tup ds, false⟩ e else .stuck
  | .dct es, e => (evs Φ io es e).bind fun ds e => R.opt ((pairsD [] ds).map fun kvs => ⟨.dK kvs, true⟩) e
  | .dctT, e => .ok ⟨.dT [], true⟩ e
  | .ix a i, e => (mkO a (ev Φ io a) e).bind fun x e => (mkO i (ev Φ io i) e).bind fun y e =>
      match x.get e, y.get e with
      | some dx, some dy => R.opt ((ixD dx dy).map fun d => ⟨d, false⟩) e
      | _, _ => .stuck
  | .sl00 a, e => (mkO a (ev Φ io a) e).bind fun x e => match x.get e with
      | some dx => R.opt (slD dx none none) e
      | _ => .stuck
  | .sl10 a lo, e => (mkO a (ev Φ io a) e).bind fun x e => (ev Φ io lo e).bind fun l e => intR l fun l => match x.get e with
      | some dx => R.opt (slD dx (some l) none) e
      | _ => .stuck
  | .sl01 a hi, e => (mkO a (ev Φ io a) e).bind fun x e => (ev Φ io hi e).bind fun l e => intR l fun l => match x.get e with
      | some dx => R.opt (slD dx none (some l)) e
      | _ => .stuck
  | .sl11 a lo hi, e => (mkO a (ev Φ io a) e).bind fun x e => (ev Φ io lo e).bind fun l e => intR l fun l => (ev Φ io hi e).bind fun h e => intR h fun h => match x.get e with
      | some dx => R.opt (slD dx (some l) (some h)) e
      | _ => .stuck
  | .fld a f, e => (mkO a (ev Φ io a) e).bind fun x e => match x.get e with
      | some (.obj c fs) => if Φ.fld c f = true ∧ fs.all (fun p => Φ.fld c p.1) = true then R.opt ((getA fs f).map fun d => ⟨d, false⟩) e else .stuck
      | _ => .stuck
  | .bi b es, e => (evo Φ io es e).bind fun os e => R.opt ((getsO os e).bind (biD b)) e
  | .isi a ts, e => (mkO a (ev Φ io a) e).bind fun x e => R.opt ((x.get e).bind fun d => (isiD Φ d ts).map fun b => ⟨.bl b, false⟩) e
  | .get2 a k d, e => (mkO a (ev Φ io a) e).bind fun x e => match x.get e with
      | some (.dK _) => (ev Φ io k e).bind fun k e => (ev Φ io d e).bind fun d e => (match x.get e, keyD k.d with
        | some (.dK kvs), some k => .ok ⟨(getA kvs k).getD d.d, false⟩ e
        | _, _ => .stuck)
      | _ => .stuck
  | .call j es, e => (evo Φ io es e).bind fun os e => callO Φ j os e
  | .mk c es, e => (evo Φ io es e).bind fun os e => match Φ.init c with
      | some j => match rawsO os e with
        | some ds => match Φ.call j e.st (.obj c [] :: ds) with
          | .ok v [o] st => if Φ.io j = [true] ∧ v.own = false then (match v.d with
            | .non => .ok ⟨o, true⟩ ((shares e (noSlots [] os)).withSt st)
            | _ => .stuck) else .stuck
          | .exc x st => if Φ.io j = [true] then .exc x ((shares e (noSlots [] os)).withSt st) else .stuck
          | _ => .stuck
        | none => .stuck
      | none => .stuck
  | .meth a m es, e => (mkO a (ev Φ io a) e).bind fun x e => match x.get e with
      | some (.obj c fs) => if fs.all (fun p => Φ.fld c p.1) = true then (match Φ.meth c m with
        | some j => (evo Φ io es e).bind fun os e => callO Φ j (x :: os) e
        | none => .stuck) else .stuck
      | _ => .stuck
  | .mu i m es, e => match slot e i with
      | some v0 => if v0.own = true ∧ preM m v0.d = true then (evs Φ io es e).bind fun ds e => (match slot e i with
          | some v => if v.own = true then (match muD m v.d ds with
            | some (d', r) => .ok ⟨r, false⟩ (e.set i (some ⟨d', true⟩))
            | none => .stuck) else .stuck
          | none => .stuck) else .stuck
      | none => .stuck
  | .cel a, e => (ev Φ io a e).bind fun v e => if v.own = true then .ok ⟨.rf e.st.length, false⟩ (e.withSt (e.st ++ [v.d])) else .stuck
  | .muC a m es, e => (mkO a (ev Φ io a) e).bind fun x e => (match x.raw e with
      | some (.rf n) => (match e.st[n]? with
        | some d0 => if preM m d0 = true then (evs Φ io es e).bind fun ds e => (match (e.st[n]?).bind fun d => muD m d ds with
          | some (d', r) => .ok ⟨r, false⟩ (e.withSt (e.st.set n d'))
          | none => .stuck) else .stuck
        | none => .stuck)
      | _ => .stuck)
  | .opn o es, e => (evo Φ io es e).bind fun os e => R.opt ((getsO os e).bind (onD o)) e
  | .fldX a f, e => (mkO a (ev Φ io a) e).bind fun x e => match x.get e with
      | some (.exn c [(f', d)]) => if f' = f ∧ Φ.init c = some f then .ok ⟨d, false⟩ e else .stuck
      | _ => .stuck
  | .isiX a ts, e => (mkO a (ev Φ io a) e).bind fun x e => match x.get e with
      | some (.exn c _) => R.opt ((isiX Φ c ts).map fun b => ⟨.bl b, false⟩) e
      | _ => .stuck
  | .lc own tg k it ifs elt, e => ((evo Φ io it e).bind fun os e => itR k os e).bind fun items e1 =>
      if items.length < lineD ∧ (∀ i ∈ own, i ∉ io ∧ i < e1.length) then
          (lcL own (fun d en => match asgT io tg d en with
            | some en => (evt Φ io ifs en).bind fun b en => if b = true then (ev Φ io elt en).bind fun v en => .ok (some v.d) en else .ok none en
            | none => .stuck) items (wipeE e1 own)).bind fun ds e2 => .ok ⟨.lst ds, true⟩ (backE e2 e1 own)
        else .stuck
  | .lcO own tg i ifs elt, e => match slot e i with
      | some v => (match v.d with
        | .lst ds => if ds.length < lineD ∧ i ∉ own ∧ (∀ j ∈ own, j ∉ io ∧ j < e.length) then
          (lcI own i (fun d en => match asgT io tg d en with
            | some en => (evt Φ io ifs en).bind fun b en => if b = true then (ev Φ io elt en).bind fun v en => .ok (some v.d) en else .ok none en
            | none => .stuck) ds.length 0 (wipeE e own)).bind fun rs e2 => .ok ⟨.lst rs, true⟩ (backE e2 e own)
          else .stuck
        | _ => .stuck)
      | none => .stuck
  | .callF j es, e => (evo Φ io es e).bind fun os e => callFO Φ j os e
  | .methF a m es, e => (mkO a (ev Φ io a) e).bind fun x e => match x.get e with
      | some (.obj c fs) => if fs.all (fun p => Φ.fld c p.1) = true then (match Φ.meth c m with
        | some j => (evo Φ io es e).bind fun os e => callFO Φ j (x :: os) e
        | none => .stuck) else .stuck
      | _ => .stuck
  | .orv a b, e => (ev Φ io a e).bind fun v e => orR v e (ev Φ io b e)
  | .cmpR op a b, e => (mkO a (ev Φ io a) e).bind fun x e => (mkO b (ev Φ io b) e).bind fun y e => match (x.get e).bind (resD e.st), (y.get e).bind (resD e.st) with
      | some dx, some dy => R.opt ((cmpD op dx dy).map fun b => ⟨.bl b, false⟩) e
      | _, _ => .stuck
/-- values, one after another: they go into a new thing -/
def evs (Φ : CT) (io : List Nat) : IEs → Env → R (List D)
  | .nil, e => .ok [] e
  | .cons a es, e => (ev Φ io a e).bind fun v e => (evs Φ io es e).bind fun ds e => .ok (v.d :: ds) e
/-- operands -/
def evo (Φ : CT) (io : List Nat) : IEs → Env → R (List Opd)
  | .nil, e => .ok [] e
  | .cons a es, e => (mkO a (ev Φ io a) e).bind fun x e => (evo Φ io es e).bind fun os e => .ok (x :: os) e
/-- tests, all of them -/
def evt (Φ : CT) (io : List Nat) : IEs → Env → R Bool
  | .nil, e => .ok true e
  | .cons a _, e => (ev Φ io a e).bind fun v e => boolR v fun b => .ok b e
end
inductive Xr where
  | nx (e : Env) | rt (v : Val) (e : Env) | bk (e : Env) | ct (e : Env) | exc (x : Exc) (e : Env) | stuck
def R.x {α : Type} (r : R α) (f : α → Env → Xr) : Xr := match r with
  | .ok a e => f a e
  | .exc x e => .exc x e
  | .stuck => .stuck
def forL (t : D → Env → Xr) : List D → Env → Xr
  | [], e => .nx e
  | d :: ds, e => match t d e with
    | .nx e => forL t ds e
    | .ct e => forL t ds e
    | .bk e => .nx e
    | r => r
/-- a loop over a name's list, read anew at each turn -/
def forI (i : Nat) (t : D → Env → Xr) : Nat → Nat → Env → Xr
  | m, k, e => match slot e i with
    | some v => (match v.d with
      | .lst ds => (match ds[k]? with
        | none => .nx e
        | some d => (match m with
          | 0 => .stuck
          | m + 1 => (match t d e with
            | .nx e => forI i t m (k + 1) e
            | .ct e => forI i t m (k + 1) e
            | .bk e => .nx e
            | r => r)))
      | _ => .stuck)
    | none => .stuck
/-- three lists at a time, the first a name's own -/
def itZ (i : Nat) (os : List Opd) (e : Env) : R (List D × List D) := match os with
  | .rd j :: r => (match rawsO r e with
    | some [.lst ys, .lst zs] => if j = i ∧ ys.length = zs.length ∧ i ∉ noSlots [] r then .ok (ys, zs) (shares e (noSlots [] r)) else .stuck
    | _ => .stuck)
  | _ => .stuck
def forZ (i : Nat) (t : D → Env → Xr) (ys zs : List D) : Nat → Nat → Env → Xr
  | m, k, e => match slot e i with
    | some v => (match v.d with
      | .lst ds => if ds.length = ys.length then (match ds[k]?, ys[k]?, zs[k]? with
        | some x, some y, some z => (match m with
          | 0 => .stuck
          | m + 1 => (match t (.tup [x, y, z]) e with
            | .nx e => forZ i t ys zs m (k + 1) e
            | .ct e => forZ i t ys zs m (k + 1) e
            | .bk e => .nx e
            | r => r))
        | _, _, _ => .nx e) else .stuck
      | _ => .stuck)
    | none => .stuck
def whileL (c : Env → R Val) (t : Env → Xr) : Nat → Env → Xr
  | 0, _ => .stuck
  | n + 1, e => (c e).x fun v e => match v.d with
    | .bl true => (match t e with
      | .nx e => whileL c t n e
      | .ct e => whileL c t n e
      | .bk e => .nx e
      | r => r)
    | .bl false => .nx e
    | _ => .stuck
/-- a dict walked: by its keys, its values, both -/
def itemsL (k : ItK) (d : D) : Option (List D) := match d with
  | .dK kvs => (match k with
    | .keys => some (kvs.map fun p => dKey p.1)
    | .values => some (kvs.map (·.2))
    | .items => some (kvs.map fun p => .tup [dKey p.1, p.2])
    | _ => none)
  | _ => none
/-- a name is given a value: an own one stays own -/
def setV (io : List Nat) (i : Nat) (v : Val) (e : Env) : Xr := if i ∈ io ∨ e.length ≤ i then .stuck else .nx (e.set i (some v))
/-- the name of an except clause goes -/
def Xr.wipe (r : Xr) (i : Nat) : Xr := match r with
  | .nx e => .nx (e.set i none)
  | .rt v e => .rt v (e.set i none)
  | .bk e => .bk (e.set i none)
  | .ct e => .ct (e.set i none)
  | .exc _ _ => .stuck
  | .stuck => .stuck
/-- a handler raises nothing -/
def Xr.calm (r : Xr) : Xr := match r with
  | .exc _ _ => .stuck
  | r => r
mutual
def ex (Φ : CT) (io : List Nat) : IS → Env → Xr
  | .expr a, e => (ev Φ io a e).x fun _ e => .nx e
  | .asg (.nm i) a, e => (ev Φ io a e).x fun v e => setV io i v e
  | .asg t a, e => (ev Φ io a e).x fun v e => match asgT io t v.d e with
    | some e => .nx e
    | none => .stuck
  | .put i k v, e => (ev Φ io v e).x fun v e => if (slot e i).isSome = true then (ev Φ io k e).x fun k e => (match slot e i with
    | some s => if s.own = true then (match muD .put s.d [k.d, v.d] with
      | some (d', _) => .nx (e.set i (some ⟨d', true⟩))
      | none => .stuck) else .stuck
    | none => .stuck) else .stuck
  | .setF i f v, e => (ev Φ io v e).x fun v e => match slot e i with
    | some ⟨.obj c fs, true⟩ => if fs.length < 900 ∧ Φ.fld c f = true ∧ fs.all (fun p => Φ.fld c p.1) = true then .nx (e.set i (some ⟨.obj c (setA fs f v.d), true⟩)) else .stuck
    | _ => .stuck
  | .ret a, e => match a with
    | .var i => (match slot e i with
      | some v => if i ∈ io then .stuck else .rt v e
      | none => .stuck)
    | a => (ev Φ io a e).x fun v e => .rt v e
  | .ite c a b, e => (ev Φ io c e).x fun v e => match v.d with
    | .bl true => exs Φ io a e
    | .bl false => exs Φ io b e
    | _ => .stuck
  | .loop t k it body, e => ((evo Φ io it e).bind fun os e => itR k os e).x fun items e => forL (fun d e => match asgT io t d e with
        | some e => exs Φ io body e
        | none => .stuck) items e
  | .loopL t k i body, e => match slot e i with
      | some v => (match itemsL k v.d with
        | some items => (match forL (fun d e => match asgT io t d e with
          | some e => exs Φ io body e
          | none => .stuck) items (share e i) with
          | .exc _ _ => .stuck
          | r => r)
        | none => .stuck)
      | none => .stuck
  | .loopO t i body, e => match slot e i with
      | some v => (match v.d with
        | .lst ds => forI i (fun d e => match asgT (i :: io) t d e with
          | some e => exs Φ (i :: io) body e
          | none => .stuck) ds.length 0 e
        | _ => .stuck)
      | none => .stuck
  | .loopZ t i es body, e => (evo Φ io (.cons (.var i) es) e).x fun os e => (itZ i os e).x fun p e => forZ i (fun d e => match asgT (i :: io) t d e with
          | some e => exs Φ (i :: io) body e
          | none => .stuck) p.1 p.2 p.1.length 0 e
  | .whl c body, e => whileL (ev Φ io c) (exs Φ io body) Φ.wf e
  | .brk, e => .bk e
  | .cont, e => .ct e
  | .pass, e => .nx e
  | .aug i op a, e => match slot e i with
    | some v => (ev Φ io a e).x fun y e => (match op, v.d, y.d with
      | .Add, .int m, .int n => setV io i ⟨.int (m + n), false⟩ e
      | .Sub, .int m, .int n => setV io i ⟨.int (m - n), false⟩ e
      | _, _, _ => .stuck)
    | none => .stuck
  | .never, _ => .stuck
  | .raise c es, e => (evs Φ io es e).x fun ds e => match Φ.init c with
    | none => (match es with
      | .nil => .exc ⟨c, []⟩ e
      | _ => .stuck)
    | some f => (match ds with
      | [d] => if flatD d = true then .exc ⟨c, [(f, d)]⟩ e else .stuck
      | _ => .stuck)
  | .putC a k v, e => (ev Φ io v e).x fun v e => (mkO a (ev Φ io a) e).x fun x e => (match x.raw e with
      | some (.rf n) => (ev Φ io k e).x fun k e => (match (e.st[n]?).bind fun d => muD .put d [k.d, v.d] with
        | some (d', _) => .nx (e.withSt (e.st.set n d'))
        | none => .stuck)
      | _ => .stuck)
  | .tri body c i hd els, e => match exs Φ io body e with
    | .nx e => exs Φ io els e
    | .exc x e => (match xisa Φ x.c c with
      | some true => (match i with
        | some i => if i ∈ io ∨ e.length ≤ i then .stuck else (exs Φ io hd (e.set i (some ⟨.exn x.c x.fs, false⟩))).wipe i
        | none => (exs Φ io hd e).calm)
      | some false => .exc x e
      | none => .stuck)
    | r => r
def exs (Φ : CT) (io : List Nat) : ISs → Env → Xr
  | .nil, e => .nx e
  | .cons s ss, e => match ex Φ io s e with
    | .nx e => exs Φ io ss e
    | r => r
end
structure DefI where
  nps : Nat
  nsl : Nat
  io : List Bool
  body : ISs
/-- the places of the trues -/
def ioIx : Nat → List Bool → List Nat
  | _, [] => []
  | n, b :: bs => if b = true then n :: ioIx (n + 1) bs else ioIx (n + 1) bs
def argsE : List Bool → List D → List (Option Val)
  | _, [] => []
  | [], d :: ds => some ⟨d, false⟩ :: argsE [] ds
  | b :: bs, d :: ds => some ⟨d, b⟩ :: argsE bs ds
def outsE (env : Env) : List Nat → Option (List D)
  | [] => some []
  | i :: is => match slot env i with
    | some ⟨d, true⟩ => (outsE env is).map (d :: ·)
    | _ => none
def runDef (Φ : CT) (f : DefI) (st ds : List D) : CR :=
  if ds.length = f.nps ∧ f.nps ≤ f.nsl ∧ f.io.length ≤ f.nps then
    match exs Φ (ioIx 0 f.io) f.body ⟨argsE f.io ds ++ List.replicate (f.nsl - f.nps) none, st⟩ with
    | .nx e => (match outsE e (ioIx 0 f.io) with
      | some outs => .ok ⟨.non, false⟩ outs e.st
      | none => .stuck)
    | .rt v e => (match outsE e (ioIx 0 f.io) with
      | some outs => .ok v outs e.st
      | none => .stuck)
    | .exc x e => .exc x e.st
    | _ => .stuck
  else .stuck
structure Pg where
  defs : Nat → Option DefI
  meth : Nat → Nat → Option Nat := fun _ _ => none
  init : Nat → Option Nat := fun _ => none
  isa : Nat → Nat → Option Bool := fun _ _ => none
  fld : Nat → Nat → Bool := fun _ _ => false
def Pg.io (P : Pg) (j : Nat) : List Bool := match P.defs j with
  | some f => f.io
  | none => []
def Pg.call (P : Pg) (wf : Nat) : Nat → Nat → List D → List D → CR
  | 0, _, _, _ => .stuck
  | n + 1, j, st, ds => match P.defs j with
    | some f => runDef ⟨P.call wf n, P.io, P.meth, P.init, P.isa, P.fld, wf, none⟩ f st ds
    | none => .stuck
def Pg.ct (P : Pg) (wf n : Nat) : CT := ⟨P.call wf n, P.io, P.meth, P.init, P.isa, P.fld, wf, none⟩
end MT
namespace MT
open PySem PySem.Spec PyProof.Rows L2
abbrev St := L2.St
structure Sx where
  nm : Nm
  Φ : CT
  io : List Nat
  W : WX
def Ow (σ : St) (env : Env) : AS := fun a => ∃ i x, slot env i = some x ∧ x.own = true ∧ σ[i]? = some (some (.ref a))
structure EnvR (nm : Nm) (F H : Hp) (σ : St) (env : Env) : Prop where
  len : σ.length = env.length
  le : Le F H
  val : ∀ i x, slot env i = some x → ∃ v, σ[i]? = some (some v) ∧ ValR nm F H v x
  sep : ∀ i j x y a, slot env i = some x → slot env j = some y → x.own = true → y.own = true → σ[i]? = some (some (.ref a)) → σ[j]? = some (some (.ref a)) → i = j
  cel : CelR nm F H env.st
  base : Sub nm.F0 F
theorem slot_set (env : Env) (i j : Nat) (o : Option Val) : slot (env.set i o) j = if i = j ∧ i < env.length then o else slot env j := by
  unfold slot Env.set Env.length
  dsimp only
  rw [List.getElem?_set]
  by_cases h : i = j
  · subst h
    by_cases h2 : i < env.sl.length
    · simp [h2]
    · simp [h2]
  · simp [h]
theorem set_len (env : Env) (i : Nat) (o : Option Val) : (env.set i o).length = env.length := List.length_set
theorem slot_lt {env : Env} {i : Nat} {x : Val} (h : slot env i = some x) : i < env.length := by
  unfold slot at h
  cases e : env.sl[i]? with
  | none => rw [e] at h; cases h
  | some o => exact (List.getElem?_eq_some_iff.mp e).1
theorem Ow.withSt {σ : St} {env : Env} {st : List D} {a : Addr} : Ow σ (env.withSt st) a ↔ Ow σ env a := Iff.rfl
section
variable {nm : Nm} {F F' H H' : Hp} {σ : St} {env env' : Env}
theorem EnvR.ow_some (E : EnvR nm F H σ env) {a : Addr} (h : Ow σ env a) : H a ≠ none := by
  obtain ⟨i, x, hx, ho, hs⟩ := h
  obtain ⟨v, hv, r⟩ := E.val i x hx
  rw [hv] at hs
  cases hs
  unfold ValR at r
  rw [if_pos ho] at r
  obtain ⟨b, e, _, q⟩ := r
  cases e
  obtain ⟨o, q⟩ := q.some
  rw [q]
  exact fun z => nomatch z
/-- nothing of one's own is touched -/
theorem EnvR.ext (E : EnvR nm F H σ env) (e : Ext F H F' H') : EnvR nm F' H' σ env where
  len := E.len
  le := e.le
  val := fun i x hx => by
    obtain ⟨v, hv, r⟩ := E.val i x hx
    exact ⟨v, hv, r.step e.step fun _ _ _ => id⟩
  sep := E.sep
  cel := E.cel.ext e
  base := E.base.trans e.step.sub
theorem Ext.stp (e : Ext F H F' H') : Step (Ow σ env) F H (Ow σ env) F' H' := e.step.wk fun _ h => h
theorem slot_share (env : Env) (i j : Nat) : slot (share env i) j = if i = j then (slot env i).map (fun v => ⟨v.d, false⟩) else slot env j := by
  unfold share
  cases e : slot env i with
  | none =>
    by_cases h : i = j
    · subst h; simp [e]
    · simp [h]
  | some v =>
    simp only [slot_set, Option.map_some]
    by_cases h : i = j
    · subst h; simp [slot_lt e]
    · simp [h]
theorem share_len (env : Env) (i : Nat) : (share env i).length = env.length := by
  unfold share
  split
  · exact set_len _ _ _
  · rfl
theorem share_st (env : Env) (i : Nat) : (share env i).st = env.st := by
  unfold share
  split <;> rfl
theorem shares_st (is : List Nat) : ∀ {env : Env}, (shares env is).st = env.st := by
  induction is with
  | nil => intro env; rfl
  | cons i is ih => intro env; show (shares (share env i) is).st = _; rw [ih, share_st]
theorem ow_share {i : Nat} {a : Addr} (h : Ow σ (share env i) a) : Ow σ env a := by
  obtain ⟨j, x, hx, ho, hs⟩ := h
  rw [slot_share] at hx
  by_cases hij : i = j
  · rw [if_pos hij] at hx
    cases e : slot env i with
    | none => rw [e] at hx; cases hx
    | some v => rw [e] at hx; cases hx; cases ho
  · rw [if_neg hij] at hx
    exact ⟨j, x, hx, ho, hs⟩
theorem EnvR.share' (E : EnvR nm F H σ env) (i : Nat) : ∃ F', EnvR nm F' H σ (share env i) ∧ Step (Ow σ env) F H (Ow σ (MT.share env i)) F' H ∧ ∀ b, F' b ≠ none → F b ≠ none ∨ Ow σ env b := by
  cases e : slot env i with
  | none =>
    have : MT.share env i = env := by unfold MT.share; rw [e]
    rw [this]
    exact ⟨F, E, Step.refl, fun b h => .inl h⟩
  | some x =>
    obtain ⟨v, hv, r⟩ := E.val i x e
    cases ho : x.own with
    | false =>
      have : MT.share env i = env := by
        unfold MT.share; rw [e]
        show env.set i (some ⟨x.d, false⟩) = env
        have e2 : (⟨x.d, false⟩ : Val) = x := by cases x; simp only at ho; rw [ho]
        rw [e2]
        unfold slot at e
        obtain ⟨sl, st⟩ := env
        dsimp only at e
        cases q : sl[i]? with
        | none => rw [q] at e; cases e
        | some o =>
          rw [q] at e; simp only at e; subst e
          show Env.mk (sl.set i (some x)) st = Env.mk sl st
          congr 1
          refine List.ext_getElem? fun k => ?_
          rw [List.getElem?_set]
          by_cases hk : i = k
          · subst hk; rw [if_pos rfl, if_pos (List.getElem?_eq_some_iff.mp q).1, q]
          · rw [if_neg hk]
      rw [this]
      exact ⟨F, E, Step.refl, fun b h => .inl h⟩
    | true =>
      unfold ValR at r
      rw [if_pos ho] at r
      obtain ⟨a, o, rfl, fn, ha, rep, sb, le, no⟩ := r.share E.le
      have ow : Ow σ env a := ⟨i, x, e, ho, hv⟩
      have nw0 : ∀ b, upd F a o b ≠ none → F b ≠ none ∨ Ow σ env b := fun b hb => by
        by_cases hba : b = a
        · subst hba; exact .inr ow
        · rw [upd_ne hba] at hb; exact .inl hb
      refine ⟨upd F a o, ⟨by rw [share_len]; exact E.len, le, fun j y hy => ?_, fun j k y z b hy hz oy oz h1 h2 => ?_, by rw [share_st]; exact E.cel.give fn no, E.base.trans sb⟩, Step.mk5 sb (fun b hb => (nw0 b hb).imp id .inr) (fun _ _ h _ _ => h) (fun b h => .inl (ow_share h)) fun _ h => h, nw0⟩
      · rw [slot_share] at hy
        by_cases hij : i = j
        · subst hij
          rw [if_pos rfl, e] at hy
          cases hy
          exact ⟨_, hv, rep⟩
        · rw [if_neg hij] at hy
          obtain ⟨w, hw, rw'⟩ := E.val j y hy
          refine ⟨w, hw, ?_⟩
          unfold ValR at rw' ⊢
          split
          · rename_i oy
            rw [if_pos oy] at rw'
            obtain ⟨b, rfl, fb, q⟩ := rw'
            have ne : b ≠ a := fun z => by
              subst z
              exact hij (E.sep i j x y b e hy ho oy hv hw)
            exact ⟨b, rfl, by rw [upd_ne ne]; exact fb, q.mono sb rfl⟩
          · rename_i oy
            rw [if_neg oy] at rw'
            exact rw'.mono sb
      · rw [slot_share] at hy hz
        by_cases hij : i = j
        · rw [if_pos hij, e] at hy; cases hy; cases oy
        · by_cases hik : i = k
          · rw [if_pos hik, e] at hz; cases hz; cases oz
          · rw [if_neg hij] at hy; rw [if_neg hik] at hz
            exact E.sep j k y z b hy hz oy oz h1 h2
theorem EnvR.share (E : EnvR nm F H σ env) (i : Nat) : ∃ F', EnvR nm F' H σ (share env i) ∧ Step (Ow σ env) F H (Ow σ (MT.share env i)) F' H := let ⟨F', a, b, _⟩ := E.share' i; ⟨F', a, b⟩
/-- a new own value is given to all -/
theorem EnvR.shareV (E : EnvR nm F H σ env) {v : V} {x : Val} (r : ValR nm F H v x) (n : x.own = true → ∀ p, v = .ref p → ¬ Ow σ env p) :
    ∃ F', EnvR nm F' H σ env ∧ Rep nm F' v x.d ∧ Sub F F' ∧ Le F' H ∧ ∀ b, F' b ≠ none → F b ≠ none ∨ (x.own = true ∧ v = .ref b) := by
  unfold ValR at r
  by_cases ho : x.own = true
  · rw [if_pos ho] at r
    obtain ⟨a, o, rfl, fn, ha, rep, sb, le, no⟩ := r.share E.le
    have na := n ho a rfl
    refine ⟨upd F a o, ⟨E.len, le, fun j y hy => ?_, E.sep, E.cel.give fn no, E.base.trans sb⟩, rep, sb, le, fun b hb => ?_⟩
    · obtain ⟨w, hw, rw'⟩ := E.val j y hy
      refine ⟨w, hw, ?_⟩
      unfold ValR at rw' ⊢
      split
      · rename_i oy
        rw [if_pos oy] at rw'
        obtain ⟨b, rfl, fb, q⟩ := rw'
        have ne : b ≠ a := fun z => by
          subst z
          exact na ⟨j, y, hy, oy, hw⟩
        exact ⟨b, rfl, by rw [upd_ne ne]; exact fb, q.mono sb rfl⟩
      · rename_i oy
        rw [if_neg oy] at rw'
        exact rw'.mono sb
    · by_cases hba : b = a
      · subst hba; exact .inr ⟨ho, rfl⟩
      · rw [upd_ne hba] at hb; exact .inl hb
  · rw [if_neg ho] at r
    exact ⟨F, E, r, Sub.refl _, E.le, fun b hb => .inl hb⟩
end
/-- an exception as it lies -/
def ExcR (nm : Nm) (x : Exc) (cls : Value) (dd : Option Addr) (F : Hp) : Prop := cls = .ref (nm.ca x.c) ∧ ((x.fs = [] ∧ dd = none) ∨ ∃ d fvs, dd = some d ∧ F d = some (.xd fvs) ∧ fvs.map (·.1) = x.fs.map (fun p => nm.fn p.1) ∧ RepL nm F (fvs.map (·.2)) (x.fs.map (·.2)))
structure Rl (α β : Type) where
  r : Hp → α → β → Hp → Hp → Env → Prop
  anti : ∀ {H H1 : Hp} {a : α} {b : β} {F' H' : Hp} {e : Env}, (∀ x, H1 x = none → H x = none) → r H1 a b F' H' e → r H a b F' H' e
def rlV (nm : Nm) (σ : St) : Rl Val V := ⟨fun H x v F' H' e => ValR nm F' H' v x ∧ (x.own = true → ∀ p, v = .ref p → H p = none ∧ ¬ Ow σ e p), fun h q => ⟨q.1, fun o p e => ⟨h _ (q.2 o p e).1, (q.2 o p e).2⟩⟩⟩
def rO (nm : Nm) (σ : St) (H0 F' H' : Hp) (e : Env) (o : Opd) (v : V) : Prop := match o with
  | .tmp x => ValR nm F' H' v x ∧ (x.own = true → ∀ p, v = .ref p → H0 p = none ∧ ¬ Ow σ e p)
  | .rd i => σ[i]? = some (some v)
theorem rO.anti {nm : Nm} {σ : St} {H0 H1 F' H' : Hp} {e : Env} {o : Opd} {v : V} (h : ∀ x, H1 x = none → H0 x = none) (r : rO nm σ H1 F' H' e o v) : rO nm σ H0 F' H' e o v := by
  cases o with
  | rd i => exact r
  | tmp x => exact ⟨r.1, fun o p e => ⟨h _ (r.2 o p e).1, (r.2 o p e).2⟩⟩
def rlO (nm : Nm) (σ : St) : Rl Opd V := ⟨fun H o v F' H' e => rO nm σ H F' H' e o v, fun h q => q.anti h⟩
def rlL (nm : Nm) (σ : St) : Rl (List D) (List V) := ⟨fun _ ds vs F' _ _ => RepL nm F' vs ds, fun _ q => q⟩
def rlOs (nm : Nm) (σ : St) : Rl (List Opd) (List V) := ⟨fun H os vs F' H' e => Paired (rO nm σ H F' H' e) os vs, fun h q => Paired.mapP q fun _ _ r => r.anti h⟩
def rlB (σ : St) : Rl Bool Bool := ⟨fun _ a b _ _ _ => a = b, fun _ q => q⟩
def Res (c : Sx) (σ : St) (F H : Hp) (env : Env) {α β : Type} (rl : Rl α β) (r : R α) (Q : β → Hp → Prop) : Prop := match r with
  | .ok a env' => ∀ F' H' b, EnvR c.nm F' H' σ env' → Step (Ow σ env) F H (Ow σ env') F' H' → rl.r H a b F' H' env' → Q b H'
  | .exc x env' => ∀ F' H' cls dd, EnvR c.nm F' H' σ env' → Step (Ow σ env) F H (Ow σ env') F' H' → ExcR c.nm x cls dd F' → c.W cls dd σ H'
  | .stuck => False
def tR (c : Sx) {α β : Type} (rl : St → Rl α β) (f : Env → R α) : St → Hp → (β → Hp → Prop) → Prop := fun σ H Q => ∃ F env, EnvR c.nm F H σ env ∧ Res c σ F H env (rl σ) (f env) Q
abbrev tE (c : Sx) (e : IE) : TE := tR c (rlV c.nm) (ev c.Φ c.io e)
abbrev tO (c : Sx) (e : IE) : TE := tR c (rlO c.nm) (mkO e (ev c.Φ c.io e))
section
variable {c : Sx} {σ : St} {F H F1 H1 : Hp} {env env1 : Env} {α β γ δ : Type}
theorem Res.shift {rl : Rl α β} {r : R α} {Q : β → Hp → Prop} (h : Res c σ F H env rl r Q) (s : Step (Ow σ env) F H (Ow σ env1) F1 H1) : Res c σ F1 H1 env1 rl r Q := by
  cases r with
  | ok a e => exact fun F' H' b E S q => h F' H' b E (s.trans S) (rl.anti s.there q)
  | exc x e => exact fun F' H' cls dd E S q => h F' H' cls dd E (s.trans S) q
  | stuck => exact h
theorem Res_bind {r : R α} {g : α → Env → R γ} {rlA : Rl α β} {rlC : Rl γ δ} {Q : δ → Hp → Prop} {Q1 : β → Hp → Prop} (h : Res c σ F H env rlC (r.bind g) Q)
    (k : ∀ a b F1 H1 env1, EnvR c.nm F1 H1 σ env1 → Step (Ow σ env) F H (Ow σ env1) F1 H1 → rlA.r H a b F1 H1 env1 → Res c σ F H env rlC (g a env1) Q → Q1 b H1) : Res c σ F H env rlA r Q1 := by
  cases r with
  | ok a env1 => exact fun F1 H1 b E1 S1 r1 => k a b F1 H1 env1 E1 S1 r1 h
  | exc x env1 => exact h
  | stuck => exact h
theorem Res_bindS {r : R α} {g : α → Env → R γ} {rlA : Rl α β} {rlC : Rl γ δ} {Q : δ → Hp → Prop} {Q1 : β → Hp → Prop} (S : Step (Ow σ env) F H (Ow σ env1) F1 H1) (h : Res c σ F H env rlC (r.bind g) Q)
    (k : ∀ a b F2 H2 env2, EnvR c.nm F2 H2 σ env2 → Step (Ow σ env1) F1 H1 (Ow σ env2) F2 H2 → rlA.r H1 a b F2 H2 env2 → Res c σ F H env rlC (g a env2) Q → Q1 b H2) : Res c σ F1 H1 env1 rlA r Q1 := by
  cases r with
  | ok a env2 => exact fun F2 H2 b E2 S2 r2 => k a b F2 H2 env2 E2 S2 r2 h
  | exc x env2 => exact fun F2 H2 cls dd E2 S2 r2 => h F2 H2 cls dd E2 (S.trans S2) r2
  | stuck => exact h
theorem Step.shared {S S1 : AS} {F H F1 H1 F1' : Hp} (s : Step S F H S1 F1 H1) (b : Sub F1 F1') (n : ∀ a, F1' a ≠ none → F1 a ≠ none ∨ H a = none) : Step S F H S1 F1' H1 :=
  ⟨s.sub.trans b, fun a h => (n a h).elim (s.new a) fun z => .inr (.inl (.inl z)), s.keep, s.les, s.there, fun a h => by
    rcases mrk_of (S := fun _ => False) (F := F1) (H := H) b (fun a h => (n a h).imp id .inl) a h with z | z | z
    · exact s.mrk a z
    · exact .inr (.inl z)
    · exact z.elim⟩
theorem Res.of {rl : St → Rl α β} {r : R α} {Q : β → Hp → Prop} {f : Env → R α} (E : EnvR c.nm F H σ env) (h : Res c σ F H env (rl σ) (f env) Q) : tR c rl f σ H Q := ⟨F, env, E, h⟩
theorem tR_one {f : Env → R α} {rlA : St → Rl α β} {Q : β → Hp → Prop} {Q1 : β → Hp → Prop} (h : tR c rlA f σ H Q) (k : ∀ b H, Q b H → Q1 b H) : tR c rlA f σ H Q1 := by
  obtain ⟨F, env, E, h⟩ := h
  refine ⟨F, env, E, ?_⟩
  cases e : f env with
  | ok a env1 => rw [e] at h; exact fun F' H' b E1 S r => k _ _ (h F' H' b E1 S r)
  | exc x env1 => rw [e] at h; exact h
  | stuck => rw [e] at h; exact h
theorem rO.step {nm : Nm} {o : Opd} {v : V} {H0 F2 H2 : Hp} {env2 : Env} (h : rO nm σ H0 F1 H1 env1 o v) (E : EnvR nm F1 H1 σ env1) (s : Step (Ow σ env1) F1 H1 (Ow σ env2) F2 H2) : rO nm σ H0 F2 H2 env2 o v := by
  cases o with
  | rd i => exact h
  | tmp x =>
    refine ⟨h.1.step s fun o a e => (h.2 o a e).2, fun o p e => ⟨(h.2 o p e).1, fun q => ?_⟩⟩
    rcases s.les p q with z | z
    · exact (h.2 o p e).2 z
    · subst e
      have r := h.1
      unfold ValR at r
      rw [if_pos o] at r
      obtain ⟨b, e, _, q⟩ := r
      cases e
      obtain ⟨u, q⟩ := q.some
      rw [z] at q; cases q
theorem rOs.step {nm : Nm} {os : List Opd} {vs : List V} {H0 F2 H2 : Hp} {env2 : Env} (h : Paired (rO nm σ H0 F1 H1 env1) os vs) (E : EnvR nm F1 H1 σ env1) (s : Step (Ow σ env1) F1 H1 (Ow σ env2) F2 H2) : Paired (rO nm σ H0 F2 H2 env2) os vs := Paired.mapP h fun _ _ r => r.step E s
theorem rO.raw {nm : Nm} {o : Opd} {v : V} {d : D} {H0 : Hp} (h : rO nm σ H0 F H env o v) (E : EnvR nm F H σ env) (e : o.raw env = some d) : DataR nm F H v d := by
  cases o with
  | tmp x => cases e; exact h.1.data
  | rd i =>
    have e : (slot env i).map (·.d) = some d := e
    cases q : slot env i with
    | none => rw [q] at e; cases e
    | some x =>
      rw [q] at e; cases e
      obtain ⟨w, hw, r⟩ := E.val i x q
      have h : σ[i]? = some (some v) := h
      rw [hw] at h; cases h
      exact r.data
theorem DataR.rf {nm : Nm} {v : V} {n : Nat} (h : DataR nm F H v (.rf n)) : ∃ a, v = .ref a ∧ F a = some (.own n) := by
  rcases h with ⟨a, _, q⟩ | h
  · exact q.elim
  · cases h with
    | rf h => exact ⟨_, rfl, h⟩
theorem DataR.deref {nm : Nm} {v : V} {d d' : D} {st : List D} (h : DataR nm F H v d) (C : CelR nm F H st) (e : MT.deref st d = some d') : DataR nm F H v d' := by
  unfold MT.deref at e
  split at e
  · obtain ⟨a, rfl, q⟩ := h.rf
    exact .inl ⟨a, rfl, C.data q e⟩
  · cases e; exact h
theorem get_raw {o : Opd} {d : D} (e : o.get env = some d) : ∃ d0, o.raw env = some d0 ∧ MT.deref env.st d0 = some d := by
  unfold Opd.get at e
  cases q : o.raw env with
  | none => rw [q] at e; cases e
  | some d0 => rw [q] at e; exact ⟨d0, rfl, e⟩
theorem rO.data {nm : Nm} {o : Opd} {v : V} {d : D} {H0 : Hp} (h : rO nm σ H0 F H env o v) (E : EnvR nm F H σ env) (e : o.get env = some d) : DataR nm F H v d := by
  obtain ⟨d0, h1, h2⟩ := get_raw e
  exact (h.raw E h1).deref E.cel h2
end
def Fin (nm : Nm) (F H : Hp) (x : Val) (Q : VK) : Prop := ∀ F' H' v, Ext F H F' H' → ValR nm F' H' v x → (x.own = true → ∀ p, v = .ref p → H p = none) → Q v H'
section
variable {c : Sx} {nm : Nm} {σ : St} {F H : Hp} {env : Env} {Q : VK} {x : Val}
theorem Res.fin (E : EnvR c.nm F H σ env) (h : Res c σ F H env (rlV c.nm σ) (.ok x env) Q) : Fin c.nm F H x Q := fun F' H' v e r n =>
  h F' H' v (E.ext e) (Ext.stp e) ⟨r, fun o p q => ⟨n o p q, fun z => E.ow_some z (n o p q)⟩⟩
theorem Fin.flat (l : Le F H) {v : V} {d : D} (h : Fin nm F H ⟨d, false⟩ Q) (r : Rep nm F v d) : Q v H := h F H v (Ext.refl l) r fun z => nomatch z
theorem Fin.newL (l : Le F H) {vs : List V} {ds : List D} (h : Fin nm F H ⟨.lst ds, true⟩ Q) (r : RepL nm F vs ds) (p : Addr) (n : H p = none) : Q (.ref p) (upd H p (.lst vs)) := by
  obtain ⟨e, fp⟩ := Ext.own (o := .lst vs) l n
  exact h F (upd H p (.lst vs)) (.ref p) e ⟨p, rfl, fp, vs, upd_same, r⟩ fun _ q z => by cases z; exact n
theorem Fin.newK (l : Le F H) {kvs : List (Key × V)} {kds : List (Key × D)} (h : Fin nm F H ⟨.dK kds, true⟩ Q) (k : kvs.map (·.1) = kds.map (·.1)) (r : RepL nm F (kvs.map (·.2)) (kds.map (·.2))) (p : Addr) (n : H p = none) : Q (.ref p) (upd H p (.dK kvs)) := by
  obtain ⟨e, fp⟩ := Ext.own (o := .dK kvs) l n
  exact h F (upd H p (.dK kvs)) (.ref p) e ⟨p, rfl, fp, kvs, upd_same, k, r⟩ fun _ q z => by cases z; exact n
theorem Fin.newT (l : Le F H) {vs : List V} {ds : List D} (h : Fin nm F H ⟨.tup ds, false⟩ Q) (r : RepL nm F vs ds) (p : Addr) (n : H p = none) : Q (.ref p) (upd H p (.tup vs)) := by
  obtain ⟨e, s⟩ := Ext.shr (o := .tup vs) l n (fun _ z => by cases z)
  exact h (upd F p (.tup vs)) (upd H p (.tup vs)) (.ref p) e (.tup upd_same (r.mono s)) fun z => nomatch z
end
section
variable {nm : Nm} {F H : Hp} {v : V}
theorem DataR.int {i : Int} (h : DataR nm F H v (.int i)) : v = .int i := by
  rcases h with ⟨a, _, q⟩ | h
  · exact q.elim
  · cases h; rfl
theorem DataR.str {i : Str} (h : DataR nm F H v (.str i)) : v = .str i := by
  rcases h with ⟨a, _, q⟩ | h
  · exact q.elim
  · cases h; rfl
theorem DataR.bl {i : Bool} (h : DataR nm F H v (.bl i)) : v = .bl i := by
  rcases h with ⟨a, _, q⟩ | h
  · exact q.elim
  · cases h; rfl
theorem DataR.non (h : DataR nm F H v .non) : v = .non := by
  rcases h with ⟨a, _, q⟩ | h
  · exact q.elim
  · cases h; rfl
theorem DataR.lst {ds : List D} (l : Le F H) (h : DataR nm F H v (.lst ds)) : ∃ a vs, v = .ref a ∧ H a = some (.lst vs) ∧ RepL nm F vs ds := by
  rcases h with ⟨a, e, vs, q, r⟩ | h
  · exact ⟨a, vs, e, q, r⟩
  · cases h with
    | lst q r => exact ⟨_, _, rfl, l.lst q, r⟩
theorem DataR.tup {ds : List D} (l : Le F H) (h : DataR nm F H v (.tup ds)) : ∃ a vs, v = .ref a ∧ F a = some (.tup vs) ∧ H a = some (.tup vs) ∧ RepL nm F vs ds := by
  rcases h with ⟨a, e, q⟩ | h
  · exact q.elim
  · cases h with
    | tup q r => exact ⟨_, _, rfl, q, l.tup q, r⟩
theorem DataR.scr {ns : List Int} (l : Le F H) (h : DataR nm F H v (.scr ns)) : ∃ a, v = .ref a ∧ SqL nm.K H a (ns.map V.int) := by
  rcases h with ⟨a, e, q⟩ | h
  · exact q.elim
  · cases h with
    | scr q => exact ⟨_, rfl, q.sq l⟩
theorem DataR.dK {kds : List (Key × D)} (l : Le F H) (h : DataR nm F H v (.dK kds)) : ∃ a kvs, v = .ref a ∧ Rd H a (.dK kvs) ∧ kvs.map (·.1) = kds.map (·.1) ∧ RepL nm F (kvs.map (·.2)) (kds.map (·.2)) := by
  rcases h with ⟨a, e, kvs, q, k, r⟩ | h
  · exact ⟨a, kvs, e, .inl q, k, r⟩
  · cases h with
    | dK q k r => exact ⟨_, _, rfl, l.rdK q, k, r⟩
theorem DataR.obj {cl : Nat} {fds : List (Nat × D)} (l : Le F H) (h : DataR nm F H v (.obj cl fds)) : ∃ a dx fvs, v = .ref a ∧ H a = some (.ins (nm.ca cl) dx fvs) ∧ fvs.map (·.1) = fds.map (fun p => nm.fn p.1) ∧ RepL nm F (fvs.map (·.2)) (fds.map (·.2)) := by
  rcases h with ⟨a, e, dx, fvs, q, k, r⟩ | h
  · exact ⟨a, dx, fvs, e, q, k, r⟩
  · cases h with
    | obj q k r => exact ⟨_, _, _, rfl, l.ins q, k, r⟩
end
theorem line_eq : (sizeLine : Nat) = lineD := by rw [sizeLine_eq]
def rBin (nm : Nm) (op : Operator) : R2 := fun x y H Q => ∃ F d1 d2 z, Le F H ∧ DataR nm F H x d1 ∧ DataR nm F H y d2 ∧ binD op d1 d2 = some z ∧ Fin nm F H z Q
theorem lt_log {j : Int} (h0 : 0 < j) (h : j < 2 ^ 2000) : CDivW 0 j := by
  refine wide_div (b := 2000) h0 ?_ (by decide) (by decide)
  have : (2 : Int) ^ 2000 = ((2 ^ 2000 : Nat) : Int) := by norm_cast
  omega
theorem op_bin {X : Cx} {nm : Nm} {op : Operator} : OpR X (binaryOp op) (rBin nm op) := by
  intro pins s σ H x y v u Q I rx ry h
  obtain ⟨F, d1, d2, z, l, h1, h2, hz, q⟩ := h
  unfold binD at hz
  split at hz
  · cases h1.int; cases h2.int; cases hz
    exact op_add pins s σ H _ _ v u Q I rx ry ⟨_, _, rfl, rfl, q.flat l .int⟩
  · cases h1.int; cases h2.int; cases hz
    exact op_sub pins s σ H _ _ v u Q I rx ry ⟨_, _, rfl, rfl, q.flat l .int⟩
  · cases h1.int; cases h2.int
    split at hz
    · rename_i hb
      cases hz
      rw [Bool.or_eq_true] at hb
      rcases hb with hb | hb
      · refine op_mul pins s σ H _ _ v u Q I rx ry ⟨_, _, rfl, rfl, ?_, q.flat l .int⟩
        simpa [smallI, CMul, Bool.or_eq_true, Bool.and_eq_true, decide_eq_true_eq] using hb
      · refine op_mulX pins s σ H _ _ v u Q I rx ry ⟨_, _, rfl, rfl, ?_, q.flat l .int⟩
        have := of_decide_eq_true hb
        unfold CMulX
        omega
    · cases hz
  · cases h1.int; cases h2.int
    split at hz
    · rename_i hb
      cases hz
      exact op_fdivW pins s σ H _ _ v u Q I rx ry ⟨_, _, rfl, rfl, lt_log hb.1 hb.2, q.flat l .int⟩
    · cases hz
  · cases h1.int; cases h2.int
    split at hz
    · rename_i hb
      cases hz
      exact op_mod pins s σ H _ _ v u Q I rx ry ⟨_, _, rfl, rfl, hb, q.flat l .int⟩
    · cases hz
  · cases h1.int; cases h2.int
    split at hz
    · rename_i hb
      cases hz
      exact op_pow pins s σ H _ _ v u Q I rx ry ⟨_, _, rfl, rfl, hb, q.flat l .int⟩
    · cases hz
  · cases h1.str; cases h2.str
    split at hz
    · rename_i hb
      cases hz
      exact op_add_str pins s σ H _ _ v u Q I rx ry ⟨_, _, rfl, rfl, by rw [line_eq]; exact hb, q.flat l .str⟩
    · cases hz
  · obtain ⟨a, vs, rfl, ha, ra⟩ := h1.lst l
    obtain ⟨b, ws, rfl, hb, rb⟩ := h2.lst l
    split at hz
    · rename_i hl
      cases hz
      exact op_cat pins s σ H _ _ v u Q I rx ry ⟨_, _, _, _, rfl, rfl, ha, hb, by rw [line_eq, ra.length, rb.length]; exact hl, q.newL l (ra.append rb)⟩
    · cases hz
  · obtain ⟨a, vs, rfl, fa, ha, ra⟩ := h1.tup l
    obtain ⟨b, ws, rfl, fb, hb, rb⟩ := h2.tup l
    split at hz
    · rename_i hl
      cases hz
      refine op_catA pins s σ H _ _ v u Q I rx ry ⟨_, _, _, _, rfl, rfl, SqT.of ha, SqT.of hb, by rw [line_eq, ra.length, rb.length]; exact hl, fun z => ?_, fun _ z => ?_, fun _ _ => q.newT l (ra.append rb)⟩
      · subst z; exact q.flat l (.tup fb (by simpa using ra.append rb))
      · subst z; exact q.flat l (.tup fa (by simpa using ra.append rb))
    · cases hz
  · obtain ⟨a, vs, rfl, ha, ra⟩ := h1.lst l
    cases h2.int
    split at hz
    · rename_i hl
      cases hz
      exact op_rep pins s σ H _ _ v u Q I rx ry ⟨_, _, _, rfl, rfl, ha, hl.1, hl.2.1, by rw [line_eq, ra.length]; exact hl.2.2, q.newL l (ra.rep _)⟩
    · cases hz
  · cases hz
end MT
namespace MT
open PySem PySem.Spec PyProof.Rows L2
def eAt (f : D → D → Option Bool) (xs ys : List D) (j : Nat) : Bool := match xs[j]?, ys[j]? with
  | some x, some y => (f x y).getD true
  | _, _ => true
theorem eqL_spec {f : D → D → Option Bool} : ∀ {xs ys : List D} {b : Bool}, eqL f xs ys = some b →
    (∀ (j : Nat) x y, xs[j]? = some x → ys[j]? = some y → ∃ c, f x y = some c) ∧ b = ((List.range (min xs.length ys.length)).all (eAt f xs ys) && xs.length == ys.length)
  | [], [], b, h => by cases h; exact ⟨fun j x y h => by simp at h, by simp⟩
  | [], y :: ys, b, h => by cases h; exact ⟨fun j x y h => by simp at h, by simp⟩
  | x :: xs, [], b, h => by cases h; exact ⟨fun j x y _ h => by simp at h, by simp⟩
  | x :: xs, y :: ys, b, h => by
    unfold eqL at h
    cases e : f x y with
    | none => rw [e] at h; cases h
    | some c =>
      rw [e] at h
      cases e2 : eqL f xs ys with
      | none => rw [e2] at h; cases h
      | some d =>
        rw [e2] at h
        obtain ⟨h1, h2⟩ := eqL_spec e2
        refine ⟨fun j u v hu hv => ?_, ?_⟩
        · cases j with
          | zero => simp at hu hv; subst hu hv; exact ⟨c, e⟩
          | succ j => exact h1 j u v (by simpa using hu) (by simpa using hv)
        · have hb : (c && d) = b := by simpa using h
          rw [← hb, h2]
          have hm : min (x :: xs).length (y :: ys).length = min xs.length ys.length + 1 := by simp only [List.length_cons]; omega
          rw [hm, List.range_succ_eq_map, List.all_cons, List.all_map]
          have h0 : eAt f (x :: xs) (y :: ys) 0 = c := by simp [eAt, e]
          rw [h0, Bool.and_assoc]
          congr 2
          simp
theorem eqK_spec {f : D → D → Option Bool} {ys : List (Key × D)} : ∀ {xs : List (Key × D)} {b : Bool}, eqK f xs ys = some b →
    (∀ p ∈ xs, ∀ e, getA ys p.1 = some e → ∃ c, f p.2 e = some c) ∧ b = xs.all fun p => match getA ys p.1 with | none => false | some e => (f p.2 e).getD true
  | [], b, h => by cases h; exact ⟨fun p h => by simp at h, rfl⟩
  | p :: r, b, h => by
    unfold eqK at h
    cases e : getA ys p.1 with
    | none =>
      rw [e] at h
      cases e2 : eqK f r ys with
      | none => simp only [e2] at h; cases h
      | some d =>
        simp only [e2, Option.map_some] at h
        obtain ⟨h1, h2⟩ := eqK_spec e2
        refine ⟨fun q hq u hu => ?_, ?_⟩
        · rcases List.mem_cons.mp hq with rfl | hq
          · rw [e] at hu; cases hu
          · exact h1 q hq u hu
        · cases h; simp [e]
    | some u =>
      rw [e] at h
      cases e1 : f p.2 u with
      | none => simp only [e1] at h; cases h
      | some c =>
        cases e2 : eqK f r ys with
        | none => simp only [e1, e2] at h; cases h
        | some d =>
          simp only [e1, e2, Option.map_some, Option.bind_some] at h
          obtain ⟨h1, h2⟩ := eqK_spec e2
          refine ⟨fun q hq u' hu => ?_, ?_⟩
          · rcases List.mem_cons.mp hq with rfl | hq
            · rw [e] at hu; cases hu; exact ⟨c, e1⟩
            · exact h1 q hq u' hu
          · cases h
            rw [List.all_cons, ← h2]
            simp only [e, e1, Option.getD_some]
section
variable {nm : Nm} {F H : Hp}
theorem getA_mem {κ α : Type} [DecidableEq κ] {l : List (κ × α)} {k : κ} {d : α} (nd : (l.map (·.1)).Nodup) (h : (k, d) ∈ l) : getA l k = some d := by
  induction l with
  | nil => cases h
  | cons p r ih =>
    unfold getA
    rcases List.mem_cons.mp h with e | h
    · subst e; rw [if_pos rfl]
    · rw [List.map_cons, List.nodup_cons] at nd
      have hne : ¬ p.1 = k := fun e => nd.1 (e ▸ List.mem_map.mpr ⟨(k, d), h, rfl⟩)
      rw [if_neg hne]
      exact ih nd.2 h
theorem mem_getA {κ α : Type} [DecidableEq κ] : ∀ {l : List (κ × α)} {k : κ} {d : α}, getA l k = some d → (k, d) ∈ l
  | [], _, _, h => by cases h
  | p :: r, k, d, h => by
    unfold getA at h
    split at h
    · rename_i e; cases h; subst e; exact List.mem_cons_self
    · exact List.mem_cons_of_mem _ (mem_getA h)
/-- a dict's value at a key, in the heap and in the data -/
theorem repK_get {κ : Type} [DecidableEq κ] : ∀ {kvs : List (κ × V)} {kds : List (κ × D)}, kvs.map (·.1) = kds.map (·.1) → RepL nm F (kvs.map (·.2)) (kds.map (·.2)) → ∀ k, (valV kvs k = none ∧ getA kds k = none) ∨ ∃ v d, valV kvs k = some v ∧ getA kds k = some d ∧ Rep nm F v d
  | [], [], _, _, k => .inl ⟨rfl, rfl⟩
  | [], _ :: _, h, _, _ => by cases h
  | _ :: _, [], h, _, _ => by cases h
  | p :: r, q :: t, h, rr, k => by
    simp only [List.map_cons, List.cons.injEq] at h
    cases rr with
    | cons r1 r2 =>
      by_cases e : p.1 = k
      · refine .inr ⟨p.2, q.2, valV_pos e, ?_, r1⟩
        unfold getA; rw [if_pos (h.1.symm.trans e)]
      · rw [valV_neg e]
        have e2 : ¬ q.1 = k := fun z => e (h.1.trans z)
        have : getA (q :: t) k = getA t k := by
          show (if q.1 = k then _ else _) = _
          rw [if_neg e2]
        rw [this]
        exact repK_get h.2 r2 k
theorem DataR.rd_ok {X : Cx} {pins : List (Addr × Obj)} {σ : St} {s : Shared} (I : Inv X pins σ H s) (l : Le F H) {a : Addr} {kvs : List (Key × V)} (h : Rd H a (.dK kvs)) : kvs.length ≤ sizeLine ∧ (a == sysModules) = false ∧ ∃ vs, KV kvs vs ∧ s.heap.DictOf (mixKind X.prog X.w) a vs := h.ok I.hok
theorem dict_nodup {X : Cx} {a : Addr} {vs : List (Key × Value)} {h : Heap} (d : h.DictOf (mixKind X.prog X.w) a vs) : (vs.map (·.1)).Nodup := by
  obtain ⟨_, _, _, _, _, _, _, _, nd⟩ := d
  first | exact nd | exact nd.1 | exact nd.2
theorem eqF_at {A : Around} {s : Shared} {d e : D} {b : Bool} {v w : V} {u t : Value} (h : eqF d e = some b) (r1 : Rep nm F v d) (r2 : Rep nm F w e) (q1 : RelV v u) (q2 : RelV w t) : SeqAt.EqAt A s u t b := by
  unfold eqF at h
  split at h <;> first | cases h | skip
  all_goals (cases r1; cases r2)
  all_goals (have z := eqAt_V (A := A) (s := s) q1 q2 rfl rfl; exact z)
theorem eqF_same {d e : D} {b : Bool} {v : V} (h : eqF d e = some b) (r1 : Rep nm F v d) (r2 : Rep nm F v e) : b = true := by
  unfold eqF at h
  split at h <;> (try cases h) <;> (try (cases r1; cases r2)) <;> simp_all
theorem RepL_same {f : D → D → Option Bool} (hf : ∀ v d e b, Rep nm F v d → Rep nm F v e → f d e = some b → b = true) : ∀ {vs : List V} {xs ys : List D} {b : Bool}, RepL nm F vs xs → RepL nm F vs ys → eqL f xs ys = some b → b = true
  | [], _, _, b, r1, r2, h => by cases r1; cases r2; cases h; rfl
  | v :: vs, _, _, b, r1, r2, h => by
    cases r1 with
    | cons a1 t1 => cases r2 with
      | cons a2 t2 =>
        unfold eqL at h
        rename_i d1 ds1 d2 ds2
        cases e : f d1 d2 with
        | none => rw [e] at h; cases h
        | some c =>
          rw [e] at h
          cases e2 : eqL f ds1 ds2 with
          | none => rw [e2] at h; cases h
          | some c2 =>
            rw [e2] at h
            have h1 := hf _ _ _ _ a1 a2 e
            have h2 := RepL_same hf t1 t2 e2
            subst h1 h2
            simpa using h.symm
end
section
variable {nm : Nm} {F H : Hp} {X : Cx} {pins : List (Addr × Obj)} {σ : St} {s : Shared} {A : Around}
theorem mix_at (I : Inv X pins σ H s) (l : Le F H) (hu : A.units < cLine) {d e : D} {b : Bool} {v w : V} {u t : Value} (h : mixF d e = some b) (r1 : DataR nm F H v d) (r2 : DataR nm F H w e) (q1 : RelV v u) (q2 : RelV w t) :
    SeqAt.EqAt A s u t b ∧ SeqAt.RcAt A s u t b ∧ SeqAt.RcNeAt A s u t (!b) := by
  unfold mixF at h
  split at h
  · cases h; cases r1.bl; cases r2.int; cases q1; obtain ⟨k, rfl⟩ := q2
    exact ⟨SeqAt.EqAt.bool_int _ _ _, SeqAt.RcAt.bool_int _ _ _, SeqAt.RcNeAt.bool_int _ _ _⟩
  · cases h; cases r1.int; cases r2.bl; cases q2; obtain ⟨k, rfl⟩ := q1
    exact ⟨SeqAt.EqAt.int_bool _ _ _, SeqAt.RcAt.int_bool _ _ _, SeqAt.RcNeAt.int_bool _ _ _⟩
  · cases h; obtain ⟨a, vs, rfl, ha, _⟩ := r1.lst l; cases r2.non; cases q1; cases q2
    obtain ⟨_, _, L, _⟩ := I.list (SqL.of ha)
    have L := L.isList
    exact ⟨SeqAt.EqAt.list_none L hu, SeqAt.RcAt.list_none L hu, SeqAt.RcNeAt.list_none L hu⟩
  · cases h; obtain ⟨a, vs, rfl, ha, _⟩ := r2.lst l; cases r1.non; cases q2; cases q1
    obtain ⟨_, _, L, _⟩ := I.list (SqL.of ha)
    have L := L.isList
    exact ⟨SeqAt.EqAt.none_list L hu, SeqAt.RcAt.none_list L hu, SeqAt.RcNeAt.none_list L hu⟩
  · cases h; obtain ⟨a, vs, rfl, ha, _⟩ := r1.lst l; cases r2.bl; cases q1; cases q2
    obtain ⟨_, _, L, _⟩ := I.list (SqL.of ha)
    have L := L.isList
    exact ⟨SeqAt.EqAt.list_bool _ L hu, SeqAt.RcAt.list_bool _ L hu, SeqAt.RcNeAt.list_bool _ L hu⟩
  · cases h; obtain ⟨a, vs, rfl, ha, _⟩ := r2.lst l; cases r1.bl; cases q2; cases q1
    obtain ⟨_, _, L, _⟩ := I.list (SqL.of ha)
    have L := L.isList
    exact ⟨SeqAt.EqAt.bool_list _ L hu, SeqAt.RcAt.bool_list _ L hu, SeqAt.RcNeAt.bool_list _ L hu⟩
  · cases h; obtain ⟨a, vs, rfl, ha, _⟩ := r1.lst l; cases r2.int; cases q1; obtain ⟨k, rfl⟩ := q2
    obtain ⟨_, _, L, _⟩ := I.list (SqL.of ha)
    have L := L.isList
    exact ⟨SeqAt.EqAt.list_int _ _ L hu, SeqAt.RcAt.list_int _ _ L hu, SeqAt.RcNeAt.list_int _ _ L hu⟩
  · cases h; obtain ⟨a, vs, rfl, ha, _⟩ := r2.lst l; cases r1.int; cases q2; obtain ⟨k, rfl⟩ := q1
    obtain ⟨_, _, L, _⟩ := I.list (SqL.of ha)
    have L := L.isList
    exact ⟨SeqAt.EqAt.int_list _ _ L hu, SeqAt.RcAt.int_list _ _ L hu, SeqAt.RcNeAt.int_list _ _ L hu⟩
  · cases h; obtain ⟨a, vs, rfl, ha, _⟩ := r1.lst l; cases r2.str; cases q1; obtain ⟨k, rfl⟩ := q2
    obtain ⟨_, _, L, _⟩ := I.list (SqL.of ha)
    have L := L.isList
    exact ⟨SeqAt.EqAt.list_str _ _ L hu, SeqAt.RcAt.list_str _ _ L hu, SeqAt.RcNeAt.list_str _ _ L hu⟩
  · cases h; obtain ⟨a, vs, rfl, ha, _⟩ := r2.lst l; cases r1.str; cases q2; obtain ⟨k, rfl⟩ := q1
    obtain ⟨_, _, L, _⟩ := I.list (SqL.of ha)
    have L := L.isList
    exact ⟨SeqAt.EqAt.str_list _ _ L hu, SeqAt.RcAt.str_list _ _ L hu, SeqAt.RcNeAt.str_list _ _ L hu⟩
  · cases h; obtain ⟨a, vs, rfl, _, ha, _⟩ := r1.tup l; cases r2.non; cases q1; cases q2
    obtain ⟨_, _, L, _⟩ := I.tuple (SqT.of ha)
    exact ⟨SeqAt.EqAt.tuple_none L hu, SeqAt.RcAt.tuple_none L hu, SeqAt.RcNeAt.tuple_none L hu⟩
  · cases h; obtain ⟨a, vs, rfl, _, ha, _⟩ := r2.tup l; cases r1.non; cases q2; cases q1
    obtain ⟨_, _, L, _⟩ := I.tuple (SqT.of ha)
    exact ⟨SeqAt.EqAt.none_tuple L hu, SeqAt.RcAt.none_tuple L hu, SeqAt.RcNeAt.none_tuple L hu⟩
  · cases h; obtain ⟨a, vs, rfl, _, ha, _⟩ := r1.tup l; cases r2.bl; cases q1; cases q2
    obtain ⟨_, _, L, _⟩ := I.tuple (SqT.of ha)
    exact ⟨SeqAt.EqAt.tuple_bool _ L hu, SeqAt.RcAt.tuple_bool _ L hu, SeqAt.RcNeAt.tuple_bool _ L hu⟩
  · cases h; obtain ⟨a, vs, rfl, _, ha, _⟩ := r2.tup l; cases r1.bl; cases q2; cases q1
    obtain ⟨_, _, L, _⟩ := I.tuple (SqT.of ha)
    exact ⟨SeqAt.EqAt.bool_tuple _ L hu, SeqAt.RcAt.bool_tuple _ L hu, SeqAt.RcNeAt.bool_tuple _ L hu⟩
  · cases h; obtain ⟨a, vs, rfl, _, ha, _⟩ := r1.tup l; cases r2.int; cases q1; obtain ⟨k, rfl⟩ := q2
    obtain ⟨_, _, L, _⟩ := I.tuple (SqT.of ha)
    exact ⟨SeqAt.EqAt.tuple_int _ _ L hu, SeqAt.RcAt.tuple_int _ _ L hu, SeqAt.RcNeAt.tuple_int _ _ L hu⟩
  · cases h; obtain ⟨a, vs, rfl, _, ha, _⟩ := r2.tup l; cases r1.int; cases q2; obtain ⟨k, rfl⟩ := q1
    obtain ⟨_, _, L, _⟩ := I.tuple (SqT.of ha)
    exact ⟨SeqAt.EqAt.int_tuple _ _ L hu, SeqAt.RcAt.int_tuple _ _ L hu, SeqAt.RcNeAt.int_tuple _ _ L hu⟩
  · cases h; obtain ⟨a, vs, rfl, _, ha, _⟩ := r1.tup l; cases r2.str; cases q1; obtain ⟨k, rfl⟩ := q2
    obtain ⟨_, _, L, _⟩ := I.tuple (SqT.of ha)
    exact ⟨SeqAt.EqAt.tuple_str _ _ L hu, SeqAt.RcAt.tuple_str _ _ L hu, SeqAt.RcNeAt.tuple_str _ _ L hu⟩
  · cases h; obtain ⟨a, vs, rfl, _, ha, _⟩ := r2.tup l; cases r1.str; cases q2; obtain ⟨k, rfl⟩ := q1
    obtain ⟨_, _, L, _⟩ := I.tuple (SqT.of ha)
    exact ⟨SeqAt.EqAt.str_tuple _ _ L hu, SeqAt.RcAt.str_tuple _ _ L hu, SeqAt.RcNeAt.str_tuple _ _ L hu⟩
  · cases h; obtain ⟨a1, vs1, rfl, ha1, _⟩ := r1.lst l; obtain ⟨a2, vs2, rfl, _, ha2, _⟩ := r2.tup l; cases q1; cases q2
    obtain ⟨_, _, L1, _⟩ := I.list (SqL.of ha1)
    have L1 := L1.isList
    obtain ⟨_, _, L2, _⟩ := I.tuple (SqT.of ha2)
    exact ⟨SeqAt.EqAt.list_tuple L1 L2 hu, SeqAt.RcAt.list_tuple L1 L2 hu, SeqAt.RcNeAt.list_tuple L1 L2 hu⟩
  · cases h; obtain ⟨a1, vs1, rfl, _, ha1, _⟩ := r1.tup l; obtain ⟨a2, vs2, rfl, ha2, _⟩ := r2.lst l; cases q1; cases q2
    obtain ⟨_, _, L1, _⟩ := I.tuple (SqT.of ha1)
    obtain ⟨_, _, L2, _⟩ := I.list (SqL.of ha2)
    have L2 := L2.isList
    exact ⟨SeqAt.EqAt.tuple_list L1 L2 hu, SeqAt.RcAt.tuple_list L1 L2 hu, SeqAt.RcNeAt.tuple_list L1 L2 hu⟩
  · cases h
theorem eqM_cases {d e : D} {b : Bool} (h : eqM d e = some b) : eqF d e = some b ∨ mixF d e = some b := by
  unfold eqM at h
  cases q : eqF d e with
  | some r => rw [q] at h; exact .inl h
  | none => rw [q] at h; exact .inr h
theorem eqM_at (I : Inv X pins σ H s) (l : Le F H) (hu : A.units < cLine) {d e : D} {b : Bool} {v w : V} {u t : Value} (h : eqM d e = some b) (r1 : Rep nm F v d) (r2 : Rep nm F w e) (q1 : RelV v u) (q2 : RelV w t) : SeqAt.EqAt A s u t b := by
  rcases eqM_cases h with h | h
  · exact eqF_at h r1 r2 q1 q2
  · exact (mix_at I l hu h (.inr r1) (.inr r2) q1 q2).1
theorem eqM_same {d e : D} {b : Bool} {v : V} (h : eqM d e = some b) (r1 : Rep nm F v d) (r2 : Rep nm F v e) : b = true := by
  rcases eqM_cases h with h | h
  · exact eqF_same h r1 r2
  · unfold mixF at h
    split at h <;> first | cases h | skip
    all_goals first
      | (cases r1; cases r2; done)
      | (cases r1 with | lst h1 _ => cases r2 with | tup h2 _ => rw [h1] at h2; cases h2)
      | (cases r1 with | tup h1 _ => cases r2 with | lst h2 _ => rw [h1] at h2; cases h2)
end
section
variable {nm : Nm} {F H : Hp} {X : Cx} {pins : List (Addr × Obj)} {σ : St} {s : Shared}
theorem eqN_same (I : Inv X pins σ H s) (l : Le F H) : ∀ (n : Nat) (d e : D) (b : Bool) (v : V), Rep nm F v d → Rep nm F v e → eqN n d e = some b → b = true
  | 0, d, e, b, v, r1, r2, h => eqM_same h r1 r2
  | n + 1, d, e, b, v, r1, r2, h => by
    unfold eqN at h
    split at h
    · cases r1 with
      | lst h1 t1 => cases r2 with
        | lst h2 t2 =>
          rw [h1] at h2; cases h2
          rw [if_pos (t1.length.symm.trans t2.length)] at h
          exact RepL_same (fun v d e b => eqN_same I l n d e b v) t1 t2 h
    · cases r1 with
      | tup h1 t1 => cases r2 with
        | tup h2 t2 =>
          rw [h1] at h2; cases h2
          exact RepL_same (fun v d e b => eqN_same I l n d e b v) t1 t2 h
    · rename_i xs ys
      cases r1 with
      | dK h1 k1 t1 => cases r2 with
        | dK h2 k2 t2 =>
          rw [h1] at h2; cases h2
          rename_i a kvs
          have hl : xs.length = ys.length := by
            have e1 := congrArg List.length k1
            have e2 := congrArg List.length k2
            simp only [List.length_map] at e1 e2
            omega
          cases hq : eqK (eqN n) xs ys with
          | none => rw [hq] at h; cases h
          | some c0 =>
          rw [hq] at h
          have h : (xs.length == ys.length && c0) = b := by simpa using h
          obtain ⟨p1, p2⟩ := eqK_spec hq
          rw [← h, hl, p2]
          simp only [beq_self_eq_true, Bool.true_and]
          obtain ⟨_, _, vs, kv, dd⟩ := DataR.rd_ok I l (l.rdK h1)
          have nd : (xs.map (·.1)).Nodup := by rw [← k1, kv.keys]; exact dict_nodup dd
          refine List.all_eq_true.mpr fun p hp => ?_
          have g1 : getA xs p.1 = some p.2 := getA_mem nd hp
          rcases repK_get k1 t1 p.1 with ⟨_, z⟩ | ⟨v1, d1, z1, z2, z3⟩
          · rw [g1] at z; cases z
          · rw [g1] at z2; cases z2
            rcases repK_get k2 t2 p.1 with ⟨z, _⟩ | ⟨v2, d2, y1, y2, y3⟩
            · rw [z1] at z; cases z
            · rw [z1] at y1; cases y1
              simp only [y2]
              obtain ⟨c, hc⟩ := p1 p hp d2 y2
              rw [hc]
              exact eqN_same I l n _ _ _ _ z3 y3 hc
    · exact eqM_same h r1 r2
/-- d == e as a tree -/
theorem eqN_tree (I : Inv X pins σ H s) (l : Le F H) : ∀ (n : Nat) (d e : D) (b : Bool) (v w : V) (u t : Value), Rep nm F v d → Rep nm F w e → RelV v u → RelV w t → eqN n d e = some b → PySem.W.EqTree X.prog X.w s n u t b
  | 0, d, e, b, v, w, u, t, r1, r2, q1, q2, h => .leaf fun A hu => eqM_at I l (by omega) h r1 r2 q1 q2
  | n + 1, d, e, b, v, w, u, t, r1, r2, q1, q2, h => by
    by_cases hvw : v = w ∧ ∃ a, v = .ref a
    · obtain ⟨rfl, a, rfl⟩ := hvw
      cases q1; cases q2
      have := eqN_same I l (n + 1) d e b _ r1 r2 h
      subst this
      exact .same
    · unfold eqN at h
      split at h
      · cases r1 with
        | lst h1 t1 => cases r2 with
          | lst h2 t2 =>
            rename_i xs ys a vs b' ws
            cases q1; cases q2
            have hne : a ≠ b' := fun z => hvw ⟨by rw [z], a, rfl⟩
            obtain ⟨us, e1, p1, _⟩ := I.list (SqL.of (l.lst h1))
            obtain ⟨ts, e2, p2, _⟩ := I.list (SqL.of (l.lst h2))
            by_cases hl : xs.length = ys.length
            · rw [if_pos hl] at h
              obtain ⟨g1, g2⟩ := eqL_spec h
              have hsz : us.toArray.size = ts.toArray.size := by simp only [List.size_toArray]; rw [← e1.length, ← e2.length, t1.length, t2.length, hl]
              have eb : b = (List.range us.toArray.size).all (eAt (eqN n) xs ys) := by
                rw [g2]
                simp only [hl, Nat.min_self, beq_self_eq_true, Bool.and_true, List.size_toArray, ← e1.length, t1.length]
              rw [eb]
              refine .lists hne p1.isList p2.isList hsz fun j h1 h2 => ?_
              simp only [List.size_toArray] at h1 h2
              have j1 : j < vs.length := by rw [e1.length]; exact h1
              have j2 : j < ws.length := by rw [e2.length]; exact h2
              obtain ⟨d1, x1, x2⟩ := t1.getV (List.getElem?_eq_getElem j1)
              obtain ⟨d2, y1, y2⟩ := t2.getV (List.getElem?_eq_getElem j2)
              obtain ⟨c, hc⟩ := g1 j d1 d2 x1 y1
              obtain ⟨u1, a1, a2⟩ := e1.get (List.getElem?_eq_getElem j1)
              obtain ⟨u2, b1, b2⟩ := e2.get (List.getElem?_eq_getElem j2)
              have ec : eAt (eqN n) xs ys j = c := by simp [eAt, x1, y1, hc]
              rw [ec]
              have f1 : us.toArray[j] = u1 := by simpa [List.getElem?_eq_getElem h1] using a1
              have f2 : ts.toArray[j] = u2 := by simpa [List.getElem?_eq_getElem h2] using b1
              rw [f1, f2]
              exact eqN_tree I l n d1 d2 c _ _ _ _ x2 y2 a2 b2 hc
            · rw [if_neg hl] at h
              cases h
              refine .listsLen hne p1.isList p2.isList ?_
              simp only [List.size_toArray]
              rw [← e1.length, ← e2.length, t1.length, t2.length]
              simpa using hl
      · cases r1 with
        | tup h1 t1 => cases r2 with
          | tup h2 t2 =>
            rename_i xs ys a vs b' ws
            cases q1; cases q2
            have hne : a ≠ b' := fun z => hvw ⟨by rw [z], a, rfl⟩
            obtain ⟨us, e1, p1, _⟩ := I.tuple (SqT.of (l.tup h1))
            obtain ⟨ts, e2, p2, _⟩ := I.tuple (SqT.of (l.tup h2))
            obtain ⟨g1, g2⟩ := eqL_spec h
            have s1 : us.toArray.size = xs.length := by simp only [List.size_toArray]; rw [← e1.length, t1.length]
            have s2 : ts.toArray.size = ys.length := by simp only [List.size_toArray]; rw [← e2.length, t2.length]
            rw [g2, ← s1, ← s2]
            refine .tuples hne p1 p2 fun j h1 h2 => ?_
            simp only [List.size_toArray] at h1 h2
            have j1 : j < vs.length := by rw [e1.length]; exact h1
            have j2 : j < ws.length := by rw [e2.length]; exact h2
            obtain ⟨d1, x1, x2⟩ := t1.getV (List.getElem?_eq_getElem j1)
            obtain ⟨d2, y1, y2⟩ := t2.getV (List.getElem?_eq_getElem j2)
            obtain ⟨c, hc⟩ := g1 j d1 d2 x1 y1
            obtain ⟨u1, a1, a2⟩ := e1.get (List.getElem?_eq_getElem j1)
            obtain ⟨u2, b1, b2⟩ := e2.get (List.getElem?_eq_getElem j2)
            have ec : eAt (eqN n) xs ys j = c := by simp [eAt, x1, y1, hc]
            rw [ec]
            have f1 : us.toArray[j] = u1 := by simpa [List.getElem?_eq_getElem h1] using a1
            have f2 : ts.toArray[j] = u2 := by simpa [List.getElem?_eq_getElem h2] using b1
            rw [f1, f2]
            exact eqN_tree I l n d1 d2 c _ _ _ _ x2 y2 a2 b2 hc
      · rename_i xs ys
        cases r1 with
        | dK h1 k1 t1 => cases r2 with
          | dK h2 k2 t2 =>
            rename_i a kvs b' lvs
            cases q1; cases q2
            have hne : a ≠ b' := fun z => hvw ⟨by rw [z], a, rfl⟩
            obtain ⟨_, sa, va, kva, da⟩ := DataR.rd_ok I l (l.rdK h1)
            obtain ⟨_, sb, vb, kvb, db⟩ := DataR.rd_ok I l (l.rdK h2)
            have la : va.length = xs.length := by
              have e1 := congrArg List.length k1
              simp only [List.length_map] at e1
              rw [← kva.length, e1]
            have lb : vb.length = ys.length := by
              have e1 := congrArg List.length k2
              simp only [List.length_map] at e1
              rw [← kvb.length, e1]
            have nd : (xs.map (·.1)).Nodup := by rw [← k1, kva.keys]; exact dict_nodup da
            let e : Key → Bool := fun k => match getA xs k, getA ys k with
              | some d, some e => (eqN n d e).getD true
              | _, _ => true
            cases hq : eqK (eqN n) xs ys with
            | none => rw [hq] at h; cases h
            | some c0 =>
            rw [hq] at h
            have h : (xs.length == ys.length && c0) = b := by simpa using h
            obtain ⟨g1, g2⟩ := eqK_spec hq
            have eb : b = (va.length == vb.length && va.all fun p => (valueAt vb p.1).isSome && e p.1) := by
              rw [← h, g2, la, lb]
              congr 1
              have key : va.map (·.1) = xs.map (·.1) := by rw [← kva.keys, k1]
              have one : ∀ k, (valueAt vb k).isSome = (getA ys k).isSome := fun k => by
                rcases repK_get k2 t2 k with ⟨z1, z2⟩ | ⟨v2, d2, z1, z2, _⟩
                · have q := kvb.val k
                  rw [z1] at q
                  rw [z2, q.none_of]
                  rfl
                · have q := kvb.val k
                  rw [z1] at q
                  obtain ⟨_, q, _⟩ := q.some_of
                  rw [z2, q]; rfl
              have e1 : (va.all fun p => (valueAt vb p.1).isSome && e p.1) = ((va.map (·.1)).all fun k => (getA ys k).isSome && e k) := by
                rw [List.all_map]
                congr 1
                funext p
                simp [one]
              have e2 : (xs.all fun p => match getA ys p.1 with | none => false | some e => (eqN n p.2 e).getD true) = ((xs.map (·.1)).all fun k => (getA ys k).isSome && e k) := by
                rw [List.all_map]
                refine Bool.eq_iff_iff.mpr ?_
                simp only [List.all_eq_true]
                refine forall₂_congr fun p hp => ?_
                have g := getA_mem nd (show (p.1, p.2) ∈ xs from hp)
                show _ ↔ ((getA ys p.1).isSome && e p.1) = true
                cases q : getA ys p.1 with
                | none => simp
                | some y => simp [e, g, q]
              rw [e1, e2, key]
            rw [eb]
            refine .dicts hne sa sb da db fun k v y hm hv => ?_
            have hk := getA_mem (dict_nodup da) hm
            rcases repK_get k1 t1 k with ⟨z1, _⟩ | ⟨v1, d1, z1, z2, z3⟩
            · have q := kva.val k
              rw [z1] at q
              have q2 := q.none_of
              have : valueAt va k = some v := by
                obtain ⟨i, hi⟩ := List.getElem?_of_mem hm
                exact valueAt_of_get (dict_nodup da) hi
              rw [this] at q2; cases q2
            · rcases repK_get k2 t2 k with ⟨y1, _⟩ | ⟨v2, d2, y1, y2, y3⟩
              · have q := kvb.val k
                rw [y1] at q
                rw [q.none_of] at hv; cases hv
              · have hb := y2
                have gx : (k, d1) ∈ xs := mem_getA z2
                obtain ⟨c, hc⟩ := g1 (k, d1) gx d2 y2
                have ec : e k = c := by simp only [e, z2, y2, hc, Option.getD_some]
                rw [ec]
                have qa := kva.val k
                rw [z1] at qa
                obtain ⟨ua, q1, q2⟩ := qa.some_of
                have hva : valueAt va k = some v := by
                  obtain ⟨i, hi⟩ := List.getElem?_of_mem hm
                  exact valueAt_of_get (dict_nodup da) hi
                rw [hva] at q1; cases q1
                have qb := kvb.val k
                rw [y1] at qb
                obtain ⟨ub, p1, p2⟩ := qb.some_of
                rw [hv] at p1; cases p1
                exact eqN_tree I l n d1 d2 c _ _ _ _ z3 y3 q2 p2 hc
      · exact .leaf fun A hu => eqM_at I l (by omega) h r1 r2 q1 q2
end
end MT
namespace MT
open PySem PySem.Spec PyProof.Rows L2
section
variable {nm : Nm} {F H : Hp} {X : Cx} {pins : List (Addr × Obj)} {σ : St} {s : Shared}
theorem items_tree (I : Inv X pins σ H s) (l : Le F H) {n : Nat} {xs ys : List D} {vs ws : List V} {us ts : List Value} (t1 : RepL nm F vs xs) (t2 : RepL nm F ws ys) (e1 : Vals vs us) (e2 : Vals ws ts)
    (g1 : ∀ (j : Nat) x y, xs[j]? = some x → ys[j]? = some y → ∃ c, eqN n x y = some c) :
    ∀ j (h1 : j < us.toArray.size) (h2 : j < ts.toArray.size), PySem.W.EqTree X.prog X.w s n us.toArray[j] ts.toArray[j] (eAt (eqN n) xs ys j) := fun j h1 h2 => by
  simp only [List.size_toArray] at h1 h2
  have j1 : j < vs.length := by rw [e1.length]; exact h1
  have j2 : j < ws.length := by rw [e2.length]; exact h2
  obtain ⟨d1, x1, x2⟩ := t1.getV (List.getElem?_eq_getElem j1)
  obtain ⟨d2, y1, y2⟩ := t2.getV (List.getElem?_eq_getElem j2)
  obtain ⟨c, hc⟩ := g1 j d1 d2 x1 y1
  obtain ⟨u1, a1, a2⟩ := e1.get (List.getElem?_eq_getElem j1)
  obtain ⟨u2, b1, b2⟩ := e2.get (List.getElem?_eq_getElem j2)
  have ec : eAt (eqN n) xs ys j = c := by simp [eAt, x1, y1, hc]
  rw [ec]
  have f1 : us.toArray[j] = u1 := by simpa [List.getElem?_eq_getElem h1] using a1
  have f2 : ts.toArray[j] = u2 := by simpa [List.getElem?_eq_getElem h2] using b1
  rw [f1, f2]
  exact eqN_tree I l n d1 d2 c _ _ _ _ x2 y2 a2 b2 hc
def eKey (n : Nat) (xs ys : List (Key × D)) (k : Key) : Bool := match getA xs k, getA ys k with
  | some d, some e => (eqN n d e).getD true
  | _, _ => true
theorem dict_tree (I : Inv X pins σ H s) (l : Le F H) {n : Nat} {xs ys : List (Key × D)} {kvs lvs : List (Key × V)} {va vb : List (Key × Value)} {a b' : Addr}
    (k1 : kvs.map (·.1) = xs.map (·.1)) (t1 : RepL nm F (kvs.map (·.2)) (xs.map (·.2))) (k2 : lvs.map (·.1) = ys.map (·.1)) (t2 : RepL nm F (lvs.map (·.2)) (ys.map (·.2)))
    (kva : KV kvs va) (kvb : KV lvs vb) (da : s.heap.DictOf (mixKind X.prog X.w) a va) (db : s.heap.DictOf (mixKind X.prog X.w) b' vb) {b : Bool} (h : eqN (n + 1) (.dK xs) (.dK ys) = some b) :
    (∀ k v y, (k, v) ∈ va → valueAt vb k = some y → PySem.W.EqTree X.prog X.w s n v y (eKey n xs ys k)) ∧ b = (va.length == vb.length && va.all fun p => (valueAt vb p.1).isSome && eKey n xs ys p.1) := by
  have h : (eqK (eqN n) xs ys).map (fun b => xs.length == ys.length && b) = some b := h
  have la : va.length = xs.length := by
    have e1 := congrArg List.length k1
    simp only [List.length_map] at e1
    rw [← kva.length, e1]
  have lb : vb.length = ys.length := by
    have e1 := congrArg List.length k2
    simp only [List.length_map] at e1
    rw [← kvb.length, e1]
  have nd : (xs.map (·.1)).Nodup := by rw [← k1, kva.keys]; exact dict_nodup da
  cases hq : eqK (eqN n) xs ys with
  | none => rw [hq] at h; cases h
  | some c0 =>
  rw [hq] at h
  have h : (xs.length == ys.length && c0) = b := by simpa using h
  obtain ⟨g1, g2⟩ := eqK_spec hq
  refine ⟨fun k v y hm hv => ?_, ?_⟩
  · have hva : valueAt va k = some v := by
      obtain ⟨i, hi⟩ := List.getElem?_of_mem hm
      exact valueAt_of_get (dict_nodup da) hi
    rcases repK_get k1 t1 k with ⟨z1, _⟩ | ⟨v1, d1, z1, z2, z3⟩
    · have q := kva.val k
      rw [z1] at q
      have q2 := q.none_of
      rw [hva] at q2; cases q2
    · rcases repK_get k2 t2 k with ⟨y1, _⟩ | ⟨v2, d2, y1, y2, y3⟩
      · have q := kvb.val k
        rw [y1] at q
        rw [q.none_of] at hv; cases hv
      · obtain ⟨c, hc⟩ := g1 (k, d1) (mem_getA z2) d2 y2
        have ec : eKey n xs ys k = c := by simp only [eKey, z2, y2, hc, Option.getD_some]
        rw [ec]
        have qa := kva.val k
        rw [z1] at qa
        obtain ⟨ua, q1, q2⟩ := qa.some_of
        rw [hva] at q1; cases q1
        have qb := kvb.val k
        rw [y1] at qb
        obtain ⟨ub, p1, p2⟩ := qb.some_of
        rw [hv] at p1; cases p1
        exact eqN_tree I l n d1 d2 c _ _ _ _ z3 y3 q2 p2 hc
  · rw [← h, g2, la, lb]
    congr 1
    have key : va.map (·.1) = xs.map (·.1) := by rw [← kva.keys, k1]
    have one : ∀ k, (valueAt vb k).isSome = (getA ys k).isSome := fun k => by
      rcases repK_get k2 t2 k with ⟨z1, z2⟩ | ⟨v2, d2, z1, z2, _⟩
      · have q := kvb.val k
        rw [z1] at q
        rw [z2, q.none_of]
        rfl
      · have q := kvb.val k
        rw [z1] at q
        obtain ⟨_, q, _⟩ := q.some_of
        rw [z2, q]; rfl
    have e1 : (va.all fun p => (valueAt vb p.1).isSome && eKey n xs ys p.1) = ((va.map (·.1)).all fun k => (getA ys k).isSome && eKey n xs ys k) := by
      rw [List.all_map]
      congr 1
      funext p
      simp [one]
    have e2 : (xs.all fun p => match getA ys p.1 with | none => false | some e => (eqN n p.2 e).getD true) = ((xs.map (·.1)).all fun k => (getA ys k).isSome && eKey n xs ys k) := by
      rw [List.all_map]
      refine Bool.eq_iff_iff.mpr ?_
      simp only [List.all_eq_true]
      refine forall₂_congr fun p hp => ?_
      have g := getA_mem nd (show (p.1, p.2) ∈ xs from hp)
      show _ ↔ ((getA ys p.1).isSome && eKey n xs ys p.1) = true
      cases q : getA ys p.1 with
      | none => simp
      | some y => simp [eKey, g, q]
    rw [e1, key]
    exact e2
end
theorem eqF_flat {d e : D} {b : Bool} (h : eqF d e = some b) : flatD d = true ∧ flatD e = true := by
  unfold eqF at h
  split at h <;> first | cases h | skip
  all_goals exact ⟨rfl, rfl⟩
theorem DataR.flat {nm : Nm} {F H : Hp} {v : V} {d : D} (h : DataR nm F H v d) (f : flatD d = true) : Rep nm F v d := by
  rcases h with ⟨a, _, q⟩ | h
  · cases d <;> first | exact q.elim | cases f
  · exact h
theorem eqF_scal {d e : D} {b : Bool} {nm : Nm} {F : Hp} {v w : V} (h : eqF d e = some b) (r1 : Rep nm F v d) (r2 : Rep nm F w e) : scal v w = true ∧ decide (v = w) = b := by
  unfold eqF at h
  split at h <;> first | cases h | skip
  all_goals (cases r1; cases r2)
  all_goals (refine ⟨rfl, ?_⟩)
  all_goals (simp; try (first | exact Bool.beq_eq_decide_eq _ _ |>.symm | rfl))
def rCmp (nm : Nm) (op : CmpOp) : R2 := fun x y H Q => ∃ F d1 d2 b, Le F H ∧ DataR nm F H x d1 ∧ DataR nm F H y d2 ∧ cmpD op d1 d2 = some b ∧ Q (.bl b) H
section
variable {X : Cx} {nm : Nm}
theorem op_eqX (hu : X.A.units + 64 < cLine) : OpR X (compareOp .Eq) (rCmp nm .Eq) := by
  intro pins s σ H x y v u Q I rx ry h
  obtain ⟨F, d1, d2, b, l0, h1, h2, hb, q⟩ := h
  have r1 := h1
  have r2 := h2
  have l := l0
  clear h1 h2
  replace hb : eqN 50 d1 d2 = some b := hb
  have flat : eqF d1 d2 = some b → wpAny (model X.prog X.w) X.A (compareOp .Eq v u) (EP X pins σ Q) X.xe s := fun e => by
    obtain ⟨e1, e2⟩ := eqF_scal e (r1.flat (eqF_flat e).1) (r2.flat (eqF_flat e).2)
    exact op_eq pins s σ H x y v u Q I rx ry ⟨e1, by rw [e2]; exact q⟩
  have hb2 := hb
  rw [show (50 : Nat) = 49 + 1 from rfl] at hb
  unfold eqN at hb
  split at hb
  · rename_i xs ys
    obtain ⟨a, vs, rfl, h1, t1⟩ := r1.lst l
    obtain ⟨b', ws, rfl, h2, t2⟩ := r2.lst l
    · · cases rx; cases ry
        obtain ⟨us, e1, p1, _⟩ := I.list (SqL.of h1)
        obtain ⟨ts, e2, p2, _⟩ := I.list (SqL.of h2)
        by_cases hl : xs.length = ys.length
        · rw [if_pos hl] at hb
          obtain ⟨g1, g2⟩ := eqL_spec hb
          have hsz : us.toArray.size = ts.toArray.size := by simp only [List.size_toArray]; rw [← e1.length, ← e2.length, t1.length, t2.length, hl]
          refine PySem.W.eq_listsT (n := 49) p1.isList p2.isList hsz (items_tree I l t1 t2 e1 e2 g1) (by omega) ⟨.bl _, H, I, rfl, ?_⟩
          have eb : b = (List.range us.toArray.size).all (eAt (eqN 49) xs ys) := by
            rw [g2]
            simp only [hl, Nat.min_self, beq_self_eq_true, Bool.and_true, List.size_toArray, ← e1.length, t1.length]
          rw [← eb]; exact q
        · rw [if_neg hl] at hb
          cases hb
          refine SeqAt.eq_list_lengthsAt p1.isList p2.isList ?_ (by omega) ⟨.bl _, H, I, rfl, q⟩
          simp only [List.size_toArray]
          rw [← e1.length, ← e2.length, t1.length, t2.length]
          simpa using hl
  · rename_i xs ys
    obtain ⟨a, vs, rfl, _, h1, t1⟩ := r1.tup l
    obtain ⟨b', ws, rfl, _, h2, t2⟩ := r2.tup l
    · · cases rx; cases ry
        obtain ⟨us, e1, p1, _⟩ := I.tuple (SqT.of h1)
        obtain ⟨ts, e2, p2, _⟩ := I.tuple (SqT.of h2)
        obtain ⟨g1, g2⟩ := eqL_spec hb
        have s1 : us.toArray.size = xs.length := by simp only [List.size_toArray]; rw [← e1.length, t1.length]
        have s2 : ts.toArray.size = ys.length := by simp only [List.size_toArray]; rw [← e2.length, t2.length]
        refine PySem.W.eq_tuplesT (n := 49) p1 p2 (items_tree I l t1 t2 e1 e2 g1) (by omega) ⟨.bl _, H, I, rfl, ?_⟩
        rw [s1, s2, ← g2]; exact q
  · rename_i xs ys
    obtain ⟨a, kvs, rfl, h1, k1, t1⟩ := r1.dK l
    obtain ⟨b', lvs, rfl, h2, k2, t2⟩ := r2.dK l
    · · cases rx; cases ry
        obtain ⟨_, sa, va, kva, da⟩ := DataR.rd_ok I l h1
        obtain ⟨_, sb, vb, kvb, db⟩ := DataR.rd_ok I l h2
        obtain ⟨g1, g2⟩ := dict_tree (n := 49) I l k1 t1 k2 t2 kva kvb da db hb2
        refine PySem.W.eq_dictsT (n := 49) sa sb da db g1 (by omega) ⟨.bl _, H, I, rfl, ?_⟩
        rw [← g2]; exact q
  · rcases eqM_cases hb with hb | hb
    · exact flat hb
    · exact (mix_at I l (by omega) hb r1 r2 rx ry).2.1 _ _ _ _ ⟨.bl _, H, I, rfl, q⟩
theorem op_neX (hu : X.A.units + 64 < cLine) : OpR X (compareOp .NotEq) (rCmp nm .NotEq) := by
  intro pins s σ H x y v u Q I rx ry h
  obtain ⟨F, d1, d2, nb, l0, h1, h2, hb, q⟩ := h
  have r1 := h1
  have r2 := h2
  have l := l0
  clear h1 h2
  replace hb : (eqN 50 d1 d2).map (!·) = some nb := hb
  cases hc : eqN 50 d1 d2 with
  | none => rw [hc] at hb; cases hb
  | some b =>
  rw [hc] at hb
  replace hb : (!b) = nb := by simpa using hb
  subst hb
  have hb2 := hc
  rw [show (50 : Nat) = 49 + 1 from rfl] at hc
  unfold eqN at hc
  split at hc
  · rename_i xs ys
    obtain ⟨a, vs, rfl, h1, t1⟩ := r1.lst l
    obtain ⟨b', ws, rfl, h2, t2⟩ := r2.lst l
    · · cases rx; cases ry
        obtain ⟨us, e1, p1, _⟩ := I.list (SqL.of h1)
        obtain ⟨ts, e2, p2, _⟩ := I.list (SqL.of h2)
        by_cases hl : xs.length = ys.length
        · rw [if_pos hl] at hc
          obtain ⟨g1, g2⟩ := eqL_spec hc
          have hsz : us.toArray.size = ts.toArray.size := by simp only [List.size_toArray]; rw [← e1.length, ← e2.length, t1.length, t2.length, hl]
          have it := items_tree I l t1 t2 e1 e2 g1
          refine SeqAt.mt_rcNe_lists (prog := X.prog) (w := X.w) p1.isList p2.isList hsz (by omega) (fun j h1 h2 => (it j h1 h2).at X.A.in1 (by show X.A.units + 1 + 49 < cLine; omega)) ⟨.bl _, H, I, rfl, ?_⟩
          have eb : b = (List.range us.toArray.size).all (eAt (eqN 49) xs ys) := by
            rw [g2]
            simp only [hl, Nat.min_self, beq_self_eq_true, Bool.and_true, List.size_toArray, ← e1.length, t1.length]
          rw [← eb]; exact q
        · rw [if_neg hl] at hc
          cases hc
          refine SeqAt.RcNeAt.lists_lengths p1.isList p2.isList ?_ (by omega) X.prog X.w _ _ ⟨.bl _, H, I, rfl, q⟩
          simp only [List.size_toArray]
          rw [← e1.length, ← e2.length, t1.length, t2.length]
          simpa using hl
  · rename_i xs ys
    obtain ⟨a, vs, rfl, _, h1, t1⟩ := r1.tup l
    obtain ⟨b', ws, rfl, _, h2, t2⟩ := r2.tup l
    · · cases rx; cases ry
        obtain ⟨us, e1, p1, _⟩ := I.tuple (SqT.of h1)
        obtain ⟨ts, e2, p2, _⟩ := I.tuple (SqT.of h2)
        obtain ⟨g1, g2⟩ := eqL_spec hc
        have s1 : us.toArray.size = xs.length := by simp only [List.size_toArray]; rw [← e1.length, t1.length]
        have s2 : ts.toArray.size = ys.length := by simp only [List.size_toArray]; rw [← e2.length, t2.length]
        have it := items_tree I l t1 t2 e1 e2 g1
        refine SeqAt.mt_rcNe_tuples (prog := X.prog) (w := X.w) p1 p2 (by omega) (fun j h1 h2 => (it j h1 h2).at X.A.in1 (by show X.A.units + 1 + 49 < cLine; omega)) ⟨.bl _, H, I, rfl, ?_⟩
        rw [s1, s2, ← g2]; exact q
  · rename_i xs ys
    obtain ⟨a, kvs, rfl, h1, k1, t1⟩ := r1.dK l
    obtain ⟨b', lvs, rfl, h2, k2, t2⟩ := r2.dK l
    · · cases rx; cases ry
        obtain ⟨_, sa, va, kva, da⟩ := DataR.rd_ok I l h1
        obtain ⟨_, sb, vb, kvb, db⟩ := DataR.rd_ok I l h2
        obtain ⟨g1, g2⟩ := dict_tree (n := 49) I l k1 t1 k2 t2 kva kvb da db hb2
        refine PySem.W.mt_neIn sa sb da db (by omega) (fun _ => PySem.W.KeqHitsIn.of (e := eKey 49 xs ys) _ fun k v y hm hv => (g1 k v y hm hv).at X.A.in1 (by show X.A.units + 1 + 49 < cLine; omega)) ⟨.bl _, H, I, rfl, ?_⟩
        rw [← g2]; exact q
  · rcases eqM_cases hc with hc | hc
    · obtain ⟨e1, e2⟩ := eqF_scal hc (r1.flat (eqF_flat hc).1) (r2.flat (eqF_flat hc).2)
      exact op_ne pins s σ H x y v u Q I rx ry ⟨e1, by rw [e2]; exact q⟩
    · exact (mix_at I l (by omega) hc r1 r2 rx ry).2.2 _ _ _ _ ⟨.bl _, H, I, rfl, q⟩
end
end MT
namespace MT
open PySem PySem.Spec PyProof.Rows L2
section
variable {nm : Nm} {F H : Hp}
theorem flat_rep {v : V} {d : D} (h : DataR nm F H v d) (f : flatD d = true) : flatV v = true ∧ Rep nm F v d := by
  cases d with
  | non => cases h.non; exact ⟨rfl, .non⟩
  | bl b => cases h.bl; exact ⟨rfl, .bl⟩
  | int b => cases h.int; exact ⟨rfl, .int⟩
  | str b => cases h.str; exact ⟨rfl, .str⟩
  | _ => cases f
theorem eqG_eqV {v w : V} {d e : D} (r : Rep nm F v d) (q : Rep nm F w e) (f : flatD d = true) (g : flatD e = true) : eqG d e = eqV v w := by
  cases r <;> (first | (exact absurd f Bool.false_ne_true) | (cases q <;> first | (exact absurd g Bool.false_ne_true) | rfl))
theorem flats_rep : ∀ {vs : List V} {ds : List D}, RepL nm F vs ds → ds.all flatD = true → vs.all flatV = true
  | [], _, r, _ => rfl
  | v :: vs, _, r, h => by
    cases r with
    | cons a t =>
      rw [List.all_cons, Bool.and_eq_true] at h
      rw [List.all_cons, Bool.and_eq_true]
      exact ⟨(flat_rep (H := fun _ => none) (.inr a) h.1).1, flats_rep t h.2⟩
theorem memD_inV {x : V} {d : D} (r : Rep nm F x d) (f : flatD d = true) : ∀ {vs : List V} {ds : List D}, RepL nm F vs ds → ds.all flatD = true → inV x vs = ds.any fun y => eqG y d
  | [], _, t, _ => by cases t; rfl
  | v :: vs, _, t, h => by
    cases t with
    | cons a t =>
      rw [List.all_cons, Bool.and_eq_true] at h
      have ih := memD_inV r f t h.2
      unfold inV at ih ⊢
      rw [List.any_cons, List.any_cons, ih, eqG_eqV a r h.1 f]
theorem keyD_rep {v : V} {d : D} {k : Key} (h : DataR nm F H v d) (e : keyD d = some k) : v = kV k := by
  cases d with
  | int i => cases e; exact h.int
  | str x => cases e; exact h.str
  | _ => cases e
theorem keysD_rep : ∀ {vs : List V} {ds : List D} {ks : List Key}, RepL nm F vs ds → keysD ds = some ks → vs = ks.map kV
  | [], _, ks, t, h => by cases t; cases h; rfl
  | v :: vs, _, ks, t, h => by
    cases t with
    | @cons _ d _ ds a t =>
      unfold keysD at h
      cases e : keyD d with
      | none => rw [e] at h; cases h
      | some k =>
        rw [e] at h
        cases e2 : keysD ds with
        | none => rw [e2] at h; cases h
        | some r =>
          rw [e2] at h
          cases h
          rw [List.map_cons, ← keysD_rep t e2, keyD_rep (H := fun _ => none) (.inr a) e]
theorem repK_some {κ : Type} [DecidableEq κ] {kvs : List (κ × V)} {kds : List (κ × D)} (k1 : kvs.map (·.1) = kds.map (·.1)) (t : RepL nm F (kvs.map (·.2)) (kds.map (·.2))) (k : κ) : (valV kvs k).isSome = (getA kds k).isSome := by
  rcases repK_get k1 t k with ⟨a, b⟩ | ⟨_, _, a, b, _⟩ <;> rw [a, b] <;> rfl
theorem DataR.dT {v : V} {kds : List (List Key × D)} (l : Le F H) (h : DataR nm F H v (.dT kds)) : ∃ a kvs, v = .ref a ∧ Rd H a (.dT kvs) ∧ kvs.map (·.1) = kds.map (·.1) ∧ RepL nm F (kvs.map (·.2)) (kds.map (·.2)) := by
  rcases h with ⟨a, e, kvs, q, k, r⟩ | h
  · exact ⟨a, kvs, e, .inl q, k, r⟩
  · cases h with
    | dT q k r => exact ⟨_, _, rfl, l.rdT q, k, r⟩
end
theorem memT_spec {x : D} : ∀ {ys : List D} {b : Bool}, memT x ys = some b → (∀ y ∈ ys, ∃ c, eqD y x = some c) ∧ b = ys.any fun y => (eqD y x).getD false
  | [], b, h => by cases h; exact ⟨fun y hy => absurd hy (List.not_mem_nil), rfl⟩
  | y :: ys, b, h => by
    unfold memT at h
    cases e1 : eqD y x with
    | none => rw [e1] at h; cases h
    | some c =>
      rw [e1] at h
      cases e2 : memT x ys with
      | none => rw [e2] at h; cases h
      | some r =>
        rw [e2] at h
        have h : (c || r) = b := by simpa using h
        obtain ⟨g1, g2⟩ := memT_spec e2
        refine ⟨fun z hz => ?_, ?_⟩
        · rcases List.mem_cons.mp hz with e | e
          · subst e; exact ⟨c, e1⟩
          · exact g1 z e
        · rw [List.any_cons, e1, ← g2]; exact h.symm
section
variable {nm : Nm} {F H : Hp} {X : Cx} {pins : List (Addr × Obj)} {σ : St} {s : Shared}
theorem flatA_rep {F F' : Hp} {v : V} {d : D} (h : flatD d = true) (r : Rep nm F v d) : Rep nm F' v d := by
  cases r with
  | non => exact .non
  | bl => exact .bl
  | int => exact .int
  | str => exact .str
  | _ => cases h
theorem flatAs_rep {F F' : Hp} : ∀ {vs : List V} {ds : List D}, ds.all flatD = true → RepL nm F vs ds → RepL nm F' vs ds
  | _, [], _, r => by cases r; exact .nil
  | _, d :: ds, h, r => by
    rw [List.all_cons, Bool.and_eq_true] at h
    cases r with | cons a b => exact .cons (flatA_rep h.1 a) (flatAs_rep h.2 b)
/-- a flat list that is looked for among flat things and lists: it may be taken for one that all may hold -/
theorem lst_rep (l : Le F H) {ks : List D} {v : V} (r1 : DataR nm F H v (.lst ks)) (hk : ks.all flatD = true) {xs : List D} {vs : List V} (t1 : RepL nm F vs xs) (hx : xs.all flat1 = true) : ∃ F', Le F' H ∧ Rep nm F' v (.lst ks) ∧ RepL nm F' vs xs := by
  rcases r1 with ⟨a, rfl, ws, q1, q2⟩ | q
  · have keep : ∀ b o, F b = some o → (o ≠ HO.lst ws → b ≠ a ∨ H a = some o) → True := fun _ _ _ _ => trivial
    have lst : ∀ b us, F b = some (.lst us) → (fun b => if b = a then H a else F b) b = some (.lst us) := fun b us h => by
      show (if b = a then H a else F b) = _
      by_cases e : b = a
      · rw [if_pos e, ← e]; exact l.lst h
      · rw [if_neg e]; exact h
    refine ⟨fun b => if b = a then H a else F b, fun b o h => ?_, .lst (by show (if a = a then H a else F a) = _; rw [if_pos rfl]; exact q1) (flatAs_rep hk q2), ?_⟩
    · have h : (if b = a then H a else F b) = some o := h
      by_cases e : b = a
      · rw [if_pos e, ← e] at h; exact .inl h
      · rw [if_neg e] at h; exact l b o h
    · clear q2 hk
      induction xs generalizing vs with
      | nil => cases t1; exact .nil
      | cons d ds ih =>
        rw [List.all_cons, Bool.and_eq_true] at hx
        cases t1 with
        | cons p t =>
          refine .cons ?_ (ih t hx.2)
          have hd := hx.1
          cases p with
          | non => exact .non
          | bl => exact .bl
          | int => exact .int
          | str => exact .str
          | lst g1 g2 => exact .lst (lst _ _ g1) (flatAs_rep hd g2)
          | @dK b kvs kds g1 g2 g3 =>
            refine .dK (kvs := kvs) ?_ g2 (flatAs_rep (by rw [List.all_map]; exact hd) g3)
            show (if b = a then H a else F b) = _
            have ne : b ≠ a := fun e => by
              subst e
              rcases l.rdK g1 with z | ⟨ob, z⟩
              · rw [q1] at z; cases z
              · rw [q1] at z; cases z
            rw [if_neg ne]; exact g1
          | _ => cases hd
  · exact ⟨F, l, q, t1⟩
/-- the items' == with a thing, one by one -/
theorem mem_eqs' (I : Inv X pins σ H s) (l : Le F H) (hu : X.A.units + 64 < cLine) {k : D} {v : V} {u : Value} (rr : Rep nm F v k) (rx : RelV v u) {xs : List D} {vs : List V} {us : List Value} (t1 : RepL nm F vs xs) (e1 : Vals vs us) {b : Bool} (h : memT k xs = some b) :
    ∃ e : Nat → Bool, (∀ j (h : j < us.toArray.size), SeqAt.EqIn X.prog X.w X.A.in1 s us.toArray[j] u (e j)) ∧ (List.range us.toArray.size).any e = b := by
  obtain ⟨g1, g2⟩ := memT_spec h
  have hz : us.toArray.size = xs.length := by simp only [List.size_toArray]; rw [← e1.length, t1.length]
  refine ⟨fun j => match xs[j]? with
    | some d => (eqD d k).getD false
    | none => false, fun j hj => ?_, ?_⟩
  · simp only [List.size_toArray] at hj
    have j1 : j < vs.length := by rw [e1.length]; exact hj
    obtain ⟨d1, x1, x2⟩ := t1.getV (List.getElem?_eq_getElem j1)
    obtain ⟨c, hc⟩ := g1 d1 (List.mem_of_getElem? x1)
    obtain ⟨u1, a1, a2⟩ := e1.get (List.getElem?_eq_getElem j1)
    have f1 : us.toArray[j] = u1 := by simpa [List.getElem?_eq_getElem hj] using a1
    rw [f1]
    simp only [x1, hc, Option.getD_some]
    exact (eqN_tree I l 50 d1 k c _ _ _ _ x2 rr a2 rx hc).at X.A.in1 (by show X.A.units + 1 + 50 < cLine; omega)
  · rw [g2, hz]
    refine Bool.eq_iff_iff.mpr ?_
    simp only [List.any_eq_true, List.mem_range]
    constructor
    · rintro ⟨j, hj, q⟩
      rw [List.getElem?_eq_getElem hj] at q
      exact ⟨_, List.getElem_mem hj, q⟩
    · rintro ⟨y, hy, q⟩
      obtain ⟨j, hj, e⟩ := List.getElem_of_mem hy
      exact ⟨j, hj, by rw [List.getElem?_eq_getElem hj, e]; exact q⟩
theorem mem_eqs (I : Inv X pins σ H s) (l : Le F H) (hu : X.A.units + 64 < cLine) {ks : List D} {v : V} {u : Value} (r1 : DataR nm F H v (.tup ks)) (rx : RelV v u) {xs : List D} {vs : List V} {us : List Value} (t1 : RepL nm F vs xs) (e1 : Vals vs us) {b : Bool} (h : memT (.tup ks) xs = some b) :
    ∃ e : Nat → Bool, (∀ j (h : j < us.toArray.size), SeqAt.EqIn X.prog X.w X.A.in1 s us.toArray[j] u (e j)) ∧ (List.range us.toArray.size).any e = b := mem_eqs' I l hu (by
    rcases r1 with ⟨a, _, q⟩ | q
    · exact q.elim
    · exact q) rx t1 e1 h
theorem mem_eqsL (I : Inv X pins σ H s) (l : Le F H) (hu : X.A.units + 64 < cLine) {ks : List D} {v : V} {u : Value} (r1 : DataR nm F H v (.lst ks)) (rx : RelV v u) {xs : List D} {vs : List V} {us : List Value} (t1 : RepL nm F vs xs) (e1 : Vals vs us) {b : Bool} (h : (if ks.all flatD && xs.all flat1 then memT (.lst ks) xs else none) = some b) :
    ∃ e : Nat → Bool, (∀ j (h : j < us.toArray.size), SeqAt.EqIn X.prog X.w X.A.in1 s us.toArray[j] u (e j)) ∧ (List.range us.toArray.size).any e = b := by
  split at h
  · rename_i hf
    rw [Bool.and_eq_true] at hf
    obtain ⟨F', l', r', t'⟩ := lst_rep l r1 hf.1 t1 hf.2
    exact mem_eqs' I l' hu r' rx t' e1 h
  · cases h
end
section
variable {X : Cx} {nm : Nm}
theorem op_inX (hu : X.A.units + 64 < cLine) : OpR X (compareOp .In) (rCmp nm .In) := by
  intro pins s σ H x y v u Q I rx ry h
  obtain ⟨F, d1, d2, b, l, h1, h2, hb, q⟩ := h
  unfold cmpD at hb
  simp only at hb
  split at hb
  · obtain ⟨a, vs, rfl, ha, ra⟩ := h2.lst l
    unfold memD at hb
    split at hb
    · rename_i f
      cases hb
      obtain ⟨f1, r1⟩ := flat_rep h1 f.1
      refine op_in_seq pins s σ H _ _ v u Q I rx ry ⟨a, vs, rfl, .inl (SqL.of ha), f1, flats_rep ra f.2, ?_⟩
      rw [if_neg (by decide), memD_inV r1 f.1 ra f.2]; exact q
    · split at hb
      · cases ry
        obtain ⟨us, e1, p1, _⟩ := I.list (SqL.of ha)
        obtain ⟨e, g1, g2⟩ := mem_eqs I l hu h1 rx ra e1 hb
        exact (SeqAt.mt_in_list e p1.isList g1).1 ⟨.bl _, H, I, rfl, by rw [g2]; exact q⟩
      · cases ry
        obtain ⟨us, e1, p1, _⟩ := I.list (SqL.of ha)
        obtain ⟨e, g1, g2⟩ := mem_eqsL I l hu h1 rx ra e1 hb
        exact (SeqAt.mt_in_list e p1.isList g1).1 ⟨.bl _, H, I, rfl, by rw [g2]; exact q⟩
      · cases hb
  · obtain ⟨a, vs, rfl, _, ha, ra⟩ := h2.tup l
    unfold memD at hb
    split at hb
    · rename_i f
      cases hb
      obtain ⟨f1, r1⟩ := flat_rep h1 f.1
      refine op_in_seq pins s σ H _ _ v u Q I rx ry ⟨a, vs, rfl, .inr (SqT.of ha), f1, flats_rep ra f.2, ?_⟩
      rw [if_neg (by decide), memD_inV r1 f.1 ra f.2]; exact q
    · split at hb
      · cases ry
        obtain ⟨us, e1, p1, _⟩ := I.tuple (SqT.of ha)
        obtain ⟨e, g1, g2⟩ := mem_eqs I l hu h1 rx ra e1 hb
        exact (SeqAt.mt_in_tuple e p1 g1).1 ⟨.bl _, H, I, rfl, by rw [g2]; exact q⟩
      · cases ry
        obtain ⟨us, e1, p1, _⟩ := I.tuple (SqT.of ha)
        obtain ⟨e, g1, g2⟩ := mem_eqsL I l hu h1 rx ra e1 hb
        exact (SeqAt.mt_in_tuple e p1 g1).1 ⟨.bl _, H, I, rfl, by rw [g2]; exact q⟩
      · cases hb
  · obtain ⟨a, kvs, rfl, ha, k, ra⟩ := h2.dK l
    cases e : keyD d1 with
    | none => rw [e] at hb; cases hb
    | some key =>
      rw [e] at hb
      cases hb
      have := keyD_rep h1 e
      subst this
      cases ry
      exact d_in (A := X.A) (by omega) I (.inl ⟨kvs, key, ha, rfl, rfl⟩) rx fun s3 I3 => ⟨.bl _, H, I3, rfl, by rw [repK_some k ra]; exact q⟩
  · split at hb
    · obtain ⟨a, kvs, rfl, ha, k, ra⟩ := h2.dT l
      rename_i ks
      cases e : keysD ks with
      | none => rw [e] at hb; cases hb
      | some key =>
        rw [e] at hb
        cases hb
        obtain ⟨t, vs, rfl, _, ht, rt⟩ := h1.tup l
        cases ry
        exact d_in (A := X.A) (by omega) I (.inr ⟨kvs, key, t, ha, rfl, by rw [ht, keysD_rep rt e], rfl⟩) rx fun s3 I3 => ⟨.bl _, H, I3, rfl, by rw [repK_some k ra]; exact q⟩
    · cases hb
  · cases hb
theorem op_notInX (hu : X.A.units + 64 < cLine) : OpR X (compareOp .NotIn) (rCmp nm .NotIn) := by
  intro pins s σ H x y v u Q I rx ry h
  obtain ⟨F, d1, d2, b, l, h1, h2, hb, q⟩ := h
  unfold cmpD at hb
  simp only at hb
  split at hb
  · rename_i xs
    obtain ⟨a, vs, rfl, ha, ra⟩ := h2.lst l
    unfold memD at hb
    split at hb
    · rename_i f
      cases hb
      obtain ⟨f1, r1⟩ := flat_rep h1 f.1
      refine op_notIn_seq pins s σ H _ _ v u Q I rx ry ⟨a, vs, rfl, .inl (SqL.of ha), f1, flats_rep ra f.2, ?_⟩
      rw [if_pos rfl, memD_inV r1 f.1 ra f.2]; exact q
    · split at hb
      · rename_i ks _
        cases hm : memT (.tup ks) xs with
        | none => rw [hm] at hb; cases hb
        | some c =>
        rw [hm] at hb
        have hb : (!c) = b := by simpa using hb
        cases ry
        obtain ⟨us, e1, p1, _⟩ := I.list (SqL.of ha)
        obtain ⟨e, g1, g2⟩ := mem_eqs I l hu h1 rx ra e1 hm
        exact (SeqAt.mt_in_list e p1.isList g1).2 ⟨.bl _, H, I, rfl, by rw [g2, hb]; exact q⟩
      · rename_i ks _
        cases hm : (if ks.all flatD && xs.all flat1 then memT (.lst ks) xs else none) with
        | none => rw [hm] at hb; cases hb
        | some c =>
        rw [hm] at hb
        have hb : (!c) = b := by simpa using hb
        cases ry
        obtain ⟨us, e1, p1, _⟩ := I.list (SqL.of ha)
        obtain ⟨e, g1, g2⟩ := mem_eqsL I l hu h1 rx ra e1 hm
        exact (SeqAt.mt_in_list e p1.isList g1).2 ⟨.bl _, H, I, rfl, by rw [g2, hb]; exact q⟩
      · cases hb
  · rename_i xs
    obtain ⟨a, vs, rfl, _, ha, ra⟩ := h2.tup l
    unfold memD at hb
    split at hb
    · rename_i f
      cases hb
      obtain ⟨f1, r1⟩ := flat_rep h1 f.1
      refine op_notIn_seq pins s σ H _ _ v u Q I rx ry ⟨a, vs, rfl, .inr (SqT.of ha), f1, flats_rep ra f.2, ?_⟩
      rw [if_pos rfl, memD_inV r1 f.1 ra f.2]; exact q
    · split at hb
      · rename_i ks _
        cases hm : memT (.tup ks) xs with
        | none => rw [hm] at hb; cases hb
        | some c =>
        rw [hm] at hb
        have hb : (!c) = b := by simpa using hb
        cases ry
        obtain ⟨us, e1, p1, _⟩ := I.tuple (SqT.of ha)
        obtain ⟨e, g1, g2⟩ := mem_eqs I l hu h1 rx ra e1 hm
        exact (SeqAt.mt_in_tuple e p1 g1).2 ⟨.bl _, H, I, rfl, by rw [g2, hb]; exact q⟩
      · rename_i ks _
        cases hm : (if ks.all flatD && xs.all flat1 then memT (.lst ks) xs else none) with
        | none => rw [hm] at hb; cases hb
        | some c =>
        rw [hm] at hb
        have hb : (!c) = b := by simpa using hb
        cases ry
        obtain ⟨us, e1, p1, _⟩ := I.tuple (SqT.of ha)
        obtain ⟨e, g1, g2⟩ := mem_eqsL I l hu h1 rx ra e1 hm
        exact (SeqAt.mt_in_tuple e p1 g1).2 ⟨.bl _, H, I, rfl, by rw [g2, hb]; exact q⟩
      · cases hb
  · obtain ⟨a, kvs, rfl, ha, k, ra⟩ := h2.dK l
    cases e : keyD d1 with
    | none => rw [e] at hb; cases hb
    | some key =>
      rw [e] at hb
      cases hb
      have := keyD_rep h1 e
      subst this
      cases ry
      exact d_notIn (A := X.A) (by omega) I (.inl ⟨kvs, key, ha, rfl, rfl⟩) rx fun s3 I3 => ⟨.bl _, H, I3, rfl, by rw [repK_some k ra]; exact q⟩
  · split at hb
    · obtain ⟨a, kvs, rfl, ha, k, ra⟩ := h2.dT l
      rename_i ks
      cases e : keysD ks with
      | none => rw [e] at hb; cases hb
      | some key =>
        rw [e] at hb
        cases hb
        obtain ⟨t, vs, rfl, _, ht, rt⟩ := h1.tup l
        cases ry
        exact d_notIn (A := X.A) (by omega) I (.inr ⟨kvs, key, t, ha, rfl, by rw [ht, keysD_rep rt e], rfl⟩) rx fun s3 I3 => ⟨.bl _, H, I3, rfl, by rw [repK_some k ra]; exact q⟩
    · cases hb
  · cases hb
theorem op_isX : OpR X (compareOp .Is) (rCmp nm .Is) := by
  intro pins s σ H x y v u Q I rx ry h
  obtain ⟨F, d1, d2, b, l, h1, h2, hb, q⟩ := h
  unfold cmpD at hb
  simp only at hb
  have isN : ∀ c, y = .non → decide (x = .non) = c → Q (.bl c) H → wpAny (model X.prog X.w) X.A (compareOp .Is v u) (EP X pins σ Q) X.xe s := fun c e1 e2 q =>
    op_isN pins s σ H x y v u Q I rx ry ⟨e1, by rw [e2]; exact q⟩
  split at hb <;> (try cases hb)
  · exact isN _ h2.non (by rw [h1.non]; rfl) q
  · exact op_isBl pins s σ H x y v u Q I rx ry ⟨_, _, h1.bl, h2.bl, q⟩
  · cases h1.non; cases h2.bl; cases rx; cases ry
    exact wpAny_is_other rfl (fun z => nomatch z) ⟨.bl false, H, I, rfl, q⟩
  · exact isN _ h2.non (by rw [h1.bl]; rfl) q
  · exact isN _ h2.non (by rw [h1.int]; rfl) q
  · exact isN _ h2.non (by rw [h1.str]; rfl) q
  · exact isN _ h2.non (by obtain ⟨_, _, e, _⟩ := h1.lst l; rw [e]; rfl) q
  · exact isN _ h2.non (by obtain ⟨_, _, e, _⟩ := h1.tup l; rw [e]; rfl) q
  · exact isN _ h2.non (by obtain ⟨_, _, e, _⟩ := h1.dK l; rw [e]; rfl) q
  · exact isN _ h2.non (by obtain ⟨_, _, _, e, _⟩ := h1.obj l; rw [e]; rfl) q
theorem op_isNotX : OpR X (compareOp .IsNot) (rCmp nm .IsNot) := by
  intro pins s σ H x y v u Q I rx ry h
  obtain ⟨F, d1, d2, b, l, h1, h2, hb, q⟩ := h
  unfold cmpD at hb
  simp only at hb
  have isN : ∀ c, y = .non → (!decide (x = .non)) = c → Q (.bl c) H → wpAny (model X.prog X.w) X.A (compareOp .IsNot v u) (EP X pins σ Q) X.xe s := fun c e1 e2 q =>
    op_notN pins s σ H x y v u Q I rx ry ⟨e1, by rw [e2]; exact q⟩
  split at hb <;> (try cases hb)
  · exact isN _ h2.non (by rw [h1.non]; rfl) q
  · exact op_notBl pins s σ H x y v u Q I rx ry ⟨_, _, h1.bl, h2.bl, q⟩
  · cases h1.non; cases h2.bl; cases rx; cases ry
    exact wpAny_isNot_other rfl (fun z => nomatch z) ⟨.bl true, H, I, rfl, q⟩
  · exact isN _ h2.non (by rw [h1.bl]; rfl) q
  · exact isN _ h2.non (by rw [h1.int]; rfl) q
  · exact isN _ h2.non (by rw [h1.str]; rfl) q
  · exact isN _ h2.non (by obtain ⟨_, _, e, _⟩ := h1.lst l; rw [e]; rfl) q
  · exact isN _ h2.non (by obtain ⟨_, _, e, _⟩ := h1.tup l; rw [e]; rfl) q
  · exact isN _ h2.non (by obtain ⟨_, _, e, _⟩ := h1.dK l; rw [e]; rfl) q
  · exact isN _ h2.non (by obtain ⟨_, _, _, e, _⟩ := h1.obj l; rw [e]; rfl) q
theorem op_cmpX (hu : X.A.units + 64 < cLine) (op : CmpOp) : OpR X (compareOp op) (rCmp nm op) := by
  cases op with
  | Eq => exact op_eqX hu
  | NotEq => exact op_neX hu
  | In => exact op_inX hu
  | NotIn => exact op_notInX hu
  | Is => exact op_isX
  | IsNot => exact op_isNotX
  | Lt =>
    intro pins s σ H x y v u Q I rx ry h
    obtain ⟨F, d1, d2, b, l, h1, h2, hb, q⟩ := h
    unfold cmpD at hb
    simp only at hb
    split at hb <;> cases hb
    · exact op_lt pins s σ H x y v u Q I rx ry ⟨_, _, h1.int, h2.int, q⟩
    · exact op_lt_str pins s σ H x y v u Q I rx ry ⟨_, _, h1.str, h2.str, q⟩
  | LtE =>
    intro pins s σ H x y v u Q I rx ry h
    obtain ⟨F, d1, d2, b, l, h1, h2, hb, q⟩ := h
    unfold cmpD at hb
    simp only at hb
    split at hb <;> cases hb
    exact op_le pins s σ H x y v u Q I rx ry ⟨_, _, h1.int, h2.int, q⟩
  | Gt =>
    intro pins s σ H x y v u Q I rx ry h
    obtain ⟨F, d1, d2, b, l, h1, h2, hb, q⟩ := h
    unfold cmpD at hb
    simp only at hb
    split at hb <;> cases hb
    exact op_gt pins s σ H x y v u Q I rx ry ⟨_, _, h1.int, h2.int, q⟩
  | GtE =>
    intro pins s σ H x y v u Q I rx ry h
    obtain ⟨F, d1, d2, b, l, h1, h2, hb, q⟩ := h
    unfold cmpD at hb
    simp only at hb
    split at hb <;> cases hb
    exact op_ge pins s σ H x y v u Q I rx ry ⟨_, _, h1.int, h2.int, q⟩
theorem ix_dict (hu : X.A.units + 1 < cLine) : IxR X (fun x y H Q => ∃ a v, x = .ref a ∧ DGet H a y (some v) ∧ Q v H) := by
  intro value slice pins s σ H x y v u Q I rx ry h hs
  obtain ⟨a, w, rfl, g, q⟩ := h
  cases rx
  have hT := dict_typeIs I g
  unfold subscriptTail
  refine wpAny_bind ?_
  rw [getitemInPython_of_ne hT.not_modules]
  refine wpAny_bind (wpAny_specialOf hT PySem.F.slot_dict_getitem.lookup ?_)
  have fin : wpAny (model X.prog X.w) X.A (subscripted slice false (.ref a) u) (fun r s₃ => wpAny (model X.prog X.w) X.A (letTemporaryGo value (.ref a) r >>= fun _ => pure r) (EP X pins σ Q) X.xe s₃) X.xe s := by
    rw [hs]
    exact wpAny_operating (wpAny_mono (d_getItem hu I g ry fun w' s3 I3 rw' => (show EP X pins σ Q w' s3 from ⟨w, H, I3, rw', q⟩)) (fun r s₃ h₃ => wpAny_bind (wpAny_letTemporaryGo (wpAny_pure h₃))) fun _ _ x => x)
  first
    | exact wpAny_pure (wpAny_bind fin)
    | exact wpAny_bind (wpAny_pure (wpAny_bind fin))
    | exact wpAny_bind fin
def rIxX (nm : Nm) : R2 := fun x y H Q => ∃ F d1 d2 d, Le F H ∧ DataR nm F H x d1 ∧ DataR nm F H y d2 ∧ ixD d1 d2 = some d ∧ Fin nm F H ⟨d, false⟩ Q
theorem ixN_len {α β : Type} {xs : List α} {ys : List β} (e : xs.length = ys.length) {i : Int} {d : β} (h : atI ys i = some d) : ∃ j : Nat, ys[j]? = some d ∧ ∀ v, xs[j]? = some v → atI xs i = some v := by
  unfold atI at h ⊢
  rw [e]
  cases q : ixN ys.length i with
  | none => rw [q] at h; cases h
  | some j => rw [q] at h; exact ⟨j, h, fun v hv => hv⟩
theorem ix_X (hK : X.K = nm.K) (hu : X.A.units + 64 < cLine) : IxR X (rIxX nm) := by
  intro value slice pins s σ H x y v u Q I rx ry h hs
  obtain ⟨F, d1, d2, d, l, h1, h2, hb, q⟩ := h
  unfold ixD at hb
  split at hb
  · obtain ⟨a, vs, rfl, ha, ra⟩ := h1.lst l
    cases h2.int
    obtain ⟨j, hj, hv⟩ := ixN_len ra.length hb
    obtain ⟨w, hw, rw'⟩ := ra.get hj
    exact ix_list value slice pins s σ H _ _ v u Q I rx ry ⟨a, vs, _, w, rfl, rfl, SqL.of ha, hv w hw, q.flat l rw'⟩ hs
  · obtain ⟨a, vs, rfl, _, ha, ra⟩ := h1.tup l
    cases h2.int
    obtain ⟨j, hj, hv⟩ := ixN_len ra.length hb
    obtain ⟨w, hw, rw'⟩ := ra.get hj
    exact ix_tup value slice pins s σ H _ _ v u Q I rx ry ⟨a, vs, _, w, rfl, rfl, SqT.of ha, hv w hw, q.flat l rw'⟩ hs
  · rename_i xs i
    obtain ⟨a, rfl, ha⟩ := h1.scr l
    rw [← hK] at ha
    cases h2.int
    cases e : atI xs i with
    | none => rw [e] at hb; cases hb
    | some n =>
      rw [e] at hb; cases hb
      obtain ⟨j, hj, hv⟩ := ixN_len (xs := xs.map V.int) (by simp) e
      exact ix_list value slice pins s σ H _ _ v u Q I rx ry ⟨a, _, _, V.int n, rfl, rfl, ha, hv _ (by simp [hj]), q.flat l .int⟩ hs
  · rename_i z i
    cases h1.str
    cases h2.int
    split at hb
    · rename_i hz
      cases e : atI z.cps.toList i with
      | none => rw [e] at hb; cases hb
      | some c =>
        rw [e] at hb; cases hb
        exact ix_str value slice pins s σ H _ _ v u Q I rx ry ⟨z, i, c, rfl, rfl, by rw [line_eq]; exact hz, e, q.flat l .str⟩ hs
    · cases hb
  · obtain ⟨a, kvs, rfl, ha, k, ra⟩ := h1.dK l
    cases e : keyD d2 with
    | none => rw [e] at hb; cases hb
    | some key =>
      rw [e] at hb
      have hb : getA _ key = some d := hb
      have := keyD_rep h2 e
      subst this
      rcases repK_get k ra key with ⟨_, z⟩ | ⟨w, d', z1, z2, z3⟩
      · rw [z] at hb; cases hb
      · rw [z2] at hb; cases hb
        exact ix_dict (by omega) value slice pins s σ H _ _ v u Q I rx ry ⟨a, w, rfl, .inl ⟨kvs, key, ha, rfl, z1.symm⟩, q.flat l z3⟩ hs
  · cases hb
def rSlX2 (nm : Nm) : V → Option Int → Option Int → Hp → VK → Prop := fun x lo hi H Q => ∃ F d z, Le F H ∧ DataR nm F H x d ∧ slD d lo hi = some z ∧ Fin nm F H z Q
theorem cut_rep {nm : Nm} {F : Hp} {vs : List V} {ds : List D} (r : RepL nm F vs ds) (lo hi : Option Int) : RepL nm F (cutV vs lo hi) (cutD ds lo hi) := by
  unfold cutV cutD
  rw [r.length]
  exact (r.drop _).take _
theorem sl_X (hK : X.K = nm.K) : SlR X (rSlX2 nm) := by
  intro pins s σ H x v vl vu lo hi sl Q I rx hs pl pu h
  obtain ⟨F, d, z, l, h1, hb, q⟩ := h
  unfold slD at hb
  split at hb
  · cases hb
    obtain ⟨a, vs, rfl, ha, ra⟩ := h1.lst l
    exact sl_list pins s σ H _ _ _ _ _ _ _ Q I rx hs pl pu ⟨a, vs, rfl, SqL.of ha, q.newL l (cut_rep ra _ _)⟩
  · cases hb
    obtain ⟨a, rfl, ha⟩ := h1.scr l
    rw [← hK] at ha
    rename_i xs
    refine sl_list pins s σ H _ _ _ _ _ _ _ Q I rx hs pl pu ⟨a, xs.map V.int, rfl, ha, q.newL l ?_⟩
    have : (cutD xs lo hi).map D.int = cutD (xs.map D.int) lo hi := by unfold cutD; simp [List.map_drop, List.map_take]
    rw [this]
    exact cut_rep (RepL.of_ints xs) _ _
  · split at hb
    · rename_i hz
      cases hb
      cases h1.str
      exact sl_str pins s σ H _ _ _ _ _ _ _ Q I rx hs pl pu ⟨_, rfl, by rw [line_eq]; exact hz, q.flat l .str⟩
    · cases hb
  · cases hb
    obtain ⟨a, vs, rfl, hF, ha, ra⟩ := h1.tup l
    rename_i xs
    refine sl_tupA pins s σ H _ _ _ _ _ _ _ Q I rx hs pl pu ⟨a, vs, rfl, SqT.of ha, fun hw => ?_, fun _ p hn => q.newT l (cut_rep ra _ _) p hn⟩
    have e : cutD xs lo hi = xs := by
      unfold cutD
      rw [← ra.length, hw.1, hw.2, List.drop_zero, Nat.sub_zero, ra.length, List.take_length]
    rw [e] at q
    exact q.flat l (.tup hF ra)
  · cases hb
end
end MT
namespace MT
open PySem PySem.Spec PyProof.Rows L2
theorem intsD_eq : ∀ {ds : List D} {ns : List Int}, intsD ds = some ns → ds = ns.map D.int
  | [], _, h => by cases h; rfl
  | d :: ds, ns, h => by
    unfold intsD at h
    split at h
    · rename_i h1; cases h1
    · rename_i i r h1
      cases h1
      cases e : intsD ds with
      | none => rw [e] at h; cases h
      | some ms => rw [e] at h; cases h; rw [List.map_cons, ← intsD_eq e]
    · cases h
theorem rise_one {α : Type} {R : α → α → Prop} (irr : ∀ x, ¬ R x x) (tr : ∀ x y z, R x y → R y z → R x z) : ∀ {a b : List α}, a.Pairwise R → b.Pairwise R → (∀ k, k ∈ a ↔ k ∈ b) → a = b
  | [], [], _, _, _ => rfl
  | [], y :: b, _, _, h => absurd ((h y).mpr List.mem_cons_self) (by simp)
  | x :: a, [], _, _, h => absurd ((h x).mp List.mem_cons_self) (by simp)
  | x :: a, y :: b, ha, hb, h => by
    obtain ⟨a1, a2⟩ := List.pairwise_cons.mp ha
    obtain ⟨b1, b2⟩ := List.pairwise_cons.mp hb
    have e : x = y := by
      rcases List.mem_cons.mp ((h x).mp List.mem_cons_self) with e | e
      · exact e
      · rcases List.mem_cons.mp ((h y).mpr List.mem_cons_self) with e2 | e2
        · exact e2.symm
        · exact absurd (tr _ _ _ (b1 x e) (a1 y e2)) (irr y)
    subst e
    rw [rise_one irr tr a2 b2 fun k => ⟨fun hk => ?_, fun hk => ?_⟩]
    · rcases List.mem_cons.mp ((h k).mp (List.mem_cons_of_mem _ hk)) with e | e
      · subst e; exact absurd (a1 k hk) (irr k)
      · exact e
    · rcases List.mem_cons.mp ((h k).mpr (List.mem_cons_of_mem _ hk)) with e | e
      · subst e; exact absurd (b1 k hk) (irr k)
      · exact e
def shC (C : Int) (ns : List Int) : List Int := ns.map (· + C)
def rkC (C : Int) (ns : List Int) : Int := TS.code (2 * C) (shC C ns)
def BqC (C : Int) (ns : List Int) : Prop := ∀ m ∈ ns, -C ≤ m ∧ m < C
theorem BqC.bd {C : Int} {ns : List Int} (h : BqC C ns) : TS.Bd (2 * C) (shC C ns) := fun m hm => by
  obtain ⟨k, hk, e⟩ := List.mem_map.mp hm
  have := h k hk
  subst e
  omega
theorem lexLt_cons (x y : Int) (xs ys : List Int) : lexLt (x :: xs) (y :: ys) = true ↔ x < y ∨ (x = y ∧ lexLt xs ys = true) := by
  rw [show lexLt (x :: xs) (y :: ys) = if x < y then true else if y < x then false else lexLt xs ys from rfl]
  by_cases h1 : x < y
  · simp [h1]
  · by_cases h2 : y < x
    · simp [h1, h2]; omega
    · have : x = y := by omega
      subst this
      simp
theorem lexLt_irr : ∀ xs : List Int, ¬ lexLt xs xs = true
  | [] => by simp [lexLt]
  | x :: xs => by rw [lexLt_cons]; rintro (h | h); · omega
                  · exact lexLt_irr xs h.2
theorem lexLt_tr : ∀ xs ys zs : List Int, lexLt xs ys = true → lexLt ys zs = true → lexLt xs zs = true
  | [], [], _, h, _ => by simp [lexLt] at h
  | [], _ :: _, [], _, h => by simp [lexLt] at h
  | [], _ :: _, _ :: _, _, _ => by simp [lexLt]
  | _ :: _, [], _, h, _ => by simp [lexLt] at h
  | _ :: _, _ :: _, [], _, h => by simp [lexLt] at h
  | x :: xs, y :: ys, z :: zs, h1, h2 => by
    rw [lexLt_cons] at h1 h2 ⊢
    rcases h1 with h1 | ⟨rfl, h1⟩
    · rcases h2 with h2 | ⟨rfl, h2⟩
      · exact .inl (by omega)
      · exact .inl h1
    · rcases h2 with h2 | ⟨rfl, h2⟩
      · exact .inl h2
      · exact .inr ⟨rfl, lexLt_tr xs ys zs h1 h2⟩
theorem lexLt_tot : ∀ xs ys : List Int, ¬ lexLt xs ys = true → ¬ lexLt ys xs = true → xs = ys
  | [], [], _, _ => rfl
  | [], _ :: _, h, _ => absurd (by simp [lexLt]) h
  | _ :: _, [], _, h => absurd (by simp [lexLt]) h
  | x :: xs, y :: ys, h1, h2 => by
    rw [lexLt_cons] at h1 h2
    have e : x = y := by
      have a : ¬ x < y := fun z => h1 (.inl z)
      have b : ¬ y < x := fun z => h2 (.inl z)
      omega
    subst e
    rw [lexLt_tot xs ys (fun z => h1 (.inr ⟨rfl, z⟩)) fun z => h2 (.inr ⟨rfl, z⟩)]
theorem rkC_lex {C : Int} : ∀ {ns ms : List Int}, ns.length = ms.length → BqC C ns → BqC C ms → (rkC C ns < rkC C ms ↔ lexLt ns ms = true)
  | [], [], _, _, _ => by simp [rkC, shC, TS.code, lexLt]
  | [], _ :: _, h, _, _ => by simp at h
  | _ :: _, [], h, _, _ => by simp at h
  | x :: xs, y :: ys, hl, b1, b2 => by
    have hl' : xs.length = ys.length := by simpa using hl
    have c1 : BqC C xs := fun m hm => b1 m (List.mem_cons_of_mem _ hm)
    have c2 : BqC C ys := fun m hm => b2 m (List.mem_cons_of_mem _ hm)
    have hs : (shC C xs).length = (shC C ys).length := by simp [shC, hl']
    have ih := rkC_lex hl' c1 c2
    rw [lexLt_cons, ← ih]
    show TS.code (2 * C) ((x + C) :: shC C xs) < TS.code (2 * C) ((y + C) :: shC C ys) ↔ _
    rcases Int.lt_trichotomy x y with h | h | h
    · exact ⟨fun _ => .inl h, fun _ => TS.code_lt hs c1.bd c2.bd (by omega)⟩
    · subst h
      rw [TS.code_same hs]
      exact ⟨fun z => .inr ⟨rfl, z⟩, fun z => z.elim (fun z => absurd z (by omega)) fun z => z.2⟩
    · have := TS.code_lt hs.symm c2.bd c1.bd (show y + C < x + C by omega)
      exact ⟨fun z => by omega, fun z => z.elim (fun z => absurd z (by omega)) fun z => absurd z.1 (by omega)⟩
theorem rkC_le {C : Int} {ns ms : List Int} (hl : ns.length = ms.length) (b1 : BqC C ns) (b2 : BqC C ms) (h : rkC C ns ≤ rkC C ms) : ¬ lexLt ms ns = true := fun z => by
  have := (rkC_lex hl.symm b2 b1).mpr z
  omega
/-- a bound for all -/
theorem bq_row : ∀ ns : List Int, ∃ C : Int, 0 ≤ C ∧ BqC C ns
  | [] => ⟨0, by omega, fun m hm => by cases hm⟩
  | n :: ns => by
    obtain ⟨C, h0, h⟩ := bq_row ns
    refine ⟨C + n.natAbs + 1, by omega, fun m hm => ?_⟩
    rcases List.mem_cons.mp hm with e | e
    · subst e; omega
    · have := h m e; omega
theorem bq_all : ∀ ls : List (List Int), ∃ C : Int, 0 ≤ C ∧ ∀ l ∈ ls, BqC C l
  | [] => ⟨0, by omega, fun m hm => by cases hm⟩
  | l :: ls => by
    obtain ⟨C, h0, h⟩ := bq_all ls
    obtain ⟨B, g0, g⟩ := bq_row l
    refine ⟨C + B, by omega, fun m hm k hk => ?_⟩
    rcases List.mem_cons.mp hm with e | e
    · subst e; have := g k hk; omega
    · have := h m e k hk; omega
theorem insT_perm (x : List Int) : ∀ l, (insT x l).Perm (x :: l)
  | [] => .refl _
  | y :: ys => by
    unfold insT
    split
    · exact ((insT_perm x ys).cons y).trans (.swap x y ys)
    · exact .refl _
theorem sortT_perm : ∀ l : List (List Int), (sortT l).Perm l
  | [] => .refl _
  | x :: xs => (insT_perm x (sortT xs)).trans ((sortT_perm xs).cons x)
theorem insT_ord (x : List Int) : ∀ {l : List (List Int)}, l.Pairwise (fun a b => ¬ lexLt b a = true) → (insT x l).Pairwise (fun a b => ¬ lexLt b a = true)
  | [], _ => List.pairwise_singleton _ _
  | y :: ys, h => by
    obtain ⟨h1, h2⟩ := List.pairwise_cons.mp h
    unfold insT
    split
    · rename_i c
      refine List.pairwise_cons.mpr ⟨fun z hz => ?_, insT_ord x h2⟩
      rcases List.mem_cons.mp ((insT_perm x ys).mem_iff.mp hz) with e | e
      · subst e; exact fun q => lexLt_irr _ (lexLt_tr _ _ _ c q)
      · exact h1 z e
    · rename_i c
      refine List.pairwise_cons.mpr ⟨fun z hz => ?_, h⟩
      rcases List.mem_cons.mp hz with e | e
      · subst e; exact c
      · intro q
        by_cases hy : lexLt y z = true
        · exact c (lexLt_tr _ _ _ hy q)
        · have := lexLt_tot y z hy (h1 z e); subst this; exact c q
theorem sortT_ord : ∀ l : List (List Int), (sortT l).Pairwise (fun a b => ¬ lexLt b a = true)
  | [] => .nil
  | x :: xs => insT_ord x (sortT_ord xs)
/-- sorted lists of the same rows are one -/
theorem ord_one : ∀ {a b : List (List Int)}, a.Pairwise (fun a b => ¬ lexLt b a = true) → b.Pairwise (fun a b => ¬ lexLt b a = true) → a.Perm b → a = b := fun {a b} ha hb p =>
  List.Perm.eq_of_pairwise (fun x y _ _ h1 h2 => (lexLt_tot x y h2 h1)) ha hb p
theorem insW_mem (x : List Int) : ∀ (l : List (List Int)) (k : List Int), k ∈ insW x l ↔ k = x ∨ k ∈ l
  | [], k => by simp [insW]
  | y :: ys, k => by
    unfold insW
    split
    · simp
    · split
      · rename_i _ e; subst e; simp
      · simp [insW_mem x ys k]; constructor <;> (intro h; rcases h with h | h | h <;> simp [h])
theorem insW_rise (x : List Int) : ∀ {l : List (List Int)}, l.Pairwise (fun a b => lexLt a b = true) → (insW x l).Pairwise (fun a b => lexLt a b = true)
  | [], _ => List.pairwise_singleton _ _
  | y :: ys, h => by
    obtain ⟨h1, h2⟩ := List.pairwise_cons.mp h
    unfold insW
    split
    · rename_i c
      exact List.pairwise_cons.mpr ⟨fun z hz => (List.mem_cons.mp hz).elim (fun e => e ▸ c) fun e => lexLt_tr _ _ _ c (h1 z e), h⟩
    · split
      · exact h
      · rename_i c ne
        refine List.pairwise_cons.mpr ⟨fun z hz => ?_, insW_rise x h2⟩
        rcases (insW_mem x ys z).mp hz with e | e
        · subst e
          by_cases hh : lexLt y z = true
          · exact hh
          · exact absurd (lexLt_tot z y c hh) ne
        · exact h1 z e
theorem ssetT_mem : ∀ (l : List (List Int)) (k : List Int), k ∈ ssetT l ↔ k ∈ l
  | [], k => by simp [ssetT]
  | x :: xs, k => by unfold ssetT; rw [insW_mem, ssetT_mem xs, List.mem_cons]
theorem ssetT_rise : ∀ l : List (List Int), (ssetT l).Pairwise (fun a b => lexLt a b = true)
  | [] => .nil
  | x :: xs => insW_rise x (ssetT_rise xs)
theorem ssetT_one {a l : List (List Int)} (h : a.Pairwise (fun a b => lexLt a b = true)) (m : ∀ k, k ∈ a ↔ k ∈ l) : a = ssetT l :=
  rise_one (fun x => lexLt_irr x) lexLt_tr h (ssetT_rise l) fun k => by rw [m k, ssetT_mem]
theorem tupsD_eq : ∀ {ds : List D} {ls : List (List Int)}, tupsD ds = some ls → ds = ls.map fun l => D.tup (l.map D.int)
  | [], ls, h => by cases h; rfl
  | d :: ds, ls, h => by
    cases d with
    | tup xs =>
      unfold tupsD at h
      cases e1 : intsD xs with
      | none => rw [e1] at h; cases h
      | some ns =>
        rw [e1] at h
        cases e2 : tupsD ds with
        | none => rw [e2] at h; cases h
        | some r =>
          rw [e2] at h
          cases h
          rw [List.map_cons, ← tupsD_eq e2, intsD_eq e1]
    | _ => cases h
section
variable {prog : Program} {w : World} {A : Around} {E : Value → Shared → Prop} {s : Shared}
theorem lex_run {fb : Bool} {R : Bool → Shared → Prop} {xs ys : List Value} {ns ms : List Int} (i : Nat) (hx : IntsAre xs ns) (hy : IntsAre ys ms) (hl : ns.length = ms.length) (h : R (lexLt ns ms) s) :
    PySem.W.KatLex prog w A fb false R (xs.zip ys) i s := by
  induction hx generalizing ys ms i with
  | nil =>
    cases hy with
    | nil => exact PySem.W.kat_nil h
    | cons q u hy => simp at hl
  | @cons p t xs ns hx more =>
    cases hy with
    | nil => simp at hl
    | @cons q u ys ms hy =>
      have hl2 : ns.length = ms.length := by simpa using hl
      show PySem.W.KatLex prog w A fb false R ((Value.int p t, Value.int q u) :: xs.zip ys) i s
      refine PySem.W.kat_cons (wpAny_eqBool_int ?_)
      by_cases e : p = q
      · subst e
        rw [beq_self_eq_true]
        have d2 : lexLt (p :: ns) (p :: ms) = lexLt ns ms := Bool.eq_iff_iff.mpr (by rw [lexLt_cons]; simp)
        rw [d2] at h
        refine PySem.W.kat_yes ?_
        first
          | exact more (i + 1) hy hl2 h
          | exact more _ _ (i + 1) hy hl2 h
      · rw [show (p == q) = false from beq_eq_false_iff_ne.mpr e]
        refine PySem.W.kat_no (TS.oneLt_ints _ ?_)
        have d2 : lexLt (p :: ns) (q :: ms) = decide (p < q) := Bool.eq_iff_iff.mpr (by rw [lexLt_cons]; simp [e])
        rw [← d2]
        exact h
def RowsOk (h : Heap) (d : Nat) (C : Int) (vs : List Value) : Prop := ∀ v, v ∈ vs → ∃ ns, TS.TupInts h v ns ∧ ns.length = d ∧ BqC C ns
theorem RowsOk.keeps {h h' : Heap} {d : Nat} {C : Int} {vs : List Value} (x : RowsOk h d C vs) (k : ∀ b o, h.get? b = some o → o.cls = .type "tuple" → h'.get? b = some o) : RowsOk h' d C vs := fun v hv =>
  let ⟨ns, t, r⟩ := x v hv; ⟨ns, TS.TupInts.keeps t k, r⟩
theorem rows_first {h : Heap} {d : Nat} {C : Int} (hd : 1 ≤ d) : ∀ vs : List Value, RowsOk h d C vs → ∃ heads, PySem.W.KatTups h vs heads ∧ heads.length = vs.length ∧ ∀ f, f ∈ heads → ∃ n t, f = Value.int n t
  | [], _ => ⟨[], PySem.W.KatTups.nil, rfl, fun f hf => by simp at hf⟩
  | v :: vs, x => by
    obtain ⟨heads, k, hl, hi⟩ := rows_first hd vs fun u hu => x u (List.mem_cons_of_mem _ hu)
    obtain ⟨ns, ⟨a, xs, rfl, ⟨o, ho, hc, n, hdt⟩, i⟩, hn, _⟩ := x v (List.mem_cons_self ..)
    obtain ⟨y, ys, e⟩ : ∃ y ys, xs.toList = y :: ys := by
      cases q : xs.toList with
      | nil =>
        rw [q] at i
        have l := i.length
        rw [List.length_nil, hn] at l; omega
      | cons y ys => exact ⟨y, ys, rfl⟩
    obtain ⟨m, t, hy⟩ := i.all y (by rw [e]; exact List.mem_cons_self ..)
    refine ⟨y :: heads, PySem.W.KatTups.cons ho hc hdt ?_ k, by simp [hl], ?_⟩
    · have z := congrArg (fun l : List Value => l[0]?) e; simpa using z
    · intro f hf
      rcases List.mem_cons.mp hf with e2 | e2
      · subst e2; exact ⟨m, t, hy⟩
      · exact hi f e2
theorem rows_kind {d : Nat} {C : Int} {vs : List Value} (hd : 1 ≤ d) (h2 : 2 ≤ vs.length) (x : RowsOk s.heap d C vs) (r : Value → Int) (hr : ∀ v, v ∈ vs → ∀ ns, TS.TupInts s.heap v ns → r v = rkC C ns) (Q : SortKind → Shared → Prop)
    (h : ∀ κ, TS.Cmp prog w A s κ (pairsOf vs) r → Q κ s) : wpAny (model prog w) A (keyKind' vs.toArray) Q E s := by
  obtain ⟨heads, k, hl, hi⟩ := rows_first hd vs x
  refine PySem.W.kat_kind (T := Value.type "int") k (by omega) (fun f hf => ?_) rfl (h _ ?_)
  · obtain ⟨n, t, rfl⟩ := hi f hf; exact PySem.W.Looks.of_pure rfl
  · intro p q hp hq Q' E' hQ
    rw [pairsOf_toList] at hp hq
    obtain ⟨ns, tp, lp, bp⟩ := x _ (mem_zip_self hp).2
    obtain ⟨ms, tq, lq, bq⟩ := x _ (mem_zip_self hq).2
    have e3 := hr _ (mem_zip_self hp).2 _ tp
    have e4 := hr _ (mem_zip_self hq).2 _ tq
    have hQ2 : Q' (lexLt ns ms) s := by
      have z : decide (r p.1 < r q.1) = lexLt ns ms := by rw [e3, e4]; exact Bool.eq_iff_iff.mpr (by rw [decide_eq_true_eq, rkC_lex (by omega) bp bq])
      rw [← z]; exact hQ
    obtain ⟨a, xs, e1, ⟨o, ho, hc, n, hdt⟩, i⟩ := tp
    obtain ⟨a', ys, e2, ⟨o', ho', hc', n', hdt'⟩, i'⟩ := tq
    rw [e1, e2]
    refine PySem.W.kat_lt ho hdt ho' hdt' ?_
    have sz : decide (xs.size < ys.size) = false := by
      have l1 := i.length
      have l2 := i'.length
      rw [Array.length_toList] at l1 l2; exact decide_eq_false (by omega)
    rw [sz]
    exact lex_run 0 i i' (by omega) hQ2
theorem rows_sort {a : Addr} {vs : List Value} {n d : Nat} {C : Int} {P : PySem.Fin → Shared → Prop} (ho : s.heap.get? a = some (seqObj "list" vs.toArray n)) (h64 : vs.length < 64) (hd : 2 ≤ vs.length → 1 ≤ d) (x : RowsOk s.heap d C vs)
    (h : ∀ out : Array Value, out.toList.Perm vs → out.toList.Pairwise (fun u v => rkC C (TS.intsOf s.heap u) ≤ rkC C (TS.intsOf s.heap v)) → P (.done (.ret .none)) { s with heap := sortedHeap s.heap a vs out }) :
    wpAny (model prog w) A (Builtin.«list.sort» ⟨[.ref a], []⟩) P E s := by
  have keep : ∀ b o, s.heap.get? b = some o → o.cls = .type "tuple" → (TS.midHeap s.heap a vs).get? b = some o := fun b o e hc => by
    refine TS.midHeap_old (fun z => ?_) e
    subst z
    rw [ho] at e
    have e' : seqObj "list" vs.toArray n = o := Option.some.inj e
    rw [← e'] at hc
    have c' : Value.type "list" = Value.type "tuple" := hc
    injection c' with c2
    exact absurd c2 (by decide)
  refine SK.plain_sort (r := fun v => rkC C (TS.intsOf s.heap v)) ho h64 (fun h2 Q hQ => ?_) fun ps out h1 h2 h3 => ?_
  · refine rows_kind (s := { s with heap := TS.midHeap s.heap a vs }) (hd h2) h2 (x.keeps keep) _ (fun v hv ns t => ?_) Q hQ
    obtain ⟨ns0, t0, _⟩ := x v hv
    have e : ns = ns0 := t.ints.symm.trans (t0.keeps keep).ints
    rw [e]
    show rkC C (TS.intsOf s.heap v) = _
    rw [t0.ints]
  · obtain ⟨p, o⟩ := TS.out_rank (r := fun v => rkC C (TS.intsOf s.heap v)) h1 h2 h3; exact h out p o
/-- sorted(xs), xs a list of rows -/
theorem rows_sorted {l : Addr} {vs : List Value} {d : Nat} {C : Int} {Q : Value → Shared → Prop} (hl : s.heap.IsList l vs.toArray) (h64 : vs.length < 64) (hd : 2 ≤ vs.length → 1 ≤ d) (x : RowsOk s.heap d C vs)
    (h : ∀ out : Array Value, out.toList.Perm vs → out.toList.Pairwise (fun u v => rkC C (TS.intsOf s.heap u) ≤ rkC C (TS.intsOf s.heap v)) → Q (.ref (s.heap.objs.size + 1)) { s with heap := sortedAll s.heap vs out }) :
    wpAny (model prog w) A (call (.builtin "sorted") [.ref l]) Q E s := by
  refine Calls.call_function_entry kind_sorted plain_sorted entry_sorted (args_sorted1 _) ?_
  unfold Builtin.«sorted»
  refine wpAny_bind (m := checkCount "sorted" 1 1 _) (wpAny_pure ?_)
  refine wpAny_bind (collect_list hl (wpAny_bind (wpAny_newList ?_ (by rw [sizeLine_eq]; omega))) (by rw [sizeLine_eq]; omega))
  have zz : ((s.heap.push (seqObj "list" #[] 0)).update s.heap.objs.size (Obj.mapSeq (· ++ vs.toArray))).objs.size = s.heap.objs.size + 1 := by rw [Heap.size_update, size_push']
  have hL : (((s.heap.push (seqObj "list" #[] 0)).update s.heap.objs.size (Obj.mapSeq (· ++ vs.toArray))).push (seqObj "list" vs.toArray 0)).get? (s.heap.objs.size + 1) = some (seqObj "list" vs.toArray 0) := by
    rw [← zz]; exact Heap.get?_push_size _ rfl
  have keep : ∀ b o, s.heap.get? b = some o → o.cls = .type "tuple" → (((s.heap.push (seqObj "list" #[] 0)).update s.heap.objs.size (Obj.mapSeq (· ++ vs.toArray))).push (seqObj "list" vs.toArray 0)).get? b = some o := fun b o q _ => by
    have below : b < s.heap.objs.size := Heap.lt_size q
    rw [Heap.get?_push_ne _ _ _ (by rw [zz]; exact Nat.ne_of_lt (Nat.lt_succ_of_lt below)), Heap.get?_update_ne _ _ _ _ (Nat.ne_of_lt below), Heap.get?_push_ne _ _ _ (Nat.ne_of_lt below)]; exact q
  show wpAny _ _ _ _ _ { s with heap := ((s.heap.push (seqObj "list" #[] 0)).update s.heap.objs.size (Obj.mapSeq (· ++ vs.toArray))).push (seqObj "list" vs.toArray 0) }
  rw [zz]
  have same : ∀ v ∈ vs, TS.intsOf (((s.heap.push (seqObj "list" #[] 0)).update s.heap.objs.size (Obj.mapSeq (· ++ vs.toArray))).push (seqObj "list" vs.toArray 0)) v = TS.intsOf s.heap v := fun v hv => by
    obtain ⟨ns0, t0, _⟩ := x v hv
    rw [t0.ints, (t0.keeps keep).ints]
  refine wpAny_bind (wpAny_holding (wpAny_call_entry slot_list_sort ⟨_, hL, rfl⟩ entry_list_sort (rows_sort hL h64 hd (x.keeps keep) fun out a1 a2 => ⟨_, rfl, wpAny_pure ⟨_, rfl, h out a1 ?_⟩⟩) (args_list_sort _)))
  refine List.Pairwise.imp_of_mem (fun {u v} hu hv q => ?_) a2
  rw [same u (a1.mem_iff.mp hu), same v (a1.mem_iff.mp hv)] at q
  exact q
end
theorem rows_ks {nm : Nm} {F : Hp} : ∀ {vs : List V} {ls : List (List Int)}, RepL nm F vs (ls.map fun l => D.tup (l.map D.int)) → ∃ ks : List (Addr × List Int), vs = ks.map (fun p => V.ref p.1) ∧ ls = ks.map (·.2) ∧ ∀ p ∈ ks, F p.1 = some (.tup (p.2.map V.int))
  | vs, [], r => by cases r; exact ⟨[], rfl, rfl, fun p hp => absurd hp (List.not_mem_nil)⟩
  | vs, l :: ls, r => by
    cases r with
    | cons a t =>
      obtain ⟨ks, e1, e2, h⟩ := rows_ks t
      cases a with
      | @tup b ws _ q rr =>
        have := rr.ints
        subst this
        refine ⟨(b, l) :: ks, by rw [e1]; rfl, by rw [e2]; rfl, fun p hp => ?_⟩
        rcases List.mem_cons.mp hp with e | e
        · subst e; exact q
        · exact h p e
theorem rep_rows {nm : Nm} {F : Hp} : ∀ {ks : List (Addr × List Int)}, (∀ p ∈ ks, F p.1 = some (.tup (p.2.map V.int))) → RepL nm F (ks.map fun p => V.ref p.1) ((ks.map (·.2)).map fun l => D.tup (l.map D.int))
  | [], _ => .nil
  | p :: ks, h => .cons (.tup (h p List.mem_cons_self) (RepL.of_ints _)) (rep_rows fun q hq => h q (List.mem_cons_of_mem _ hq))
theorem picked {ks : List (Addr × List Int)} : ∀ out : List Value, (∀ u ∈ out, ∃ q ∈ ks, u = Value.ref q.1) → ∃ L : List (Addr × List Int), out = L.map (fun q => Value.ref q.1) ∧ ∀ q ∈ L, q ∈ ks
  | [], _ => ⟨[], rfl, fun q hq => absurd hq (List.not_mem_nil)⟩
  | u :: out, h => by
    obtain ⟨q, hq, e⟩ := h u List.mem_cons_self
    obtain ⟨L, e1, hs⟩ := picked out fun z hz => h z (List.mem_cons_of_mem _ hz)
    refine ⟨q :: L, by rw [e, e1]; rfl, fun r hr => ?_⟩
    rcases List.mem_cons.mp hr with z | z
    · rw [z]; exact hq
    · exact hs r z
theorem evenT_len : ∀ {ls : List (List Int)}, evenT ls = true → ∃ d, (∀ l ∈ ls, l.length = d) ∧ (wideT ls = true → 1 ≤ d)
  | [], _ => ⟨0, fun l hl => absurd hl (List.not_mem_nil), fun z => by cases z⟩
  | x :: xs, h => by
    unfold evenT at h
    rw [List.all_eq_true] at h
    refine ⟨x.length, fun l hl => ?_, fun z => ?_⟩
    · rcases List.mem_cons.mp hl with e | e
      · rw [e]
      · exact eq_of_beq (h l e)
    · unfold wideT at z
      cases x with
      | nil => cases z
      | cons _ _ => simp
section
variable {prog : Program} {w : World} {A : Around} {E : Value → Shared → Prop} {s : Shared}
/-- what comes out of a sort of refs to rows -/
theorem rows_out {h : Heap} {ks : List (Addr × List Int)} {d : Nat} {C : Int} (ht : ∀ p ∈ ks, TS.TupInts h (.ref p.1) p.2) (hb : ∀ p ∈ ks, p.2.length = d ∧ BqC C p.2) {vs : List Value} (hv : vs.Perm (ks.map fun p => Value.ref p.1)) {out : List Value} (h1 : out.Perm vs)
    (h2 : out.Pairwise (fun u v => rkC C (TS.intsOf h u) ≤ rkC C (TS.intsOf h v))) : ∃ L : List (Addr × List Int), out = L.map (fun q => Value.ref q.1) ∧ (∀ q ∈ L, q ∈ ks) ∧ L.map (·.2) = sortT (ks.map (·.2)) := by
  have h3 := h1.trans hv
  obtain ⟨L, e, hs⟩ := picked (ks := ks) out fun u hu => by
    obtain ⟨q, hq, e⟩ := List.mem_map.mp (h3.mem_iff.mp hu)
    exact ⟨q, hq, e.symm⟩
  subst e
  have see : ∀ M : List (Addr × List Int), (∀ q ∈ M, q ∈ ks) → (M.map fun q => Value.ref q.1).map (TS.intsOf h) = M.map (·.2) := fun M hM => by
    rw [List.map_map]
    exact List.map_congr_left fun q hq => (ht q (hM q hq)).ints
  refine ⟨L, rfl, hs, ord_one ?_ (sortT_ord _) ?_⟩
  · rw [List.pairwise_map] at h2 ⊢
    refine List.Pairwise.imp_of_mem (fun {p q} hp hq z => ?_) h2
    rw [(ht p (hs p hp)).ints, (ht q (hs q hq)).ints] at z
    have b1 := hb p (hs p hp)
    have b2 := hb q (hs q hq)
    exact rkC_le (b1.1.trans b2.1.symm) b1.2 b2.2 z
  · have z := h3.map (TS.intsOf h)
    rw [see L hs, see ks fun q hq => hq] at z
    exact z.trans (sortT_perm _).symm
/-- sorted of a set of rows -/
theorem rows_sset {a : Addr} {L : List (Addr × List Int)} {es : Array (Int × Value)} {ep : Nat} {t : SetTable} {Q : Value → Shared → Prop} (R : SetTR prog w s.heap a L es ep t) (hh : A.handled = none) {d : Nat} (hd : 2 ≤ L.length → 1 ≤ d) (hl : ∀ p ∈ L, p.2.length = d)
    (hQ : ∀ s' p (out : Array Value) (c : Nat) (M : List (Addr × List Int)), (∀ b o, s.heap.get? b = some o → s'.heap.get? b = some o) → s'.gens = s.gens → s'.os = s.os → s.heap.objs.size ≤ p →
      s'.heap.get? p = some (seqObj "list" out c) → out.toList = M.map (fun q => Value.ref q.1) → (∀ q ∈ M, q ∈ L) → M.map (·.2) = sortT (L.map (·.2)) → Q (.ref p) s') :
    wpAny (model prog w) A (call (.builtin "sorted") [.ref a]) Q E s := by
  obtain ⟨o, ho, hex, hdd⟩ := R.ob
  have z1 := R.size
  have z2 := R.few
  obtain ⟨C, _, hC⟩ := bq_all (L.map (·.2))
  refine Calls.call_function_entry kind_sorted plain_sorted entry_sorted (args_sorted1 _) ?_
  unfold Builtin.«sorted»
  refine wpAny_bind (m := checkCount "sorted" 1 1 _) (wpAny_pure ?_)
  refine wpAny_bind (collect_set (A := A.in1) hh ⟨o, ho, hex.1, hdd⟩ R.fits (by unfold scanBound; omega) R.tab.ris R.led fun s1 vs k1 hz g1 o1 pm => ?_)
  have hes : es.toList.map (·.2) = L.map fun q => Value.ref q.1 := by
    rw [R.rows]
    unfold rowsOf
    rw [List.map_map] <;> rfl
  rw [hes] at pm
  have hvl : vs.length < 64 := by rw [pm.length_eq, List.length_map]; exact z2
  refine wpAny_bind (wpAny_newList ?_ (by rw [sizeLine_eq]; omega))
  have hoL : (s1.heap.push (seqObj "list" vs.toArray 0)).get? s1.heap.objs.size = some (seqObj "list" vs.toArray 0) := Heap.get?_push_size _ rfl
  have tk : ∀ q ∈ L, TS.TupInts (s1.heap.push (seqObj "list" vs.toArray 0)) (.ref q.1) q.2 := fun q hq => tupInts_of (P := prog) (w := w) (isT_keep (R.tup q hq) fun b u e => Heap.get?_push_of_some _ (k1 b u e))
  have bb : ∀ p ∈ L, p.2.length = d ∧ BqC C p.2 := fun p hp => ⟨hl p hp, hC _ (List.mem_map.mpr ⟨p, hp, rfl⟩)⟩
  have x : RowsOk (s1.heap.push (seqObj "list" vs.toArray 0)) d C vs := fun v hv => by
    obtain ⟨q, hq, e⟩ := List.mem_map.mp (pm.mem_iff.mp hv)
    rw [← e]
    exact ⟨q.2, tk q hq, bb q hq⟩
  refine wpAny_bind (wpAny_holding (wpAny_call_entry slot_list_sort ⟨_, hoL, rfl⟩ entry_list_sort (rows_sort (s := { s1 with heap := s1.heap.push (seqObj "list" vs.toArray 0) }) hoL hvl (by rw [pm.length_eq, List.length_map]; exact hd) x fun out a1 a2 => ⟨_, rfl, ?_⟩) (args_list_sort _)))
  obtain ⟨c, hc⟩ := sortedHeap_at (vs := vs) (out := out) hoL
  obtain ⟨M, e1, e2, e3⟩ := rows_out tk bb pm a1 a2
  refine wpAny_pure ⟨_, rfl, hQ _ s1.heap.objs.size out c M (fun b u e => ?_) g1 o1 hz hc e1 e2 e3⟩
  have q := k1 b u e
  have below := Heap.lt_size q
  show (sortedHeap (s1.heap.push (seqObj "list" vs.toArray 0)) s1.heap.objs.size vs out).get? b = some u
  rw [sortedHeap_old (Nat.ne_of_lt below) (by rw [size_push']; exact Nat.lt_succ_of_lt below)]
  exact Heap.get?_push_of_some _ q
end
section
variable {X : Cx}
def rRows (K : PySem.W.Frag) : List V → Hp → VK → Prop := fun vs H Q => ∃ (a : Addr) (ks : List (Addr × List Int)) (d : Nat), vs = [V.ref a] ∧ SqL K H a (ks.map fun p => V.ref p.1) ∧ (∀ p ∈ ks, SqT K H p.1 (p.2.map V.int)) ∧ ks.length < 64 ∧ (∀ p ∈ ks, p.2.length = d) ∧
  (2 ≤ ks.length → 1 ≤ d) ∧ ∀ (M : List (Addr × List Int)) (p : Addr), (∀ q ∈ M, q ∈ ks) → M.map (·.2) = sortT (ks.map (·.2)) → H p = none → Q (.ref p) (upd H p (.lst (M.map fun q => V.ref q.1)))
theorem cr_rows : CallR X (.builtin "sorted") (rRows X.K) := by
  intro pins s σ H vs us Q I r h
  obtain ⟨a, ks, d, rfl, hs, hk, h64, hd, hd1, q⟩ := h
  obtain ⟨its, rv, hl, hz⟩ := I.list hs
  rw [Vals.ref1 r]
  have hit : its = ks.map fun p => Value.ref p.1 := refs_of_vals rv
  obtain ⟨C, _, hC⟩ := bq_all (ks.map (·.2))
  have ht : ∀ p ∈ ks, TS.TupInts s.heap (.ref p.1) p.2 := fun p hp => tupI_raw I (hk p hp)
  have bb : ∀ p ∈ ks, p.2.length = d ∧ BqC C p.2 := fun p hp => ⟨hd p hp, hC _ (List.mem_map.mpr ⟨p, hp, rfl⟩)⟩
  have hn : its.length = ks.length := by rw [hit, List.length_map]
  refine rows_sorted (d := d) (C := C) hl.isList (by rw [hn]; exact h64) (by rw [hn]; exact hd1) (fun v hv => ?_) fun out h1 h2 => ?_
  · rw [hit] at hv
    obtain ⟨p, hp, rfl⟩ := List.mem_map.mp hv
    exact ⟨p.2, ht p hp, bb p hp⟩
  · obtain ⟨ep, he'⟩ := PyProof.Rows.sortedAll_at s.heap its out
    obtain ⟨M, e1, e2, e3⟩ := rows_out ht bb (by rw [hit]) h1 h2
    have hlen : (M.map fun q => V.ref q.1).length ≤ sizeLine := by
      rw [List.length_map, ← List.length_map (f := fun q : Addr × List Int => Value.ref q.1), ← e1, h1.length_eq, hn, sizeLine_eq]; omega
    exact ⟨.ref _, upd H (s.heap.objs.size + 1) (.lst (M.map fun q => V.ref q.1)), I.laid (t' := s.toks) (fun _ _ => PyProof.Rows.sortedAll_old) (Nat.le_succ _) ⟨hlen, out.toList, ep, by rw [e1]; exact vals_of_refs M, he'⟩, rfl, q M _ e2 e3 (I.hok.fresh (Nat.le_succ _))⟩
end
section
variable {nm : Nm} {F : Hp} {κ : Type} [DecidableEq κ]
theorem any_keys : ∀ {kvs : List (κ × V)} {kds : List (κ × D)}, kvs.map (·.1) = kds.map (·.1) → ∀ k : κ, (kvs.any fun p => decide (p.1 = k)) = (kds.any fun p => decide (p.1 = k))
  | [], [], _, _ => rfl
  | [], _ :: _, h, _ => by cases h
  | _ :: _, [], h, _ => by cases h
  | p :: r, q :: t, h, k => by
    simp only [List.map_cons, List.cons.injEq] at h
    simp only [List.any_cons, h.1, any_keys h.2 k]
theorem map_keys : ∀ {kvs : List (κ × V)} {kds : List (κ × D)}, kvs.map (·.1) = kds.map (·.1) → RepL nm F (kvs.map (·.2)) (kds.map (·.2)) → ∀ {k : κ} {v : V} {d : D}, Rep nm F v d →
    (kvs.map fun kv => if kv.1 = k then (kv.1, v) else kv).map (·.1) = (kds.map fun kv => if kv.1 = k then (kv.1, d) else kv).map (·.1) ∧
      RepL nm F ((kvs.map fun kv => if kv.1 = k then (kv.1, v) else kv).map (·.2)) ((kds.map fun kv => if kv.1 = k then (kv.1, d) else kv).map (·.2))
  | [], [], _, _, _, _, _, _ => ⟨rfl, .nil⟩
  | [], _ :: _, h, _, _, _, _, _ => by cases h
  | _ :: _, [], h, _, _, _, _, _ => by cases h
  | p :: r, q :: t, h, rr, k, v, d, rv => by
    simp only [List.map_cons, List.cons.injEq] at h
    cases rr with
    | cons r1 r2 =>
      obtain ⟨a1, a2⟩ := map_keys h.2 r2 (k := k) rv
      simp only [List.map_cons]
      by_cases e : p.1 = k
      · rw [if_pos e, if_pos (h.1.symm.trans e)]
        exact ⟨by rw [List.cons.injEq]; exact ⟨h.1, a1⟩, .cons rv a2⟩
      · rw [if_neg e, if_neg fun z => e (h.1.trans z)]
        exact ⟨by rw [List.cons.injEq]; exact ⟨h.1, a1⟩, .cons r1 a2⟩
theorem putA_rep {kvs : List (κ × V)} {kds : List (κ × D)} (h : kvs.map (·.1) = kds.map (·.1)) (rr : RepL nm F (kvs.map (·.2)) (kds.map (·.2))) {k : κ} {v : V} {d : D} (rv : Rep nm F v d) :
    (putK kvs k v).map (·.1) = (putA kds k d).map (·.1) ∧ RepL nm F ((putK kvs k v).map (·.2)) ((putA kds k d).map (·.2)) := by
  unfold putK putA
  rw [any_keys h k]
  split
  · exact map_keys h rr rv
  · rw [List.map_append, List.map_append, List.map_append, List.map_append, h]
    exact ⟨rfl, rr.append (.cons rv .nil)⟩
end
section
variable {nm : Nm} {F : Hp}
theorem pairs_ks : ∀ {vs : List V} {ds : List D} {kds : List (Key × D)}, RepL nm F vs ds → pairsP ds = some kds → ∃ (ps : List Addr) (kvs : List (Key × V)), vs = ps.map V.ref ∧ Paired (fun p kv => F p = some (.tup [kV kv.1, kv.2])) ps kvs ∧ kvs.map (·.1) = kds.map (·.1) ∧ RepL nm F (kvs.map (·.2)) (kds.map (·.2))
  | _, [], kds, r, h => by cases r; cases h; exact ⟨[], [], rfl, .nil, rfl, .nil⟩
  | _, d :: ds, kds, r, h => by
    cases r with
    | @cons v _ vs _ r1 rr =>
      unfold pairsP at h
      split at h
      · rename_i e; cases e
      · rename_i k w rest e
        cases e
        cases ek : keyD k with
        | none => rw [ek] at h; cases h
        | some key =>
          rw [ek] at h
          cases ep : pairsP ds with
          | none => rw [ep] at h; cases h
          | some more =>
            rw [ep] at h
            cases h
            obtain ⟨ps, kvs, e1, e2, e3, e4⟩ := pairs_ks rr ep
            cases r1 with
            | @tup a ws _ q rw2 =>
              cases rw2 with
              | @cons v1 _ _ _ x1 t1 =>
                cases t1 with
                | @cons v2 _ _ _ x2 t2 =>
                  cases t2
                  have hk := keyD_rep (H := fun _ => none) (.inr x1) ek
                  subst hk
                  exact ⟨a :: ps, (key, v2) :: kvs, by rw [e1]; rfl, .cons q e2, by simp [e3], .cons x2 e4⟩
      · cases h
theorem merge_rep : ∀ {kvs : List (Key × V)} {kds : List (Key × D)} {acc : List (Key × V)} {accd : List (Key × D)}, kvs.map (·.1) = kds.map (·.1) → RepL nm F (kvs.map (·.2)) (kds.map (·.2)) → acc.map (·.1) = accd.map (·.1) → RepL nm F (acc.map (·.2)) (accd.map (·.2)) →
    (mergeK acc kvs).map (·.1) = (mergeA accd kds).map (·.1) ∧ RepL nm F ((mergeK acc kvs).map (·.2)) ((mergeA accd kds).map (·.2))
  | [], [], _, _, _, _, h, r => ⟨h, r⟩
  | [], _ :: _, _, _, h, _, _, _ => by cases h
  | _ :: _, [], _, _, h, _, _, _ => by cases h
  | p :: kvs, q :: kds, acc, accd, h, r, h2, r2 => by
    simp only [List.map_cons, List.cons.injEq] at h
    cases r with
    | cons r1 rr =>
      obtain ⟨g1, g2⟩ := putA_rep h2 r2 (k := p.1) r1
      have e : mergeA accd (q :: kds) = mergeA (putA accd p.1 q.2) kds := by rw [h.1]; rfl
      rw [e]
      exact merge_rep (acc := putK acc p.1 p.2) h.2 rr g1 g2
end
end MT
namespace MT
open PySem PySem.Spec PyProof.Rows L2
def biV : BI → Value
  | .len => .builtin "len"
  | .sorted => .builtin "sorted"
  | .list => .type "list"
  | .dict => .type "dict"
  | .max2 => .builtin "max"
  | .min2 => .builtin "min"
  | .sum => .builtin "sum"
  | .any => .builtin "any"
  | .all => .builtin "all"
def rBi (nm : Nm) (b : BI) : List V → Hp → VK → Prop := fun xs H Q => ∃ F ds z, Le F H ∧ Paired (DataR nm F H) xs ds ∧ biD b ds = some z ∧ Fin nm F H z Q
theorem insI_perm (x : Int) : ∀ xs : List Int, (insI x xs).Perm (x :: xs)
  | [] => List.Perm.refl _
  | y :: ys => by
    unfold insI
    split
    · exact List.Perm.refl _
    · exact ((insI_perm x ys).cons y).trans (List.Perm.swap x y ys)
theorem sortI_perm : ∀ xs : List Int, (sortI xs).Perm xs
  | [] => List.Perm.refl _
  | x :: xs => (insI_perm x _).trans ((sortI_perm xs).cons x)
theorem insI_sorted (x : Int) : ∀ {xs : List Int}, xs.Pairwise (· ≤ ·) → (insI x xs).Pairwise (· ≤ ·)
  | [], _ => by simp [insI]
  | y :: ys, h => by
    unfold insI
    rw [List.pairwise_cons] at h
    split
    · rename_i e
      refine List.pairwise_cons.mpr ⟨fun z hz => ?_, List.pairwise_cons.mpr h⟩
      rcases List.mem_cons.mp hz with rfl | hz
      · exact e
      · exact Int.le_trans e (h.1 z hz)
    · rename_i e
      refine List.pairwise_cons.mpr ⟨fun z hz => ?_, insI_sorted x h.2⟩
      rcases List.mem_cons.mp ((insI_perm x ys).mem_iff.mp hz) with rfl | hz
      · omega
      · exact h.1 z hz
theorem sortI_sorted : ∀ xs : List Int, (sortI xs).Pairwise (· ≤ ·)
  | [] => List.Pairwise.nil
  | x :: xs => insI_sorted x (sortI_sorted xs)
theorem lt_irr : ∀ a : List Nat, ltCps a a = false
  | [] => rfl
  | x :: r => by simp [ltCps, lt_irr r]
theorem lt_tr : ∀ a b c : List Nat, ltCps a b = true → ltCps b c = true → ltCps a c = true
  | [], [], _, h, _ => by cases h
  | [], _ :: _, [], _, h => by cases h
  | [], _ :: _, _ :: _, _, _ => rfl
  | _ :: _, [], _, h, _ => by cases h
  | _ :: _, _ :: _, [], _, h => by cases h
  | x :: a, y :: b, z :: c, h1, h2 => by
    simp only [ltCps, Bool.or_eq_true, Bool.and_eq_true, decide_eq_true_eq, beq_iff_eq] at h1 h2 ⊢
    rcases h1 with h1 | ⟨rfl, h1⟩ <;> rcases h2 with h2 | ⟨rfl, h2⟩
    · left; omega
    · left; exact h1
    · left; exact h2
    · right; exact ⟨rfl, lt_tr a b c h1 h2⟩
theorem lt_tot : ∀ a b : List Nat, ltCps a b = false → ltCps b a = false → a = b
  | [], [], _, _ => rfl
  | [], _ :: _, h, _ => by cases h
  | _ :: _, [], _, h => by cases h
  | x :: a, y :: b, h1, h2 => by
    simp only [ltCps, Bool.or_eq_false_iff, Bool.and_eq_false_iff, decide_eq_false_iff_not, beq_eq_false_iff_ne] at h1 h2
    have e : x = y := by omega
    subst e
    rw [lt_tot a b (h1.2.resolve_left fun z => z rfl) (h2.2.resolve_left fun z => z rfl)]
def LtS (x y : Str) : Prop := strLt x y = true
theorem strLt_cps (x y : Str) : strLt x y = ltCps x.cps.toList y.cps.toList := by unfold strLt; exact (ltCps_eq _ _).symm
theorem cps_inj {x y : Str} (h : x.cps.toList = y.cps.toList) : x = y := by
  cases x; cases y
  congr
  exact Array.toList_inj.mp h
theorem LtS.irr (x : Str) : ¬ LtS x x := by unfold LtS; rw [strLt_cps, lt_irr]; exact Bool.false_ne_true
theorem LtS.tr (x y z : Str) (h1 : LtS x y) (h2 : LtS y z) : LtS x z := by
  unfold LtS at *; rw [strLt_cps] at *; exact lt_tr _ _ _ h1 h2
theorem LtS.tot {x y : Str} (h1 : ¬ LtS x y) (h2 : ¬ LtS y x) : x = y := by
  unfold LtS at *; rw [strLt_cps, Bool.not_eq_true] at *
  exact cps_inj (lt_tot _ _ h1 h2)
theorem insO_perm (x : Str) : ∀ xs : List Str, (insO x xs).Perm (x :: xs)
  | [] => List.Perm.refl _
  | y :: ys => by
    unfold insO
    split
    · exact ((insO_perm x ys).cons y).trans (List.Perm.swap x y ys)
    · exact List.Perm.refl _
theorem sortS_perm : ∀ xs : List Str, (sortS xs).Perm xs
  | [] => List.Perm.refl _
  | x :: xs => (insO_perm x _).trans ((sortS_perm xs).cons x)
theorem LeS.tr {x y z : Str} (h1 : ¬ LtS y x) (h2 : ¬ LtS z y) : ¬ LtS z x := fun h => by
  by_cases hh : LtS x y
  · exact h2 (LtS.tr _ _ _ h hh)
  · exact h2 (LtS.tot h1 hh ▸ h)
theorem insO_sorted (x : Str) : ∀ {xs : List Str}, xs.Pairwise (fun a b => ¬ LtS b a) → (insO x xs).Pairwise (fun a b => ¬ LtS b a)
  | [], _ => by simp [insO]
  | y :: ys, h => by
    unfold insO
    rw [List.pairwise_cons] at h
    split
    · rename_i e
      refine List.pairwise_cons.mpr ⟨fun z hz => ?_, insO_sorted x h.2⟩
      rcases List.mem_cons.mp ((insO_perm x ys).mem_iff.mp hz) with rfl | hz
      · exact fun k => LtS.irr _ (LtS.tr _ _ _ k e)
      · exact h.1 z hz
    · rename_i e
      have e : ¬ LtS y x := e
      refine List.pairwise_cons.mpr ⟨fun z hz => ?_, List.pairwise_cons.mpr h⟩
      rcases List.mem_cons.mp hz with rfl | hz
      · exact e
      · exact LeS.tr e (h.1 z hz)
theorem sortS_sorted : ∀ xs : List Str, (sortS xs).Pairwise (fun a b => ¬ LtS b a)
  | [] => List.Pairwise.nil
  | x :: xs => insO_sorted x (sortS_sorted xs)
theorem risingS_le : ∀ (p : Str) (l : List Str), risingS p l = true → (p :: l).Pairwise (fun a b => ¬ LtS b a)
  | p, [], _ => by simp
  | p, x :: r, h => by
    unfold risingS at h
    rw [Bool.and_eq_true, Bool.not_eq_true'] at h
    have ih := risingS_le x r h.2
    have hx : ¬ LtS x p := by unfold LtS; rw [strLt_cps, h.1]; exact Bool.false_ne_true
    refine List.pairwise_cons.mpr ⟨fun z hz => ?_, ih⟩
    rcases List.mem_cons.mp hz with rfl | hz
    · exact hx
    · exact LeS.tr hx ((List.pairwise_cons.mp ih).1 z hz)
theorem sortS_one {ys xs : List Str} (hp : ys.Perm xs) (hs : sortedS ys = true) : ys = sortS xs := by
  have h1 : ys.Pairwise (fun a b => ¬ LtS b a) := by
    cases ys with
    | nil => simp
    | cons y r => exact risingS_le y r hs
  exact List.Perm.eq_of_pairwise (fun a b _ _ h1 h2 => (LtS.tot h2 h1)) h1 (sortS_sorted xs) (hp.trans (sortS_perm xs).symm)
theorem strsD_eq : ∀ {ds : List D} {ns : List Str}, strsD ds = some ns → ds = ns.map D.str
  | [], _, h => by cases h; rfl
  | d :: ds, ns, h => by
    unfold strsD at h
    split at h
    · rename_i h1; cases h1
    · rename_i i r h1
      cases h1
      cases e : strsD ds with
      | none => rw [e] at h; cases h
      | some ms => rw [e] at h; cases h; rw [List.map_cons, ← strsD_eq e]
    · cases h
theorem blsD_eq : ∀ {ds : List D} {ns : List Bool}, blsD ds = some ns → ds = ns.map D.bl
  | [], _, h => by cases h; rfl
  | d :: ds, ns, h => by
    unfold blsD at h
    split at h
    · rename_i h1; cases h1
    · rename_i i r h1
      cases h1
      cases e : blsD ds with
      | none => rw [e] at h; cases h
      | some ms => rw [e] at h; cases h; rw [List.map_cons, ← blsD_eq e]
    · cases h
theorem keys_intsD : ∀ {kds : List (Key × D)} {ns : List Int}, kds.map (fun p => dKey p.1) = ns.map D.int → kds.map (·.1) = ns.map Sum.inl
  | [], [], _ => rfl
  | [], _ :: _, h => by cases h
  | _ :: _, [], h => by cases h
  | (k, d) :: kds, n :: ns, h => by
    simp only [List.map_cons, List.cons.injEq] at h ⊢
    refine ⟨?_, keys_intsD h.2⟩
    cases k with
    | inl i => have := h.1; simp only [dKey, D.int.injEq] at this; rw [this]
    | inr z => have := h.1; simp [dKey] at this
theorem keys_strsD : ∀ {kds : List (Key × D)} {ns : List Str}, kds.map (fun p => dKey p.1) = ns.map D.str → kds.map (·.1) = ns.map Sum.inr
  | [], [], _ => rfl
  | [], _ :: _, h => by cases h
  | _ :: _, [], h => by cases h
  | (k, d) :: kds, n :: ns, h => by
    simp only [List.map_cons, List.cons.injEq] at h ⊢
    refine ⟨?_, keys_strsD h.2⟩
    cases k with
    | inr i => have := h.1; simp only [dKey, D.str.injEq] at this; rw [this]
    | inl z => have := h.1; simp [dKey] at this
theorem keys_tupsD {kds : List (Key × D)} {ls : List (List Int)} (h : tupsD (kds.map fun p => dKey p.1) = some ls) (h2 : intsD (kds.map fun p => dKey p.1) = none) : False := by
  cases kds with
  | nil => cases h2
  | cons p kds => obtain ⟨k, d⟩ := p; cases k <;> cases h
section
variable {X : Cx} {nm : Nm}
theorem paired1 {α β : Type} {P : α → β → Prop} {xs : List α} {d : β} (h : Paired P xs [d]) : ∃ x, xs = [x] ∧ P x d := by
  cases h with | cons h t => cases t; exact ⟨_, rfl, h⟩
theorem paired2 {α β : Type} {P : α → β → Prop} {xs : List α} {d e : β} (h : Paired P xs [d, e]) : ∃ x y, xs = [x, y] ∧ P x d ∧ P y e := by
  cases h with | cons h t => cases t with | cons k t => cases t; exact ⟨_, _, rfl, h, k⟩
theorem call_lenD2 : CallR X (.builtin "len") (fun xs H Q => ∃ p kvs, xs = [.ref p] ∧ Rd H p (.dK kvs) ∧ Q (.int kvs.length) H) := by
  intro pins s σ H xs us Q I r h
  obtain ⟨p, kvs, rfl, e, q⟩ := h
  rw [Vals.ref1 r]
  exact d_len I e fun t s' I' => ⟨.int _, H, I', ⟨t, rfl⟩, q⟩
theorem bi_call (hK : X.K = nm.K) (hc : X.calm = true) (b : BI) : CallR X (biV b) (rBi nm b) := by
  intro pins s σ H xs us Q I r h
  obtain ⟨F, ds, z, l, hd, hb, q⟩ := h
  unfold biD at hb
  split at hb
  · obtain ⟨x, rfl, h1⟩ := paired1 hd
    rename_i d
    cases e : lenD d with
    | none => rw [e] at hb; cases hb
    | some n =>
      rw [e] at hb; cases hb
      unfold lenD at e
      split at e
      · cases e
        obtain ⟨a, vs, rfl, ha, ra⟩ := h1.lst l
        exact call_len pins s σ H _ us Q I r ⟨_, _, rfl, .inl ⟨vs, SqL.of ha, rfl⟩, by rw [ra.length]; exact q.flat l .int⟩
      · cases e
        obtain ⟨a, vs, rfl, _, ha, ra⟩ := h1.tup l
        exact call_len pins s σ H _ us Q I r ⟨_, _, rfl, .inr ⟨vs, SqT.of ha, rfl⟩, by rw [ra.length]; exact q.flat l .int⟩
      · cases e
        rename_i ns
        obtain ⟨a, rfl, ha⟩ := h1.scr l
        rw [← hK] at ha
        exact call_len pins s σ H _ us Q I r ⟨_, _, rfl, .inl ⟨ns.map V.int, ha, rfl⟩, by rw [List.length_map]; exact q.flat l .int⟩
      · split at e
        · rename_i z hz
          cases e
          cases h1.str
          exact call_len pins s σ H _ us Q I r ⟨_, _, rfl, ⟨by rw [line_eq]; exact hz, rfl⟩, q.flat l .int⟩
        · cases e
      · cases e
        obtain ⟨a, kvs, rfl, ha, k, ra⟩ := h1.dK l
        rename_i kds
        have : kvs.length = kds.length := by simpa using congrArg List.length k
        exact call_lenD2 pins s σ H _ us Q I r ⟨_, _, rfl, ha, by rw [this]; exact q.flat l .int⟩
      · cases e
  · obtain ⟨x, rfl, h1⟩ := paired1 hd
    obtain ⟨a, vs, rfl, ha, ra⟩ := h1.lst l
    rename_i ds
    unfold sortD at hb
    cases e : intsD ds with
    | none =>
      rw [e] at hb
      simp only at hb
      cases e2 : strsD ds with
      | none =>
        rw [e2] at hb
        simp only at hb
        cases e3 : tupsD ds with
        | none => rw [e3] at hb; cases hb
        | some ls =>
          rw [e3] at hb
          simp only [Option.bind_some] at hb
          split at hb
          · rename_i hl
            obtain ⟨h64, hev, hw⟩ := hl
            cases hb
            have e := tupsD_eq e3
            subst e
            obtain ⟨ks, f1, f2, f3⟩ := rows_ks ra
            subst f1 f2
            obtain ⟨d, g1, g2⟩ := evenT_len hev
            refine cr_rows pins s σ H _ us Q I r ⟨a, ks, d, rfl, SqL.of ha, fun p hp => SqT.of (l.tup (f3 p hp)), by simpa using h64, fun p hp => g1 _ (List.mem_map.mpr ⟨p, hp, rfl⟩), fun z => g2 (hw (by simpa using z)), fun M p hM hs hn => ?_⟩
            refine q.newL l ?_ p hn
            rw [← hs]
            exact rep_rows fun p hp => f3 p (hM p hp)
          · cases hb
      | some ys =>
        rw [e2] at hb
        simp only [Option.bind_some] at hb
        split at hb
        · rename_i h64
          cases hb
          have e := strsD_eq e2
          subst e
          have := ra.strs
          subst this
          refine cr_sortedS pins s σ H _ us Q I r ⟨a, ys, rfl, SqL.of ha, h64, fun ys' p hp hs hn => ?_⟩
          rw [sortS_one hp hs]
          exact q.newL l (RepL.of_strs _) p hn
        · cases hb
    | some ns =>
      rw [e] at hb; cases hb
      have e := intsD_eq e
      subst e
      have := ra.ints
      subst this
      refine cr_sortedI pins s σ H _ us Q I r ⟨a, ns, rfl, SqL.of ha, fun ns' p hp hs hn => ?_⟩
      have e : ns' = sortI ns := PySem.W.ksm_same (hp.trans (sortI_perm ns).symm) hs (sortI_sorted ns)
      subst e
      exact q.newL l (RepL.of_ints _) p hn
  · split at hb
    · rename_i kds h64
      obtain ⟨x, rfl, h1⟩ := paired1 hd
      obtain ⟨a, kvs, rfl, ha, k, ra⟩ := h1.dK l
      unfold sortD at hb
      cases e : intsD (kds.map fun p => dKey p.1) with
      | some ns =>
        rw [e] at hb; cases hb
        have hk := keys_intsD (intsD_eq e)
        have hl : ns.length < 64 := by have := congrArg List.length hk; rw [List.length_map, List.length_map] at this; omega
        refine call_sortedDI hc pins s σ H _ us Q I r ⟨a, kvs, ns, rfl, ha, k.trans hk, hl, fun ns' p hp hs hn => ?_⟩
        have e : ns' = sortI ns := PySem.W.ksm_same (hp.trans (sortI_perm ns).symm) hs (sortI_sorted ns)
        subst e
        exact q.newL l (RepL.of_ints _) p hn
      | none =>
        rw [e] at hb
        simp only at hb
        cases e2 : strsD (kds.map fun p => dKey p.1) with
        | some ys =>
          rw [e2] at hb
          simp only at hb
          have hk := keys_strsD (strsD_eq e2)
          have hl : ys.length < 64 := by have := congrArg List.length hk; rw [List.length_map, List.length_map] at this; omega
          rw [if_pos hl] at hb
          cases hb
          refine call_sortedD hc pins s σ H _ us Q I r ⟨a, kvs, ys, rfl, ha, k.trans hk, hl, fun ys' p hp hs hn => ?_⟩
          rw [sortS_one hp hs]
          exact q.newL l (RepL.of_strs _) p hn
        | none =>
          rw [e2] at hb
          simp only at hb
          cases e3 : tupsD (kds.map fun p => dKey p.1) with
          | none => rw [e3] at hb; cases hb
          | some ls => exact (keys_tupsD e3 e).elim
    · cases hb
  · cases hb
    obtain ⟨x, rfl, h1⟩ := paired1 hd
    obtain ⟨a, vs, rfl, ha, ra⟩ := h1.lst l
    exact call_list_of pins s σ H _ us Q I r ⟨a, vs, rfl, .inl (SqL.of ha), q.newL l ra⟩
  · cases hb
    obtain ⟨x, rfl, h1⟩ := paired1 hd
    obtain ⟨a, vs, rfl, _, ha, ra⟩ := h1.tup l
    exact call_list_of pins s σ H _ us Q I r ⟨a, vs, rfl, .inr (SqT.of ha), q.newL l ra⟩
  · cases hb
    obtain ⟨x, rfl, h1⟩ := paired1 hd
    obtain ⟨a, kvs, rfl, ha, k, ra⟩ := h1.dK l
    exact call_dictD pins s σ H _ us Q I r ⟨a, kvs, rfl, ha, q.newK l k ra⟩
  · obtain ⟨x, rfl, h1⟩ := paired1 hd
    obtain ⟨a, vs, rfl, ha, ra⟩ := h1.lst l
    rename_i ds
    cases e : pairsP ds with
    | none => rw [e] at hb; cases hb
    | some kds =>
      rw [e] at hb; cases hb
      obtain ⟨ps, kvs, rfl, e2, e3, e4⟩ := pairs_ks ra e
      obtain ⟨g1, g2⟩ := merge_rep (acc := []) (accd := []) e3 e4 rfl .nil
      exact call_dictP hc pins s σ H _ us Q I r ⟨a, ps, kvs, rfl, SqL.of ha, L2.Paired.mapP e2 fun p kv z => SqT.of (l.tup z), q.newK l g1 g2⟩
  · cases hb
    obtain ⟨x, y, rfl, h1, h2⟩ := paired2 hd
    cases h1.int; cases h2.int
    exact call_max2 hc pins s σ H _ us Q I r ⟨_, _, rfl, q.flat l .int⟩
  · cases hb
    obtain ⟨x, y, rfl, h1, h2⟩ := paired2 hd
    cases h1.int; cases h2.int
    exact call_min2 hc pins s σ H _ us Q I r ⟨_, _, rfl, q.flat l .int⟩
  · obtain ⟨x, rfl, h1⟩ := paired1 hd
    obtain ⟨a, vs, rfl, ha, ra⟩ := h1.lst l
    rename_i ds
    cases e : intsD ds with
    | none => rw [e] at hb; cases hb
    | some ns =>
      rw [e] at hb; cases hb
      have e := intsD_eq e
      subst e
      have := ra.ints
      subst this
      exact cr_sum hc pins s σ H _ us Q I r ⟨a, ns, rfl, SqL.of ha, q.flat l .int⟩
  · obtain ⟨x, rfl, h1⟩ := paired1 hd
    obtain ⟨a, vs, rfl, ha, ra⟩ := h1.lst l
    rename_i ds
    cases e : blsD ds with
    | none => rw [e] at hb; cases hb
    | some ns =>
      rw [e] at hb; cases hb
      have e := blsD_eq e
      subst e
      have := ra.bls
      subst this
      exact cr_any hc pins s σ H _ us Q I r ⟨a, ns, rfl, SqL.of ha, q.flat l .bl⟩
  · obtain ⟨x, rfl, h1⟩ := paired1 hd
    obtain ⟨a, vs, rfl, ha, ra⟩ := h1.lst l
    rename_i ds
    cases e : blsD ds with
    | none => rw [e] at hb; cases hb
    | some ns =>
      rw [e] at hb; cases hb
      have e := blsD_eq e
      subst e
      have := ra.bls
      subst this
      exact cr_all hc pins s σ H _ us Q I r ⟨a, ns, rfl, SqL.of ha, q.flat l .bl⟩
  · cases hb
end
theorem _root_.L2.PE.imp {X : Cx} {e : Expr} {t t' : TE} (h : PE X e t) (k : ∀ σ H Q, t' σ H Q → t σ H Q) : PE X e t' := ⟨fun pins s σ H Q I q => h.run pins s σ H Q I (k σ H Q q)⟩
theorem _root_.L2.PT.imp {X : Cx} {e : Expr} {t t' : TT} (h : PT X e t) (k : ∀ σ H Q, t' σ H Q → t σ H Q) : PT X e t' := ⟨fun pins s σ H Q I q => h.run pins s σ H Q I (k σ H Q q)⟩
theorem _root_.L2.PW.imp {X : Cx} {e : Expr} {t t' : TT} (h : PW X e t) (k : ∀ σ H Q, t' σ H Q → t σ H Q) : PW X e t' := ⟨fun wh pins s σ H Q I q => h.run wh pins s σ H Q I (k σ H Q q)⟩
theorem _root_.L2.PA.imp {X : Cx} {e : List Expr} {t t' : TA} (h : PA X e t) (k : ∀ σ H Q, t' σ H Q → t σ H Q) : PA X e t' := ⟨fun pos pins s σ H Q I q => h.run pos pins s σ H Q I (k σ H Q q)⟩
theorem _root_.L2.PS.imp {X : Cx} {e : Stmt} {t t' : TS} (h : PS X e t) (k : ∀ D σ H, t' D σ H → t D σ H) : PS X e t' := ⟨fun pins s σ H D I q => h.run pins s σ H D I (k D σ H q)⟩
theorem _root_.L2.PSs.imp {X : Cx} {e : List Stmt} {t t' : TS} (h : PSs X e t) (k : ∀ D σ H, t' D σ H → t D σ H) : PSs X e t' := ⟨fun pins s σ H D I q => h.run pins s σ H D I (k D σ H q)⟩
/-- a test's answer -/
def bR (r : R Val) : R Bool := r.bind fun v e => boolR v fun b => .ok b e
def tT (c : Sx) (e : IE) : TT := tR c rlB (fun env => bR (ev c.Φ c.io e env))
abbrev tVs (c : Sx) (es : IEs) : TA := tR c (rlL c.nm) (evs c.Φ c.io es)
abbrev tOs (c : Sx) (es : IEs) : TA := tR c (rlOs c.nm) (evo c.Φ c.io es)
section
variable {X : Cx} {c : Sx} {e a b : Expr} {ia ib ic : IE} {pos : Pos} {σ : St} {F H F1 H1 : Hp} {env env1 : Env} {α β γ δ : Type}
theorem boolR_ok {α : Type} {v : Val} {f : Bool → R α} : (∃ b, v.d = .bl b ∧ boolR v f = f b) ∨ boolR v f = .stuck := by
  unfold boolR
  cases h : v.d with
  | bl b => exact .inl ⟨b, rfl, rfl⟩
  | _ => exact .inr rfl
theorem rlV_bl {v : V} {x : Val} {bb : Bool} (r : (rlV c.nm σ).r H x v F1 H1 env1) (h : x.d = .bl bb) : v = .bl bb := by
  have := r.1.data
  rw [h] at this
  exact this.bl
/-- an operand that is no name -/
theorem s_opd (ne : ∀ i, ia ≠ .var i) (h : PE X a (tE c ia)) : PE X a (tO c ia) := by
  refine h.imp fun σ H Q q => ?_
  obtain ⟨F, env, E, q⟩ := q
  have : mkO ia (ev c.Φ c.io ia) env = (ev c.Φ c.io ia env).bind fun v e => .ok (.tmp v) e := by
    unfold mkO
    cases ia <;> first | rfl | exact absurd rfl (ne _)
  rw [this] at q
  refine ⟨F, env, E, Res_bind q fun x v F1 H1 env1 E1 S1 r1 h1 => ?_⟩
  exact h1 F1 H1 v E1 S1 ⟨r1.1, r1.2⟩
theorem s_cst {d : D} {v : V} (h : ∀ F, Rep c.nm F v d) (he : PE X e (tC v)) : PE X e (tE c (.cst d)) := by
  refine he.imp fun σ H Q ⟨F, env, E, q⟩ => ?_
  exact q F H v E Step.refl ⟨h F, fun z => nomatch z⟩
theorem s_var {i : Nat} (he : PE X e (tVar i)) : PE X e (tE c (.var i)) := by
  refine he.imp fun σ H Q ⟨F, env, E, q⟩ => ?_
  unfold ev at q
  cases h : slot env i with
  | none => rw [h] at q; exact q.elim
  | some x =>
    rw [h] at q
    simp only at q
    split at q
    · exact q.elim
    · obtain ⟨v, hv, r⟩ := E.val i x h
      obtain ⟨F', E', S'⟩ := E.share i
      refine ⟨v, hv, q F' H v E' S' ⟨?_, fun z => nomatch z⟩⟩
      obtain ⟨w, hw, r'⟩ := E'.val i ⟨x.d, false⟩ (by rw [slot_share, if_pos rfl, h]; rfl)
      rw [hv] at hw; cases hw
      exact r'
theorem s_varO {i : Nat} (he : PE X e (tVar i)) : PE X e (tO c (.var i)) := by
  refine he.imp fun σ H Q ⟨F, env, E, q⟩ => ?_
  unfold mkO at q
  simp only at q
  cases h : slot env i with
  | none => rw [h] at q; exact q.elim
  | some x =>
    rw [h] at q
    obtain ⟨v, hv, r⟩ := E.val i x h
    exact ⟨v, hv, q F H v E Step.refl hv⟩
theorem s_neg (ha : PE X a (tE c ia)) : PE X (.UnaryOp .USub a pos) (tE c (.neg ia)) := by
  refine (pe_un un_neg ha).imp fun σ H Q q => ?_
  obtain ⟨F, env, E, q⟩ := q
  refine ⟨F, env, E, Res_bind q fun x v F1 H1 env1 E1 S1 r1 h1 => ?_⟩
  split at h1
  · rename_i i hi
    have := r1.1.data
    rw [hi] at this
    exact ⟨i, this.int, h1 F1 H1 _ E1 S1 ⟨.int, fun z => nomatch z⟩⟩
  · exact h1.elim
theorem s_not (ha : PE X a (tE c ia)) : PE X (.UnaryOp .Not a pos) (tE c (.not ia)) := by
  refine (pe_not ha).imp fun σ H Q q => ?_
  obtain ⟨F, env, E, q⟩ := q
  refine ⟨F, env, E, Res_bind q fun x v F1 H1 env1 E1 S1 r1 h1 => ?_⟩
  rcases boolR_ok (v := x) (f := fun b => R.ok (⟨.bl (!b), false⟩ : Val) env1) with ⟨b, hb, e⟩ | e
  · rw [e] at h1
    exact ⟨b, rlV_bl r1 hb, h1 F1 H1 _ E1 S1 ⟨.bl, fun z => nomatch z⟩⟩
  · rw [e] at h1; exact h1.elim
theorem s_and {rest : List Expr} (ha : PE X a (tE c ia)) (hb : PE X (.BoolOp .And (b :: rest) pos) (tE c ib)) : PE X (.BoolOp .And (a :: b :: rest) pos) (tE c (.and ia ib)) := by
  refine (pe_and ha hb).imp fun σ H Q q => ?_
  obtain ⟨F, env, E, q⟩ := q
  refine ⟨F, env, E, Res_bind q fun x v F1 H1 env1 E1 S1 r1 h1 => ?_⟩
  rcases boolR_ok (v := x) (f := fun c1 => if c1 = true then ev c.Φ c.io ib env1 else R.ok (⟨.bl false, false⟩ : Val) env1) with ⟨b, hb, e⟩ | e
  · rw [e] at h1
    refine ⟨b, rlV_bl r1 hb, ?_⟩
    cases b with
    | true => exact ⟨F1, env1, E1, Res.shift h1 S1⟩
    | false => exact h1 F1 H1 _ E1 S1 ⟨.bl, fun z => nomatch z⟩
  · rw [e] at h1; exact h1.elim
theorem st_val (he : ∀ whole, isTrue a X.env whole = (do let v ← whole; standAt a.pos; holding [v] (truthy v))) (ha : PE X a (tE c ia)) : PT X a (tT c ia) := by
  refine (pt_val ha he).imp fun σ H Q q => ?_
  obtain ⟨F, env, E, q⟩ := q
  refine ⟨F, env, E, Res_bind q fun x v F1 H1 env1 E1 S1 r1 h1 => ?_⟩
  rcases boolR_ok (v := x) (f := fun b => R.ok b env1) with ⟨b, hb, e⟩ | e
  · rw [e] at h1
    exact ⟨b, rlV_bl r1 hb, h1 F1 H1 _ E1 S1 rfl⟩
  · rw [e] at h1; exact h1.elim
theorem bR_bind {r : R Val} {f : Val → Env → R Val} : bR (r.bind f) = r.bind fun v e => bR (f v e) := by
  cases r <;> rfl
theorem st_not (ha : PT X a (tT c ia)) : PT X (.UnaryOp .Not a pos) (tT c (.not ia)) := by
  refine (pt_not ha).imp fun σ H Q ⟨F, env, E, q⟩ => ?_
  have q : Res c σ F H env (rlB σ) (bR (ev c.Φ c.io (.not ia) env)) Q := q
  have e : bR (ev c.Φ c.io (.not ia) env) = (bR (ev c.Φ c.io ia env)).bind fun b e => .ok (!b) e := by
    show bR ((ev c.Φ c.io ia env).bind _) = _
    rw [bR_bind]
    unfold bR
    cases ev c.Φ c.io ia env with
    | ok v e =>
      show (boolR v fun b => R.ok (⟨.bl (!b), false⟩ : Val) e).bind _ = (boolR v fun b => R.ok b e).bind _
      unfold boolR
      cases v.d <;> rfl
    | _ => rfl
  rw [e] at q
  refine ⟨F, env, E, Res_bind q fun x v F1 H1 env1 E1 S1 r1 h1 => ?_⟩
  have r1 : x = v := r1
  subst r1
  exact h1 F1 H1 _ E1 S1 rfl
theorem bR_bool {v : Val} {f : Bool → R Val} : bR (boolR v f) = boolR v fun b => bR (f b) := by
  unfold boolR
  cases v.d <;> rfl
theorem st_and {rest : List Expr} (ha : PT X a (tT c ia)) (hb : PW X (.BoolOp .And (b :: rest) pos) (tT c ib)) : PW X (.BoolOp .And (a :: b :: rest) pos) (tT c (.and ia ib)) := by
  refine (pw_and ha hb).imp fun σ H Q ⟨F, env, E, q⟩ => ?_
  have q : Res c σ F H env (rlB σ) (bR (ev c.Φ c.io (.and ia ib) env)) Q := q
  have e : bR (ev c.Φ c.io (.and ia ib) env) = (bR (ev c.Φ c.io ia env)).bind fun c1 e => if c1 = true then bR (ev c.Φ c.io ib e) else .ok false e := by
    show bR ((ev c.Φ c.io ia env).bind _) = _
    rw [bR_bind]
    unfold bR
    cases ev c.Φ c.io ia env with
    | ok v e =>
      show bR (boolR v fun c1 => if c1 = true then ev c.Φ c.io ib e else .ok ⟨.bl false, false⟩ e) = (boolR v fun b => R.ok b e).bind _
      rw [bR_bool]
      unfold boolR
      cases v.d with
      | bl b => cases b <;> rfl
      | _ => rfl
    | _ => rfl
  rw [e] at q
  refine ⟨F, env, E, Res_bind q fun x v F1 H1 env1 E1 S1 r1 h1 => ?_⟩
  have r1 : x = v := r1
  subst r1
  cases x with
  | true => exact ⟨F1, env1, E1, Res.shift h1 S1⟩
  | false => exact h1 F1 H1 _ E1 S1 rfl
theorem st_or {rest : List Expr} (ha : PT X a (tT c ia)) (hb : PW X (.BoolOp .Or (b :: rest) pos) (tT c ib)) : PW X (.BoolOp .Or (a :: b :: rest) pos) (tT c (.or ia ib)) := by
  refine (pw_or ha hb).imp fun σ H Q ⟨F, env, E, q⟩ => ?_
  have q : Res c σ F H env (rlB σ) (bR (ev c.Φ c.io (.or ia ib) env)) Q := q
  have e : bR (ev c.Φ c.io (.or ia ib) env) = (bR (ev c.Φ c.io ia env)).bind fun c1 e => if c1 = true then .ok true e else bR (ev c.Φ c.io ib e) := by
    show bR ((ev c.Φ c.io ia env).bind _) = _
    rw [bR_bind]
    unfold bR
    cases ev c.Φ c.io ia env with
    | ok v e =>
      show bR (boolR v fun c1 => if c1 = true then .ok ⟨.bl true, false⟩ e else ev c.Φ c.io ib e) = (boolR v fun b => R.ok b e).bind _
      rw [bR_bool]
      unfold boolR
      cases v.d with
      | bl b => cases b <;> rfl
      | _ => rfl
    | _ => rfl
  rw [e] at q
  refine ⟨F, env, E, Res_bind q fun x v F1 H1 env1 E1 S1 r1 h1 => ?_⟩
  have r1 : x = v := r1
  subst r1
  cases x with
  | false => exact ⟨F1, env1, E1, Res.shift h1 S1⟩
  | true => exact h1 F1 H1 _ E1 S1 rfl
theorem opt_ok {α : Type} {o : Option α} {e : Env} {β : Type} {rl : Rl α β} {Q : β → Hp → Prop} (h : Res c σ F H env rl (R.opt o e) Q) : ∃ x, o = some x ∧ Res c σ F H env rl (.ok x e) Q := by
  cases o with
  | none => exact h.elim
  | some x => exact ⟨x, rfl, h⟩
theorem fin2 {x y : Opd} {v w : V} {f : D → D → Option Val} {Q : VK} {H0 H0' : Hp} (E : EnvR c.nm F H σ env) (rx : rO c.nm σ H0 F H env x v) (ry : rO c.nm σ H0' F H env y w)
    (h : Res c σ F H env (rlV c.nm σ) (match x.get env, y.get env with
      | some dx, some dy => R.opt (f dx dy) env
      | _, _ => .stuck) Q) : ∃ d1 d2 z, Le F H ∧ DataR c.nm F H v d1 ∧ DataR c.nm F H w d2 ∧ f d1 d2 = some z ∧ Fin c.nm F H z Q := by
  cases h1 : x.get env with
  | none => simp only [h1] at h; exact h.elim
  | some dx =>
    cases h2 : y.get env with
    | none => simp only [h1, h2] at h; exact h.elim
    | some dy =>
      simp only [h1, h2] at h
      obtain ⟨z, hz, h⟩ := opt_ok h
      exact ⟨dx, dy, z, E.le, rx.data E h1, ry.data E h2, hz, Res.fin E h⟩
theorem s_bin {op : Operator} (ha : PE X a (tO c ia)) (hb : PE X b (tO c ib)) : PE X (.BinOp a op b pos) (tE c (.bin op ia ib)) := by
  refine (pe_op (op_bin (nm := c.nm)) ha hb).imp fun σ H Q q => ?_
  obtain ⟨F, env, E, q⟩ := q
  refine ⟨F, env, E, Res_bind q fun x v F1 H1 env1 E1 S1 r1 h1 => ?_⟩
  refine ⟨F1, env1, E1, Res_bind (Res.shift h1 S1) fun y w F2 H2 env2 E2 S2 r2 h2 => ?_⟩
  obtain ⟨d1, d2, z, l, k1, k2, k3, k4⟩ := fin2 E2 (rO.step r1 E1 S2) r2 (Res.shift h2 S2)
  exact ⟨F2, d1, d2, z, l, k1, k2, k3, k4⟩
theorem s_cmp {op : CmpOp} (hu : X.A.units + 64 < cLine) (hm : behindInMarks op b = false) (ha : PE X a (tO c ia)) (hb : PE X b (tO c ib)) : PE X (.Compare a [op] [b] pos) (tE c (.cmp op ia ib)) := by
  refine (pe_cmpR (op_cmpX (nm := c.nm) hu op) ha hb hm).imp fun σ H Q q => ?_
  obtain ⟨F, env, E, q⟩ := q
  refine ⟨F, env, E, Res_bind q fun x v F1 H1 env1 E1 S1 r1 h1 => ?_⟩
  refine ⟨F1, env1, E1, Res_bind (Res.shift h1 S1) fun y w F2 H2 env2 E2 S2 r2 h2 => ?_⟩
  obtain ⟨d1, d2, z, l, k1, k2, k3, k4⟩ := fin2 (f := fun d1 d2 => (cmpD op d1 d2).map fun b => ⟨.bl b, false⟩) E2 (rO.step r1 E1 S2) r2 (Res.shift h2 S2)
  cases e : cmpD op d1 d2 with
  | none => rw [e] at k3; cases k3
  | some b =>
    rw [e] at k3; cases k3
    exact ⟨F2, d1, d2, b, l, k1, k2, e, k4.flat l .bl⟩
/-- a comparison as a test -/
theorem st_cmp {op : CmpOp} (hu : X.A.units + 64 < cLine) (hm : behindInMarks op b = false) (ha : PE X a (tO c ia)) (hb : PE X b (tO c ib)) : PT X (.Compare a [op] [b] pos) (tT c (.cmp op ia ib)) := by
  refine (pt_cmpR (op_cmpX (nm := c.nm) hu op) ha hb hm).imp fun σ H Q q => ?_
  obtain ⟨F, env, E, q⟩ := q
  have q : Res c σ F H env (rlB σ) ((mkO ia (ev c.Φ c.io ia) env).bind fun x e => (mkO ib (ev c.Φ c.io ib) e).bind fun y e => bR (match x.get e, y.get e with
      | some dx, some dy => R.opt ((cmpD op dx dy).map fun b => (⟨.bl b, false⟩ : Val)) e
      | _, _ => .stuck)) Q := by
    have e : bR (ev c.Φ c.io (.cmp op ia ib) env) = ((mkO ia (ev c.Φ c.io ia) env).bind fun x e => (mkO ib (ev c.Φ c.io ib) e).bind fun y e => bR (match x.get e, y.get e with
      | some dx, some dy => R.opt ((cmpD op dx dy).map fun b => (⟨.bl b, false⟩ : Val)) e
      | _, _ => .stuck)) := by
      have bb : ∀ {α : Type} (r : R α) (f : α → Env → R Val), bR (r.bind f) = r.bind fun v e => bR (f v e) := fun r f => by cases r <;> rfl
      show bR ((mkO ia (ev c.Φ c.io ia) env).bind _) = _
      rw [bb]
      congr 1
      funext x e
      rw [bb] <;> rfl
    rw [← e]; exact q
  refine ⟨F, env, E, Res_bind q fun x v F1 H1 env1 E1 S1 r1 h1 => ?_⟩
  refine ⟨F1, env1, E1, Res_bind (Res.shift h1 S1) fun y w F2 H2 env2 E2 S2 r2 h2 => ?_⟩
  have h2 := Res.shift h2 S2
  cases e1 : x.get env2 with
  | none => simp only [e1] at h2; exact h2.elim
  | some dx =>
    cases e2 : y.get env2 with
    | none => simp only [e1, e2] at h2; exact h2.elim
    | some dy =>
      simp only [e1, e2] at h2
      cases e : cmpD op dx dy with
      | none => rw [e] at h2; exact h2.elim
      | some k =>
        rw [e] at h2
        exact ⟨F2, dx, dy, k, E2.le, (rO.step r1 E1 S2).data E2 e1, rO.data r2 E2 e2, e, k, rfl, h2 F2 H2 k E2 Step.refl rfl⟩
theorem s_ix (hK : X.K = c.nm.K) (hu : X.A.units + 64 < cLine) (hs : PlainIx b) (ha : PE X a (tO c ia)) (hb : PE X b (tO c ib)) : PE X (.Subscript a b pos) (tE c (.ix ia ib)) := by
  refine (pe_ix (ix_X (nm := c.nm) hK hu) ha hb hs).imp fun σ H Q q => ?_
  obtain ⟨F, env, E, q⟩ := q
  refine ⟨F, env, E, Res_bind q fun x v F1 H1 env1 E1 S1 r1 h1 => ?_⟩
  refine ⟨F1, env1, E1, Res_bind (Res.shift h1 S1) fun y w F2 H2 env2 E2 S2 r2 h2 => ?_⟩
  obtain ⟨d1, d2, z, l, k1, k2, k3, k4⟩ := fin2 (f := fun d1 d2 => (ixD d1 d2).map fun d => ⟨d, false⟩) E2 (rO.step r1 E1 S2) r2 (Res.shift h2 S2)
  cases e : ixD d1 d2 with
  | none => rw [e] at k3; cases k3
  | some b =>
    rw [e] at k3; cases k3
    exact ⟨F2, d1, d2, b, l, k1, k2, e, k4⟩
theorem fin1 {x : Opd} {v : V} {f : D → Option Val} {Q : VK} {H0 : Hp} (E : EnvR c.nm F H σ env) (rx : rO c.nm σ H0 F H env x v)
    (h : Res c σ F H env (rlV c.nm σ) (match x.get env with
      | some dx => R.opt (f dx) env
      | _ => .stuck) Q) : ∃ d1 z, Le F H ∧ DataR c.nm F H v d1 ∧ f d1 = some z ∧ Fin c.nm F H z Q := by
  cases h1 : x.get env with
  | none => simp only [h1] at h; exact h.elim
  | some dx =>
    simp only [h1] at h
    obtain ⟨z, hz, h⟩ := opt_ok h
    exact ⟨dx, z, E.le, rx.data E h1, hz, Res.fin E h⟩
theorem intR_ok {α : Type} {v : Val} {f : Int → R α} : (∃ b, v.d = .int b ∧ intR v f = f b) ∨ intR v f = .stuck := by
  unfold intR
  cases h : v.d with
  | int b => exact .inl ⟨b, rfl, rfl⟩
  | _ => exact .inr rfl
theorem Res_int {v : Val} {f : Int → R α} {rl : Rl α β} {Q : β → Hp → Prop} (h : Res c σ F H env rl (intR v f) Q) : ∃ i, v.d = .int i ∧ Res c σ F H env rl (f i) Q := by
  rcases intR_ok (v := v) (f := f) with ⟨i, hi, e⟩ | e
  · rw [e] at h; exact ⟨i, hi, h⟩
  · rw [e] at h; exact h.elim
theorem rlV_int {v : V} {x : Val} {bb : Int} (r : (rlV c.nm σ).r H x v F1 H1 env1) (h : x.d = .int bb) : v = .int bb := by
  have := r.1.data
  rw [h] at this
  exact this.int
theorem s_sl10 {p2 : Pos} (hK : X.K = c.nm.K) (ha : PE X a (tO c ia)) (hb : PE X b (tE c ib)) : PE X (.Subscript a (.Slice (some b) none none p2) pos) (tE c (.sl10 ia ib)) := by
  refine (pe_slice (sl_X (nm := c.nm) hK) ha (po_some hb) po_none).imp fun σ H Q q => ?_
  obtain ⟨F, env, E, q⟩ := q
  refine ⟨F, env, E, Res_bind q fun x v F1 H1 env1 E1 S1 r1 h1 => ?_⟩
  refine ⟨F1, env1, E1, Res_bind (Res.shift h1 S1) fun y w F2 H2 env2 E2 S2 r2 h2 => ?_⟩
  obtain ⟨i, hi, h2⟩ := Res_int h2
  · obtain ⟨d1, z, l, k1, k3, k4⟩ := fin1 (f := fun d => slD d (some i) none) E2 (rO.step r1 E1 S2) (Res.shift h2 S2)
    exact ⟨i, rlV_int r2 hi, F2, d1, z, l, k1, k3, k4⟩
theorem s_sl01 {p2 : Pos} (hK : X.K = c.nm.K) (ha : PE X a (tO c ia)) (hb : PE X b (tE c ib)) : PE X (.Subscript a (.Slice none (some b) none p2) pos) (tE c (.sl01 ia ib)) := by
  refine (pe_slice (sl_X (nm := c.nm) hK) ha po_none (po_some hb)).imp fun σ H Q q => ?_
  obtain ⟨F, env, E, q⟩ := q
  refine ⟨F, env, E, Res_bind q fun x v F1 H1 env1 E1 S1 r1 h1 => ?_⟩
  refine ⟨F1, env1, E1, Res_bind (Res.shift h1 S1) fun y w F2 H2 env2 E2 S2 r2 h2 => ?_⟩
  obtain ⟨i, hi, h2⟩ := Res_int h2
  · obtain ⟨d1, z, l, k1, k3, k4⟩ := fin1 (f := fun d => slD d none (some i)) E2 (rO.step r1 E1 S2) (Res.shift h2 S2)
    exact ⟨i, rlV_int r2 hi, F2, d1, z, l, k1, k3, k4⟩
theorem s_sl11 {e' : Expr} {ie : IE} {p2 : Pos} (hK : X.K = c.nm.K) (ha : PE X a (tO c ia)) (hb : PE X b (tE c ib)) (hc : PE X e' (tE c ie)) : PE X (.Subscript a (.Slice (some b) (some e') none p2) pos) (tE c (.sl11 ia ib ie)) := by
  refine (pe_slice (sl_X (nm := c.nm) hK) ha (po_some hb) (po_some hc)).imp fun σ H Q q => ?_
  obtain ⟨F, env, E, q⟩ := q
  refine ⟨F, env, E, Res_bind q fun x v F1 H1 env1 E1 S1 r1 h1 => ?_⟩
  refine ⟨F1, env1, E1, Res_bind (Res.shift h1 S1) fun y w F2 H2 env2 E2 S2 r2 h2 => ?_⟩
  have rx := rO.step r1 E1 S2
  obtain ⟨i, hi, h2⟩ := Res_int h2
  refine ⟨i, rlV_int r2 hi, F2, env2, E2, Res_bind (Res.shift h2 S2) fun u t F3 H3 env3 E3 S3 r3 h3 => ?_⟩
  obtain ⟨j, hj, h3⟩ := Res_int h3
  obtain ⟨d1, z, l, k1, k3, k4⟩ := fin1 (f := fun d => slD d (some i) (some j)) E3 (rO.step rx E2 S3) (Res.shift h3 S3)
  exact ⟨j, rlV_int r3 hj, F3, d1, z, l, k1, k3, k4⟩
end
end MT
namespace MT
open PySem PySem.Spec PyProof.Rows L2
def ioVs : List Bool → List V → List V
  | true :: bs, v :: vs => v :: ioVs bs vs
  | false :: bs, _ :: vs => ioVs bs vs
  | _, _ => []
def ioS (bs : List Bool) (vs : List V) : AS := fun a => .ref a ∈ ioVs bs vs
def ArgR (nm : Nm) (F H : Hp) : List Bool → List V → List D → Prop
  | _, [], [] => True
  | [], v :: vs, d :: ds => Rep nm F v d ∧ ArgR nm F H [] vs ds
  | b :: bs, v :: vs, d :: ds => ValR nm F H v ⟨d, b⟩ ∧ ArgR nm F H bs vs ds
  | _, _, _ => False
def spD (nm : Nm) (Φ : CT) (nps : Nat) (j : Nat) : Sp := fun vs H Q E => ∃ F st ds, vs.length = nps ∧ Le F H ∧ CelR nm F H st ∧ Sub nm.F0 F ∧ ArgR nm F H (Φ.io j) vs ds ∧ (ioVs (Φ.io j) vs).Nodup ∧
  match Φ.call j st ds with
  | .ok x outs st' => ∀ F' H' w, Le F' H' → CelR nm F' H' st' → Step (ioS (Φ.io j) vs) F H (ioS (Φ.io j) vs) F' H' → ValR nm F' H' w x → (x.own = true → ∀ p, w = .ref p → H p = none) → Paired (Own nm F' H') (ioVs (Φ.io j) vs) outs → Q w H'
  | .exc x st' => ∀ F' H' cls dd, Le F' H' → CelR nm F' H' st' → Step (ioS (Φ.io j) vs) F H (ioS (Φ.io j) vs) F' H' → ExcR nm x cls dd F' → E cls dd H'
  | .stuck => False
section
variable {X : Cx} {c : Sx} {e a b : Expr} {es : List Expr} {ia ib ic : IE} {as : IEs} {pos : Pos} {σ : St} {F H F1 H1 : Hp} {env env1 : Env} {α β γ δ : Type}
theorem s_vnil : PA X [] (tVs c .nil) := pa_nil.imp fun σ H Q ⟨F, env, E, q⟩ => q F H [] E Step.refl .nil
theorem s_vcons (hs : starEach (e :: es) X.env = (false, eval e X.env) :: starEach es X.env) (ha : PE X e (tE c ia)) (hr : PA X es (tVs c as)) : PA X (e :: es) (tVs c (.cons ia as)) := by
  refine (pa_cons ha hr hs).imp fun σ H Q ⟨F, env, E, q⟩ => ?_
  refine ⟨F, env, E, Res_bind q fun x v F1 H1 env1 E1 S1 r1 h1 => ?_⟩
  obtain ⟨F1', E1', rep, sb, _, nw⟩ := E1.shareV r1.1 fun o p e => (r1.2 o p e).2
  have S1' := S1.shared sb fun b hb => (nw b hb).imp id fun z => (r1.2 z.1 b z.2).1
  refine ⟨F1', env1, E1', Res_bind (Res.shift h1 S1') fun ds ws F2 H2 env2 E2 S2 r2 h2 => ?_⟩
  exact h2 F2 H2 (v :: ws) E2 S2 (.cons (rep.mono S2.sub) r2)
theorem s_onil : PA X [] (tOs c .nil) := pa_nil.imp fun σ H Q ⟨F, env, E, q⟩ => q F H [] E Step.refl .nil
theorem s_ocons (hs : starEach (e :: es) X.env = (false, eval e X.env) :: starEach es X.env) (ha : PE X e (tO c ia)) (hr : PA X es (tOs c as)) : PA X (e :: es) (tOs c (.cons ia as)) := by
  refine (pa_cons ha hr hs).imp fun σ H Q ⟨F, env, E, q⟩ => ?_
  refine ⟨F, env, E, Res_bind q fun x v F1 H1 env1 E1 S1 r1 h1 => ?_⟩
  refine ⟨F1, env1, E1, Res_bindS S1 h1 fun ds ws F2 H2 env2 E2 S2 r2 h2 => ?_⟩
  exact h2 F2 H2 (v :: ws) E2 (S1.trans S2) (.cons (rO.step r1 E1 S2) ((rlOs c.nm σ).anti S1.there r2))
theorem s_lst (h : PA X es (tVs c as)) : PE X (.List es pos) (tE c (.lst as)) := by
  refine (pe_lst h).imp fun σ H Q ⟨F, env, E, q⟩ => ?_
  refine ⟨F, env, E, Res_bind q fun ds vs F1 H1 env1 E1 S1 r1 h1 => ?_⟩
  split at h1
  · rename_i hl
    exact ⟨by rw [line_eq, RepL.length r1]; exact hl, (Res.fin E1 (Res.shift h1 S1)).newL E1.le r1⟩
  · exact h1.elim
theorem s_tup {x1 : Nat} (h : PA X es (tVs c as)) : PE X (.Tuple es x1 pos) (tE c (.tup as)) := by
  refine (pe_tup h).imp fun σ H Q ⟨F, env, E, q⟩ => ?_
  refine ⟨F, env, E, Res_bind q fun ds vs F1 H1 env1 E1 S1 r1 h1 => ?_⟩
  split at h1
  · rename_i hl
    exact ⟨by rw [line_eq, RepL.length r1]; exact hl, (Res.fin E1 (Res.shift h1 S1)).newT E1.le r1⟩
  · exact h1.elim
theorem s_dnew : PE X (.Dict [] [] pos) (tE c (.dct .nil)) := by
  refine pe_dnewK.imp fun σ H Q ⟨F, env, E, q⟩ => ?_
  exact (Res.fin E q).newK E.le (kvs := []) (kds := []) rfl .nil
end
section
variable {nm : Nm} {F H : Hp} {κ : Type} [DecidableEq κ]
theorem putK_cons {p : κ × V} {r : List (κ × V)} {k : κ} {v : V} (nd : ((p :: r).map (·.1)).Nodup) : putK (p :: r) k v = if p.1 = k then (p.1, v) :: r else p :: putK r k v := by
  rw [List.map_cons, List.nodup_cons] at nd
  unfold putK
  by_cases e : p.1 = k
  · rw [if_pos e, if_pos (by simp [e])]
    rw [List.map_cons, if_pos e]
    congr 1
    refine (List.map_congr_left fun q hq => ?_).trans (List.map_id _)
    have : ¬ q.1 = k := fun z => nd.1 (List.mem_map.mpr ⟨q, hq, z.trans e.symm⟩)
    rw [if_neg this]; rfl
  · rw [if_neg e]
    by_cases h : (r.any fun kv => decide (kv.1 = k)) = true
    · rw [if_pos (by simpa [e] using h), if_pos h, List.map_cons, if_neg e]
    · rw [if_neg (by simpa [e] using h), if_neg h]; rfl
theorem put_rep : ∀ {kvs : List (κ × V)} {kds : List (κ × D)}, kvs.map (·.1) = kds.map (·.1) → RepL nm F (kvs.map (·.2)) (kds.map (·.2)) → (kvs.map (·.1)).Nodup → ∀ {k : κ} {v : V} {d : D}, Rep nm F v d →
    (putK kvs k v).map (·.1) = (setA kds k d).map (·.1) ∧ RepL nm F ((putK kvs k v).map (·.2)) ((setA kds k d).map (·.2)) ∧ ((putK kvs k v).map (·.1)).Nodup ∧ ∀ x ∈ (putK kvs k v).map (·.1), x ∈ kvs.map (·.1) ∨ x = k
  | [], [], _, _, _, k, v, d, r => ⟨rfl, .cons r .nil, by simp [putK], fun x hx => by simp [putK] at hx; exact .inr hx⟩
  | [], _ :: _, h, _, _, _, _, _, _ => by cases h
  | _ :: _, [], h, _, _, _, _, _, _ => by cases h
  | p :: r, q :: t, h, rr, nd, k, v, d, rv => by
    rw [putK_cons nd]
    have h0 := h
    simp only [List.map_cons, List.cons.injEq] at h
    cases rr with
    | cons r1 r2 =>
      unfold setA
      by_cases e : p.1 = k
      · rw [if_pos e, if_pos (h.1.symm.trans e)]
        refine ⟨by simp [h], .cons rv r2, by simpa using nd, fun x hx => .inl ?_⟩
        simpa using hx
      · rw [if_neg e, if_neg fun z => e (h.1.trans z)]
        have nd' := nd
        rw [List.map_cons, List.nodup_cons] at nd'
        obtain ⟨a1, a2, a3, a4⟩ := put_rep h.2 r2 nd'.2 (k := k) rv
        refine ⟨by simp [h.1, a1], .cons r1 a2, ?_, fun x hx => ?_⟩
        · rw [List.map_cons, List.nodup_cons]
          refine ⟨fun z => ?_, a3⟩
          rcases a4 _ z with z | z
          · exact nd'.1 z
          · exact e z
        · rw [List.map_cons, List.mem_cons] at hx
          rcases hx with rfl | hx
          · exact .inl (by simp)
          · rcases a4 x hx with z | z
            · exact .inl (by simp only [List.map_cons, List.mem_cons]; exact .inr z)
            · exact .inr z
end
def pairV : List V → List (V × V)
  | x :: y :: r => (x, y) :: pairV r
  | _ => []
theorem pairs_merge {nm : Nm} {F : Hp} : ∀ (n : Nat) {ws : List V} {ds : List D} {acc : List (Key × V)} {accD kds : List (Key × D)}, ws.length ≤ n → RepL nm F ws ds → acc.map (·.1) = accD.map (·.1) → RepL nm F (acc.map (·.2)) (accD.map (·.2)) → (acc.map (·.1)).Nodup → pairsD accD ds = some kds →
    ∃ kvs : List (Key × V), pairV ws = kvs.map (fun kv => (kV kv.1, kv.2)) ∧ kvs.length ≤ ws.length ∧ (mergeK acc kvs).map (·.1) = kds.map (·.1) ∧ RepL nm F ((mergeK acc kvs).map (·.2)) (kds.map (·.2))
  | 0, ws, ds, acc, accD, kds, hn, r, k, ra, nd, h => by
    have : ws = [] := List.eq_nil_of_length_eq_zero (by omega)
    subst this
    cases r
    cases h
    exact ⟨[], rfl, Nat.le_refl _, k, ra⟩
  | n + 1, ws, ds, acc, accD, kds, hn, r, k, ra, nd, h => by
    cases r with
    | nil => cases h; exact ⟨[], rfl, Nat.le_refl _, k, ra⟩
    | @cons x d ws ds r1 r =>
      cases r with
      | nil => cases h
      | @cons y d2 ws ds r2 r =>
        unfold pairsD at h
        cases e : keyD d with
        | none => rw [e] at h; cases h
        | some key =>
          rw [e] at h
          have hx := keyD_rep (H := fun _ => none) (.inr r1) e
          obtain ⟨a1, a2, a3, _⟩ := put_rep k ra nd (k := key) r2
          simp only [List.length_cons] at hn
          obtain ⟨kvs, b1, b2, b3, b4⟩ := pairs_merge n (by omega) r a1 a2 a3 h
          refine ⟨(key, y) :: kvs, ?_, ?_, b3, b4⟩
          · simp [pairV, hx, b1]
          · simp only [List.length_cons]; omega
section
variable {X : Cx} {c : Sx} {e a b : Expr} {es : List Expr} {ia ib ic : IE} {as : IEs} {pos : Pos} {σ : St} {F H F1 H1 : Hp} {env env1 : Env} {α β γ δ : Type}
inductive PPd (X : Cx) (c : Sx) : List (Option Expr) → List Expr → IEs → Prop
  | nil : PPd X c [] [] .nil
  | cons {k v : Expr} {ks : List (Option Expr)} {vs : List Expr} {ik iv : IE} {is : IEs} : PE X k (tE c ik) → PE X v (tE c iv) → PPd X c ks vs is → PPd X c (some k :: ks) (v :: vs) (.cons ik (.cons iv is))
theorem PPd.read {ks : List (Option Expr)} {vs : List Expr} {is : IEs} (h : PPd X c ks vs is) :
    ∃ trs, PPs X pos ks vs trs ∧ ks.all (·.isSome) = true ∧ ks.length = vs.length ∧ ∀ σ H Q, tVs c is σ H (fun ws H' => ws.length = 2 * ks.length → Q (pairV ws) H') → tPairs trs σ H Q := by
  induction h with
  | nil => exact ⟨[], pps_nil, rfl, rfl, fun σ H Q ⟨F, env, E, q⟩ => q F H [] E Step.refl .nil rfl⟩
  | @cons k v ks vs ik iv is hk hv _ ih =>
    obtain ⟨trs, h1, h2, h3, h4⟩ := ih
    refine ⟨(tE c ik, tE c iv) :: trs, pps_cons hk hv h1, by simpa using h2, by simp [h3], fun σ H Q ⟨F, env, E, q⟩ => ?_⟩
    refine ⟨F, env, E, Res_bind q fun x v F1 H1 env1 E1 S1 r1 h1 => ?_⟩
    obtain ⟨F1', E1', rep, sb, _, nw⟩ := E1.shareV r1.1 fun o p e => (r1.2 o p e).2
    have S1' := S1.shared sb fun b hb => (nw b hb).imp id fun z => (r1.2 z.1 b z.2).1
    have h1 := Res.shift h1 S1'
    have h1 : Res c σ F1' H1 env1 (rlL c.nm σ) (((ev c.Φ c.io iv env1).bind fun v e => (evs c.Φ c.io is e).bind fun ds e => .ok (v.d :: ds) e).bind fun ds e => .ok (x.d :: ds) e) _ := h1
    have e : (((ev c.Φ c.io iv env1).bind fun v e => (evs c.Φ c.io is e).bind fun ds e => R.ok (v.d :: ds) e).bind fun ds e => R.ok (x.d :: ds) e) = (ev c.Φ c.io iv env1).bind fun v e => (evs c.Φ c.io is e).bind fun ds e => R.ok (x.d :: v.d :: ds) e := by
      cases ev c.Φ c.io iv env1 with
      | ok v e => show ((evs c.Φ c.io is e).bind _).bind _ = (evs c.Φ c.io is e).bind _; cases evs c.Φ c.io is e <;> rfl
      | _ => rfl
    rw [e] at h1
    refine ⟨F1', env1, E1', Res_bind h1 fun y w F2 H2 env2 E2 S2 r2 h2 => ?_⟩
    obtain ⟨F2', E2', rep2, sb2, _, nw2⟩ := E2.shareV r2.1 fun o p e => (r2.2 o p e).2
    have S2' := S2.shared sb2 fun b hb => (nw2 b hb).imp id fun z => (r2.2 z.1 b z.2).1
    refine h4 σ H2 _ ⟨F2', env2, E2', Res_bind (Res.shift h2 S2') fun ds ws F3 H3 env3 E3 S3 r3 h3 => fun hl => ?_⟩
    exact h3 F3 H3 (v :: w :: ws) E3 S3 (.cons (rep.mono (S2'.sub.trans S3.sub)) (.cons (rep2.mono S3.sub) r3)) (by simp only [List.length_cons]; omega)
/-- nothing of the relation leans on p -/
theorem At.free {nm : Nm} {F H : Hp} {a p : Addr} {d : D} {o : HO} (h : At nm F H a d) (ne : a ≠ p) : At nm F (upd H p o) a d := h.mono (Sub.refl _) (upd_ne ne)
theorem CelR.at_free {nm : Nm} {F H : Hp} {st : List D} {p : Addr} {o : HO} (C : CelR nm F H st) (fp : F p = none) : CelR nm F (upd H p o) st :=
  ⟨fun n d h => let ⟨a, h1, h2⟩ := C.at_ n d h; ⟨a, h1, h2.free (ne_of_none h1 fp)⟩, C.lt, C.inj⟩
theorem EnvR.at_free {nm : Nm} {p : Addr} {o : HO} (E : EnvR nm F H σ env) (fp : F p = none) (np : ¬ Ow σ env p) : EnvR nm F (upd H p o) σ env where
  len := E.len
  le := fun a u h => by rw [upd_ne (ne_of_none h fp)]; exact E.le a u h
  val := fun i x hx => by
    obtain ⟨v, hv, r⟩ := E.val i x hx
    refine ⟨v, hv, ?_⟩
    unfold ValR at r ⊢
    split
    · rename_i ho
      rw [if_pos ho] at r
      obtain ⟨a, rfl, fa, q⟩ := r
      have ne : a ≠ p := fun z => np ⟨i, x, hx, ho, by rw [hv, z]⟩
      exact ⟨a, rfl, fa, q.mono (Sub.refl _) (upd_ne ne)⟩
    · rename_i ho
      rw [if_neg ho] at r
      exact r
  sep := E.sep
  cel := E.cel.at_free fp
  base := E.base
theorem s_dct {ks : List (Option Expr)} {vs : List Expr} {is : IEs} (h : PPd X c ks vs is) (h0 : ks ≠ []) (h15 : ks.length ≤ 15) : PE X (.Dict ks vs pos) (tE c (.dct is)) := by
  obtain ⟨trs, h1, h2, h3, h4⟩ := h.read (pos := pos)
  refine (pe_disp h1 h2 h3 h0 h15).imp fun σ H Q ⟨F, env, E, q⟩ p n => ?_
  obtain ⟨xt, fp⟩ := Ext.own (o := .dK []) E.le n
  have np : ¬ Ow σ env p := fun z => E.ow_some z n
  refine h4 σ _ _ ⟨F, env, E.ext xt, ?_⟩
  have q : Res c σ F H env (rlV c.nm σ) ((evs c.Φ c.io is env).bind fun ds e => R.opt ((pairsD [] ds).map fun kvs => ⟨.dK kvs, true⟩) e) Q := q
  cases hq : evs c.Φ c.io is env with
  | stuck => rw [hq] at q; exact q
  | exc x env' =>
    rw [hq] at q
    exact fun F' H' cls dd E' S' r => q F' H' cls dd E' (Step.trans (Ext.stp xt) S') r
  | ok ds env2 =>
    rw [hq] at q
    intro F2 H2 ws E2 S2 r2 hlen
    obtain ⟨z, hz, q⟩ := opt_ok q
    cases hp : pairsD [] ds with
    | none => rw [hp] at hz; cases hz
    | some kds =>
      rw [hp] at hz
      cases hz
      have hp2 : H2 p = some (.dK []) := S2.keep p _ upd_same np fun ⟨k, z⟩ => by rw [fp] at z; cases z
      have fp2 : F2 p = none := by
        cases hf : F2 p with
        | none => rfl
        | some o =>
          rcases S2.new p (by rw [hf]; exact fun z => nomatch z) with z | z | z
          · exact absurd fp z
          · exact absurd z (Nw.not upd_same fun _ z => nomatch z)
          · exact absurd z np
      have np2 : ¬ Ow σ env2 p := fun z => by
        rcases S2.les p z with z | z
        · exact np z
        · rw [upd_same] at z; cases z
      obtain ⟨kvs, b1, b2, b3, b4⟩ := pairs_merge (nm := c.nm) (F := F2) (acc := []) (accD := []) _ (Nat.le_refl _) r2 rfl .nil (by simp) hp
      have hl : kvs.length ≤ 15 := by
        have : (pairV ws).length = kvs.length := by rw [b1, List.length_map]
        have pl : ∀ (n : Nat) (ws : List V), ws.length ≤ n → (pairV ws).length ≤ ws.length / 2 := by
          intro n
          induction n using Nat.strongRecOn with
          | _ n ih =>
            intro ws hn
            match ws with
            | [] => simp [pairV]
            | [_] => simp [pairV]
            | _ :: _ :: r =>
              simp only [List.length_cons] at hn
              have := ih (n - 2) (by omega) r (by omega)
              simp only [pairV, List.length_cons]
              omega
        have := pl _ ws (Nat.le_refl _)
        omega
      refine ⟨hp2, kvs, b1, hl, ?_⟩
      have S3 : Step (Ow σ env) F H (Ow σ env2) F2 (upd H2 p (.dK (mergeK [] kvs))) := by
        have S := Step.trans (Ext.stp (σ := σ) (env := env) xt) S2
        refine ⟨S.sub, S.new, fun a o ha na => ?_, S.les, fun a ha => ?_, S.mrk⟩
        · rw [upd_ne (ne_of_none ha n)]; exact S.keep a o ha na
        · by_cases e : a = p
          · subst e; rw [upd_same] at ha; cases ha
          · rw [upd_ne e] at ha; exact S.there a ha
      refine q F2 _ (.ref p) (E2.at_free fp2 np2) S3 ⟨⟨p, rfl, fp2, _, upd_same, b3, b4⟩, fun _ p' e => ?_⟩
      cases e
      exact ⟨n, np2⟩
end
end MT
namespace MT
open PySem PySem.Spec PyProof.Rows L2
theorem At.rep {nm : Nm} {F F' H : Hp} {a : Addr} {d : D} (h : At nm F H a d) (s : Sub F F') (l : Le F' H) (n : F' a ≠ none) (nm' : ¬ Mrk F' a) : Rep nm F' (.ref a) d := by
  cases q : F' a with
  | none => exact absurd q n
  | some o =>
    have lo := l a o q
    have no : ¬ ∃ n, o = .own n := fun ⟨k, z⟩ => nm' ⟨k, by rw [q, z]⟩
    cases d with
    | lst _ => obtain ⟨_, h, r⟩ := h; rcases lo with z | ⟨_, _, z⟩ | ⟨z, _⟩ <;> first | exact absurd z no | (rw [h] at z; first | (cases z; done) | (cases z; exact .lst q (r.mono s)))
    | dK _ => obtain ⟨_, h, k, r⟩ := h; rcases lo with z | ⟨_, _, z⟩ | ⟨z, _⟩ <;> first | exact absurd z no | (rw [h] at z; first | (cases z; done) | (cases z; exact .dK q k (r.mono s)))
    | dT _ => obtain ⟨_, h, k, r⟩ := h; rcases lo with z | ⟨_, _, z⟩ | ⟨z, _⟩ <;> first | exact absurd z no | (rw [h] at z; first | (cases z; done) | (cases z; exact .dT q k (r.mono s)))
    | obj _ _ => obtain ⟨_, _, h, k, r⟩ := h; rcases lo with z | ⟨_, _, z⟩ | ⟨z, _⟩ <;> first | exact absurd z no | (rw [h] at z; first | (cases z; done) | (cases z; exact .obj q k (r.mono s)))
    | _ => exact h.elim
theorem CelR.marks {nm : Nm} {F F2 H H2 : Hp} {st : List D} (C : CelR nm F H st) (C2 : CelR nm F2 H2 st) (s : Sub F F2) {a : Addr} (h : Mrk F2 a) : Mrk F a := by
  obtain ⟨n, h⟩ := h
  obtain ⟨b, hb, _⟩ := C.at_ n _ (List.getElem?_eq_getElem (C2.lt a n h))
  rw [C2.inj a b n h (s _ _ hb)]
  exact ⟨n, hb⟩
section
variable {c : Sx} {σ : St} {F H F1 H1 : Hp} {env env1 : Env}
theorem slot_shares (is : List Nat) : ∀ {env : Env} {j : Nat}, j ∉ is → slot (shares env is) j = slot env j := by
  induction is with
  | nil => intro env j _; rfl
  | cons i is ih =>
    intro env j h
    rw [List.mem_cons, not_or] at h
    show slot (shares (share env i) is) j = _
    rw [ih h.2, slot_share, if_neg (fun e => h.1 e.symm)]
theorem shares_len (is : List Nat) : ∀ {env : Env}, (shares env is).length = env.length := by
  induction is with
  | nil => intro env; rfl
  | cons i is ih => intro env; show (shares (share env i) is).length = _; rw [ih, share_len]
/-- operands, all of them given to all but those that are handed over to be changed -/
theorem ops_share : ∀ (bs : List Bool) (os : List Opd) (vs : List V) {H0 F H : Hp} {env : Env}, EnvR c.nm F H σ env → Paired (rO c.nm σ H0 F H env) os vs →
    ∃ F2, EnvR c.nm F2 H σ (shares env (noSlots bs os)) ∧ Sub F F2 ∧ (∀ b, F2 b ≠ none → F b ≠ none ∨ Ow σ env b ∨ H0 b = none) ∧ (∀ a, Ow σ (shares env (noSlots bs os)) a → Ow σ env a) ∧
      ∀ ds, rawsO os env = some ds → ∀ (k : Nat) v d, bs[k]?.getD false = false → vs[k]? = some v → ds[k]? = some d → Rep c.nm F2 v d
  | bs, [], _, H0, F, H, env, E, p => by
    cases p
    refine ⟨F, ?_, Sub.refl _, fun b hb => .inl hb, ?_, fun ds hd k v d _ hv => by simp at hv⟩
    · cases bs with
      | nil => exact E
      | cons b bs => cases b <;> exact E
    · cases bs with
      | nil => exact fun a h => h
      | cons b bs => cases b <;> exact fun a h => h
  | bs, o :: os, _, H0, F, H, env, E, p => by
    cases p with
    | @cons _ v _ vs r p =>
      -- the rest's flags
      have key : ∀ (bs' : List Bool) (fl : Bool), (bs[0]?.getD false = fl) → (∀ k, bs[k + 1]?.getD false = bs'[k]?.getD false) → (noSlots bs (o :: os) = (if fl = true then noSlots bs' os else match o with | .rd i => i :: noSlots bs' os | .tmp _ => noSlots bs' os)) →
          ∃ F2, EnvR c.nm F2 H σ (shares env (noSlots bs (o :: os))) ∧ Sub F F2 ∧ (∀ b, F2 b ≠ none → F b ≠ none ∨ Ow σ env b ∨ H0 b = none) ∧ (∀ a, Ow σ (shares env (noSlots bs (o :: os))) a → Ow σ env a) ∧
            ∀ ds, rawsO (o :: os) env = some ds → ∀ (k : Nat) u d, bs[k]?.getD false = false → (v :: vs)[k]? = some u → ds[k]? = some d → Rep c.nm F2 u d := fun bs' fl h0 hs hn => by
        cases fl with
        | true =>
          rw [hn, if_pos rfl]
          obtain ⟨F2, E2, s2, n2, ow2, rep2⟩ := ops_share bs' os vs E p
          refine ⟨F2, E2, s2, n2, ow2, fun ds hd k u d hb hv hd' => ?_⟩
          · cases k with
            | zero => rw [h0] at hb; cases hb
            | succ k =>
              unfold rawsO at hd
              cases e1 : o.raw env with
              | none => rw [e1] at hd; cases hd
              | some d0 =>
                rw [e1] at hd
                cases e2 : rawsO os env with
                | none => rw [e2] at hd; cases hd
                | some ds' =>
                  rw [e2] at hd; cases hd
                  exact rep2 ds' e2 k u d (by rw [← hs]; exact hb) (by simpa using hv) (by simpa using hd')
        | false =>
          cases o with
          | rd i =>
            rw [hn]
            show ∃ F2, EnvR c.nm F2 H σ (shares (share env i) (noSlots bs' os)) ∧ _
            obtain ⟨F1, E1, S1, nw1⟩ := E.share' i
            obtain ⟨F2, E2, s2, n2, ow2, rep2⟩ := ops_share bs' os vs E1 (rOs.step p E S1)
            refine ⟨F2, E2, S1.sub.trans s2, fun b hb => ?_, fun a h => ow_share (ow2 a h), fun ds hd k u d hb hv hd' => ?_⟩
            · rcases n2 b hb with z | z | z
              · exact (nw1 b z).imp id .inl
              · exact .inr (.inl (ow_share z))
              · exact .inr (.inr z)
            · have gd : ∀ os : List Opd, rawsO os (share env i) = rawsO os env := fun os => by
                induction os with
                | nil => rfl
                | cons o os ih =>
                  unfold rawsO
                  rw [ih]
                  have : o.raw (share env i) = o.raw env := by
                    cases o with
                    | tmp x => rfl
                    | rd j =>
                      show (slot (share env i) j).map _ = _
                      rw [slot_share]
                      by_cases e : i = j
                      · subst e; rw [if_pos rfl]; show ((slot env i).map _).map _ = (slot env i).map _; cases slot env i <;> rfl
                      · rw [if_neg e]; rfl
                  rw [this]
              unfold rawsO at hd
              cases e1 : (Opd.rd i).raw env with
              | none => rw [e1] at hd; cases hd
              | some d0 =>
                rw [e1] at hd
                cases e2 : rawsO os env with
                | none => rw [e2] at hd; cases hd
                | some ds' =>
                  rw [e2] at hd; cases hd
                  cases k with
                  | zero =>
                    simp at hv hd'
                    subst hv hd'
                    have e1 : (slot env i).map (·.d) = some d0 := e1
                    cases q : slot env i with
                    | none => rw [q] at e1; cases e1
                    | some x =>
                      rw [q] at e1; cases e1
                      obtain ⟨w, hw, rw'⟩ := E1.val i ⟨x.d, false⟩ (by rw [slot_share, if_pos rfl, q]; rfl)
                      have r : σ[i]? = some (some v) := r
                      rw [r] at hw; cases hw
                      exact Rep.mono s2 rw'
                  | succ k => exact rep2 ds' (by rw [gd]; exact e2) k u d (by rw [← hs]; exact hb) (by simpa using hv) (by simpa using hd')
          | tmp x =>
            rw [hn]
            show ∃ F2, EnvR c.nm F2 H σ (shares env (noSlots bs' os)) ∧ _
            -- the other operands stand by F1, unless one is this very thing
            obtain ⟨F2, E2, s2, n2, ow2, rep2⟩ := ops_share bs' os vs E p
            -- join both
            by_cases ho : x.own = true
            · have hv : ValR c.nm F H v x := r.1
              unfold ValR at hv
              rw [if_pos ho] at hv
              obtain ⟨a, rfl, fa, hat⟩ := hv
              have na : ¬ Ow σ env a := (r.2 ho a rfl).2
              by_cases f2 : F2 a = none
              · have own2 : Own c.nm F2 H (.ref a) x.d := ⟨a, rfl, f2, hat.mono s2 rfl⟩
                obtain ⟨F3, E3, rep3, sb3, _, nw3⟩ := E2.shareV (x := x) (v := .ref a) (by unfold ValR; rw [if_pos ho]; exact own2) fun _ p e z => by cases e; exact na (ow2 a z)
                refine ⟨F3, E3, s2.trans sb3, fun b hb => ?_, ow2, fun ds hd k u d hb hv hd' => ?_⟩
                · rcases nw3 b hb with z | ⟨_, z⟩
                  · exact n2 b z
                  · exact .inr (.inr (r.2 ho b z).1)
                · unfold rawsO at hd
                  cases e2 : rawsO os env with
                  | none => rw [e2] at hd; cases hd
                  | some ds' =>
                    rw [e2] at hd; cases hd
                    cases k with
                    | zero => simp at hv hd'; subst hv hd'; exact rep3
                    | succ k => exact (rep2 ds' e2 k u d (by rw [← hs]; exact hb) (by simpa using hv) (by simpa using hd')).mono sb3
              · refine ⟨F2, E2, s2, n2, ow2, fun ds hd k u d hb hv hd' => ?_⟩
                · unfold rawsO at hd
                  cases e2 : rawsO os env with
                  | none => rw [e2] at hd; cases hd
                  | some ds' =>
                    rw [e2] at hd; cases hd
                    cases k with
                    | zero => simp at hv hd'; subst hv hd'; exact hat.rep s2 E2.le f2 (fun z => let ⟨_, q⟩ := CelR.marks E.cel ((shares_st (noSlots bs' os) (env := env)) ▸ E2.cel) s2 z; nomatch (fa.symm.trans q))
                    | succ k => exact rep2 ds' e2 k u d (by rw [← hs]; exact hb) (by simpa using hv) (by simpa using hd')
            · have hv0 : Rep c.nm F v x.d := by have := r.1; unfold ValR at this; rw [if_neg ho] at this; exact this
              refine ⟨F2, E2, s2, n2, ow2, fun ds hd k u d hb hv hd' => ?_⟩
              · unfold rawsO at hd
                cases e2 : rawsO os env with
                | none => rw [e2] at hd; cases hd
                | some ds' =>
                  rw [e2] at hd; cases hd
                  cases k with
                  | zero => simp at hv hd'; subst hv hd'; exact hv0.mono s2
                  | succ k => exact rep2 ds' e2 k u d (by rw [← hs]; exact hb) (by simpa using hv) (by simpa using hd')
      cases bs with
      | nil => exact key [] false rfl (fun k => by simp) (by cases o <;> rfl)
      | cons b bs => cases b with
        | true => exact key bs true rfl (fun k => by simp) rfl
        | false => exact key bs false rfl (fun k => by simp) (by cases o <;> rfl)
theorem argR_of {nm : Nm} : ∀ (bs : List Bool) (vs : List V) (ds : List D), vs.length = ds.length → (∀ (k : Nat) v d, vs[k]? = some v → ds[k]? = some d → ValR nm F H v ⟨d, bs[k]?.getD false⟩) → ArgR nm F H bs vs ds
  | [], [], [], _, _ => trivial
  | _ :: _, [], [], _, _ => trivial
  | [], v :: vs, d :: ds, hl, h => ⟨h 0 v d rfl rfl, argR_of [] vs ds (by simpa using hl) fun k v d h1 h2 => by simpa using h (k + 1) v d (by simpa using h1) (by simpa using h2)⟩
  | b :: bs, v :: vs, d :: ds, hl, h => ⟨h 0 v d rfl rfl, argR_of bs vs ds (by simpa using hl) fun k v d h1 h2 => by simpa using h (k + 1) v d (by simpa using h1) (by simpa using h2)⟩
  | [], [], _ :: _, hl, _ => by cases hl
  | [], _ :: _, [], hl, _ => by cases hl
  | _ :: _, [], _ :: _, hl, _ => by cases hl
  | _ :: _, _ :: _, [], hl, _ => by cases hl
theorem rawsO_len : ∀ {os : List Opd} {ds : List D}, rawsO os env = some ds → os.length = ds.length
  | [], _, h => by cases h; rfl
  | o :: os, ds, h => by
    unfold rawsO at h
    cases e : o.raw env with
    | none => rw [e] at h; cases h
    | some d =>
      rw [e] at h
      cases e2 : rawsO os env with
      | none => rw [e2] at h; cases h
      | some r => rw [e2] at h; cases h; simp [rawsO_len e2]
/-- an operand that is handed over: its slot -/
theorem io_at : ∀ {bs : List Bool} {os : List Opd} {vs : List V} {ds : List D} {H0 : Hp}, ioOk bs os env = true → Paired (rO c.nm σ H0 F H env) os vs → rawsO os env = some ds →
    ∀ (k : Nat) v d, bs[k]?.getD false = true → vs[k]? = some v → ds[k]? = some d → ∃ i x, i ∈ ioSlots bs os ∧ slot env i = some x ∧ x.own = true ∧ x.d = d ∧ σ[i]? = some (some v)
  | [], os, vs, ds, _, _, _, _, k, v, d, hb, _, _ => by simp at hb
  | b :: bs, [], vs, ds, _, ok, p, g, k, v, d, hb, hv, hd => by cases p; simp at hv
  | b :: bs, o :: os, vs, ds, _, ok, p, g, k, v, d, hb, hv, hd => by
    cases p with
    | @cons _ u _ us r p =>
      unfold rawsO at g
      cases e : o.raw env with
      | none => rw [e] at g; cases g
      | some d0 =>
        rw [e] at g
        cases e2 : rawsO os env with
        | none => rw [e2] at g; cases g
        | some ds' =>
          rw [e2] at g; cases g
          cases b with
          | true =>
            cases o with
            | tmp x => cases ok
            | rd i =>
              have ok : ((match slot env i with | some v => v.own | none => false) && ioOk bs os env) = true := ok
              rw [Bool.and_eq_true] at ok
              cases k with
              | zero =>
                simp at hv hd
                subst hv hd
                have e : (slot env i).map (·.d) = some d0 := e
                cases q : slot env i with
                | none => rw [q] at e; cases e
                | some x =>
                  rw [q] at e; cases e
                  have o1 := ok.1
                  rw [q] at o1
                  exact ⟨i, x, List.mem_cons_self, q, o1, rfl, r⟩
              | succ k =>
                obtain ⟨j, x, h1, h2⟩ := io_at ok.2 p e2 k v d (by simpa using hb) (by simpa using hv) (by simpa using hd)
                exact ⟨j, x, List.mem_cons_of_mem _ h1, h2⟩
          | false =>
            have ok : ioOk bs os env = true := by cases o <;> exact ok
            cases k with
            | zero => simp at hb
            | succ k =>
              obtain ⟨j, x, h1, h2⟩ := io_at ok p e2 k v d (by simpa using hb) (by simpa using hv) (by simpa using hd)
              exact ⟨j, x, by cases o <;> exact h1, h2⟩
theorem io_slots : ∀ {bs : List Bool} {os : List Opd} {vs : List V} {H0 : Hp}, ioOk bs os env = true → Paired (rO c.nm σ H0 F H env) os vs →
    Paired (fun i v => σ[i]? = some (some v) ∧ ∃ x, slot env i = some x ∧ x.own = true) (ioSlots bs os) (ioVs bs vs)
  | [], os, vs, _, ok, p => by cases p <;> exact .nil
  | b :: bs, [], vs, _, ok, p => by cases p; cases b <;> exact .nil
  | b :: bs, o :: os, vs, _, ok, p => by
    cases p with
    | @cons _ u _ us r p =>
      cases b with
      | true =>
        cases o with
        | tmp x => cases ok
        | rd i =>
          have ok : ((match slot env i with | some v => v.own | none => false) && ioOk bs os env) = true := ok
          rw [Bool.and_eq_true] at ok
          refine .cons ⟨r, ?_⟩ (io_slots ok.2 p)
          cases q : slot env i with
          | none => rw [q] at ok; cases ok.1
          | some x => rw [q] at ok; exact ⟨x, rfl, ok.1⟩
      | false =>
        have ok : ioOk bs os env = true := by cases o <;> exact ok
        have t := io_slots ok p
        cases o <;> exact t
theorem paired_mem {α β : Type} {P : α → β → Prop} {xs : List α} {ys : List β} (h : Paired P xs ys) {y : β} (e : y ∈ ys) : ∃ x ∈ xs, P x y := by
  induction h with
  | nil => cases e
  | cons h _ ih =>
    rcases List.mem_cons.mp e with rfl | e
    · exact ⟨_, List.mem_cons_self, h⟩
    · obtain ⟨x, h1, h2⟩ := ih e; exact ⟨x, List.mem_cons_of_mem _ h1, h2⟩
theorem own_ref {nm : Nm} {i : Nat} {v : V} (E : EnvR nm F H σ env) (h : σ[i]? = some (some v) ∧ ∃ x, slot env i = some x ∧ x.own = true) : ∃ a, v = .ref a ∧ Ow σ env a := by
  obtain ⟨hv, x, hx, ho⟩ := h
  obtain ⟨w, hw, r⟩ := E.val i x hx
  rw [hv] at hw; cases hw
  unfold ValR at r
  rw [if_pos ho] at r
  obtain ⟨a, rfl, _, _⟩ := r
  exact ⟨a, rfl, i, x, hx, ho, hv⟩
theorem io_nodup {nm : Nm} (E : EnvR nm F H σ env) {is : List Nat} {vs : List V} (h : Paired (fun i v => σ[i]? = some (some v) ∧ ∃ x, slot env i = some x ∧ x.own = true) is vs) (nd : is.Nodup) : vs.Nodup := by
  induction h with
  | nil => exact List.nodup_nil
  | @cons i v is vs h t ih =>
    rw [List.nodup_cons] at nd ⊢
    refine ⟨fun hm => ?_, ih nd.2⟩
    obtain ⟨j, hj, h2⟩ := paired_mem t hm
    obtain ⟨a, rfl, _⟩ := own_ref E h
    obtain ⟨hv, x, hx, ho⟩ := h
    obtain ⟨hv2, y, hy, hoy⟩ := h2
    have := E.sep i j x y a hx hy ho hoy hv hv2
    subst this
    exact nd.1 hj
theorem ioS_ow {nm : Nm} (E : EnvR nm F H σ env) {bs : List Bool} {os : List Opd} {vs : List V} (h : Paired (fun i v => σ[i]? = some (some v) ∧ ∃ x, slot env i = some x ∧ x.own = true) (ioSlots bs os) (ioVs bs vs)) {a : Addr} (ha : ioS bs vs a) :
    ∃ i ∈ ioSlots bs os, σ[i]? = some (some (.ref a)) ∧ ∃ x, slot env i = some x ∧ x.own = true := by
  obtain ⟨i, hi, h2⟩ := paired_mem h ha
  exact ⟨i, hi, h2⟩
theorem putsO_len : ∀ (is : List Nat) (ds : List D) {env : Env}, (putsO env is ds).length = env.length
  | [], _, _ => rfl
  | _ :: _, [], _ => rfl
  | i :: is, d :: ds, env => by show (putsO (env.set i _) is ds).length = _; rw [putsO_len is ds, set_len]
theorem slot_putsO_out : ∀ (is : List Nat) (ds : List D) {env : Env} {j : Nat}, j ∉ is → slot (putsO env is ds) j = slot env j
  | [], _, _, _, _ => rfl
  | _ :: _, [], _, _, _ => rfl
  | i :: is, d :: ds, env, j, h => by
    rw [List.mem_cons, not_or] at h
    show slot (putsO (env.set i _) is ds) j = _
    rw [slot_putsO_out is ds h.2, slot_set, if_neg fun e => h.1 e.1.symm]
theorem slot_putsO_in {nm : Nm} {F' H' : Hp} : ∀ (is : List Nat) (ds : List D) (vs : List V) {env : Env} {j : Nat}, is.Nodup → (∀ i ∈ is, i < env.length) → Paired (fun i v => σ[i]? = some (some v)) is vs → Paired (Own nm F' H') vs ds → j ∈ is →
    ∃ d v, slot (putsO env is ds) j = some ⟨d, true⟩ ∧ σ[j]? = some (some v) ∧ Own nm F' H' v d ∧ v ∈ vs
  | [], _, _, _, _, _, _, _, _, h => by cases h
  | i :: is, ds, vs, env, j, nd, lt, p, q, h => by
    cases p with
    | @cons _ v _ vs p1 p2 =>
      cases q with
      | @cons _ d _ ds q1 q2 =>
        rw [List.nodup_cons] at nd
        by_cases hj : j ∈ is
        · obtain ⟨d', v', h1, h2, h3, h4⟩ := slot_putsO_in is ds vs (env := env.set i (some ⟨d, true⟩)) nd.2 (fun k hk => by rw [set_len]; exact lt k (List.mem_cons_of_mem _ hk)) p2 q2 hj
          exact ⟨d', v', h1, h2, h3, List.mem_cons_of_mem _ h4⟩
        · have e : j = i := (List.mem_cons.mp h).elim id fun z => absurd z hj
          subst e
          refine ⟨d, v, ?_, p1, q1, List.mem_cons_self⟩
          show slot (putsO (env.set j (some ⟨d, true⟩)) is ds) j = _
          rw [slot_putsO_out is ds hj, slot_set, if_pos ⟨rfl, lt j List.mem_cons_self⟩]
theorem putsO_st : ∀ (is : List Nat) (ds : List D) {env : Env}, (putsO env is ds).st = env.st
  | [], _, _ => rfl
  | _ :: _, [], _ => rfl
  | i :: is, d :: ds, env => by show (putsO (env.set i _) is ds).st = _; rw [putsO_st is ds]; rfl
theorem killO_len : ∀ (is : List Nat) {env : Env}, (killO env is).length = env.length
  | [], _ => rfl
  | i :: is, env => by show (killO (env.set i none) is).length = _; rw [killO_len is, set_len]
theorem slot_killO : ∀ (is : List Nat) {env : Env} {j : Nat} {x : Val}, slot (killO env is) j = some x → j ∉ is ∧ slot env j = some x
  | [], _, _, _, h => ⟨by simp, h⟩
  | i :: is, env, j, x, h => by
    have h : slot (killO (env.set i none) is) j = some x := h
    obtain ⟨h1, h2⟩ := slot_killO is h
    rw [slot_set] at h2
    split at h2
    · cases h2
    · rename_i hn
      refine ⟨fun hm => ?_, h2⟩
      rcases List.mem_cons.mp hm with e | e
      · exact hn ⟨e.symm, by rw [← e]; exact slot_lt h2⟩
      · exact h1 e
theorem flat_any {nm : Nm} {F F' : Hp} {v : V} {d : D} (r : Rep nm F' v d) (f : flatD d = true) : Rep nm F v d := by
  cases r with
  | non => exact .non
  | bl => exact .bl
  | int => exact .int
  | str => exact .str
  | _ => exact absurd f Bool.false_ne_true
theorem plain_at {nm : Nm} {F' : Hp} {a : Addr} {d : D} (h : plainD d = true) (r : At nm F' H a d) : At nm F H a d := by
  have fl : ∀ (vs : List V) (ds : List D), ds.all flatD = true → RepL nm F' vs ds → RepL nm F vs ds := by
    intro vs ds
    induction ds generalizing vs with
    | nil => intro _ r; cases r; exact .nil
    | cons d ds ih =>
      intro hd r
      cases r with
      | cons r1 r2 =>
        rw [List.all_cons, Bool.and_eq_true] at hd
        exact .cons (flat_any r1 hd.1) (ih _ hd.2 r2)
  cases d with
  | lst ds => obtain ⟨vs, h1, h2⟩ := r; exact ⟨vs, h1, fl _ _ h h2⟩
  | obj cl fs =>
    obtain ⟨dx, fvs, h1, h2, h3⟩ := r
    refine ⟨dx, fvs, h1, h2, fl _ _ ?_ h3⟩
    rw [List.all_map]
    exact h
  | dK _ => cases h
  | dT _ => cases h
  | _ => exact r.elim
/-- THE CALL: operands that stand for data, the callee's promise -/
theorem call_core {j nps : Nat} {os : List Opd} {vs : List V} {Q : VK} (E1 : EnvR c.nm F1 H1 σ env1) (S1 : Step (Ow σ env) F H (Ow σ env1) F1 H1) (p : Paired (rO c.nm σ H F1 H1 env1) os vs) (hl : vs.length = nps)
    (h : Res c σ F H env (rlV c.nm σ) (callO c.Φ j os env1) Q) : spD c.nm c.Φ nps j vs H1 Q (fun cls dd H' => c.W cls dd σ H') := by
  unfold callO at h
  simp only at h
  split at h
  · rename_i hc
    obtain ⟨ok, nd, dis⟩ := hc
    cases hg : rawsO os env1 with
    | none => rw [hg] at h; exact h.elim
    | some ds =>
      rw [hg] at h
      simp only at h
      obtain ⟨F2, E2, sb, nw, ow2, rep2⟩ := ops_share (c.Φ.io j) os vs E1 p
      have sl := io_slots ok p
      have slE : Paired (fun i v => σ[i]? = some (some v)) (ioSlots (c.Φ.io j) os) (ioVs (c.Φ.io j) vs) := Paired.mapP sl fun _ _ z => z.1
      have S12 : Step (Ow σ env) F H (Ow σ (shares env1 (noSlots (c.Φ.io j) os))) F2 H1 :=
        S1.more sb nw ow2
      have io2 : ∀ i ∈ ioSlots (c.Φ.io j) os, slot (shares env1 (noSlots (c.Φ.io j) os)) i = slot env1 i := fun i hi => slot_shares _ (dis i hi)
      have sl2 : Paired (fun i v => σ[i]? = some (some v) ∧ ∃ x, slot (shares env1 (noSlots (c.Φ.io j) os)) i = some x ∧ x.own = true) (ioSlots (c.Φ.io j) os) (ioVs (c.Φ.io j) vs) := by
        have : ∀ (is : List Nat) (us : List V), (∀ i ∈ is, i ∈ ioSlots (c.Φ.io j) os) → Paired (fun i v => σ[i]? = some (some v) ∧ ∃ x, slot env1 i = some x ∧ x.own = true) is us → Paired (fun i v => σ[i]? = some (some v) ∧ ∃ x, slot (shares env1 (noSlots (c.Φ.io j) os)) i = some x ∧ x.own = true) is us := by
          intro is us hs q
          induction q with
          | nil => exact .nil
          | cons q _ ih =>
            obtain ⟨q1, x, q2, q3⟩ := q
            exact .cons ⟨q1, x, by rw [io2 _ (hs _ List.mem_cons_self)]; exact q2, q3⟩ (ih fun i hi => hs i (List.mem_cons_of_mem _ hi))
        exact this _ _ (fun i hi => hi) sl
      refine ⟨F2, env1.st, ds, hl, E2.le, (shares_st (noSlots (c.Φ.io j) os) (env := env1)) ▸ E2.cel, E2.base, argR_of _ _ _ ?_ fun k v d hv hd => ?_, io_nodup E1 sl nd, ?_⟩
      · have e1 := Paired.length p
        have e2 := rawsO_len hg
        omega
      · cases hb : (c.Φ.io j)[k]?.getD false with
        | false => exact rep2 ds hg k v d hb hv hd
        | true =>
          obtain ⟨i, x, i1, i2, i3, i4, i5⟩ := io_at ok p hg k v d hb hv hd
          obtain ⟨w, hw, r⟩ := E2.val i x (by rw [io2 i i1]; exact i2)
          rw [i5] at hw; cases hw
          unfold ValR at r
          rw [if_pos i3, i4] at r
          exact r
      · -- an io address is an own one
        have ioow : ∀ a, ioS (c.Φ.io j) vs a → Ow σ (shares env1 (noSlots (c.Φ.io j) os)) a := fun a ha => by
          obtain ⟨i, _, h1, x, h2, h3⟩ := ioS_ow E2 sl2 ha
          exact ⟨i, x, h2, h3, h1⟩
        cases hcall : c.Φ.call j env1.st ds with
        | stuck => rw [hcall] at h; exact h.elim
        | exc x st' =>
          rw [hcall] at h
          simp only at h ⊢
          intro F' H' cls dd l' C' S' r'
          have S2 : Step (Ow σ (shares env1 (noSlots (c.Φ.io j) os))) F2 H1 (Ow σ (killO (shares env1 (noSlots (c.Φ.io j) os)) (ioSlots (c.Φ.io j) os))) F' H' :=
            ⟨S'.sub, fun b hb => (S'.new b hb).imp id (.imp id (ioow b)), fun b o hb nb nm => S'.keep b o hb (fun z => nb (ioow b z)) nm, fun b ⟨i, y, hy, z⟩ => .inl ⟨i, y, (slot_killO _ hy).2, z⟩, S'.there, fun b hb => (S'.mrk b hb).imp id (.imp id (ioow b))⟩
          refine h F' H' cls dd ⟨by show _ = (killO _ _).length; rw [killO_len]; exact E2.len, l', fun i y hy => ?_, fun i k y z a hy hz => E2.sep i k y z a (slot_killO _ hy).2 (slot_killO _ hz).2, C', E2.base.trans S'.sub⟩ (S12.trans S2) r'
          obtain ⟨n1, n2⟩ := slot_killO _ hy
          obtain ⟨v, hv, r⟩ := E2.val i y n2
          refine ⟨v, hv, r.step S' fun oy a e ha => ?_⟩
          subst e
          obtain ⟨k, hk, h1, z, h2, h3⟩ := ioS_ow E2 sl2 ha
          have := E2.sep i k y z a n2 h2 oy h3 hv h1
          subst this
          exact n1 hk
        | ok x outs st' =>
          rw [hcall] at h
          simp only at h ⊢
          split at h
          · rename_i hlen
            intro F' H' w l' C' S' rw' fr outR
            have lt1 : ∀ i ∈ ioSlots (c.Φ.io j) os, i < env1.length := fun i hi => by
              have : ∀ (is : List Nat) (us : List V), Paired (fun i v => σ[i]? = some (some v) ∧ ∃ x, slot env1 i = some x ∧ x.own = true) is us → ∀ i ∈ is, i < env1.length := by
                intro is us q
                induction q with
                | nil => intro i hi; cases hi
                | cons q _ ih =>
                  intro i hi
                  rcases List.mem_cons.mp hi with e | e
                  · obtain ⟨_, x, q2, _⟩ := q; rw [e]; exact slot_lt q2
                  · exact ih i e
              exact this _ _ sl i hi
            have nio : ∀ i y v a, slot (shares env1 (noSlots (c.Φ.io j) os)) i = some y → y.own = true → σ[i]? = some (some v) → i ∉ ioSlots (c.Φ.io j) os → v = .ref a → ¬ ioS (c.Φ.io j) vs a := fun i y v a hy oy hv hi e ha => by
              subst e
              obtain ⟨k, hk, h1, z, h2, h3⟩ := ioS_ow E2 sl2 ha
              have := E2.sep i k y z a hy h2 oy h3 hv h1
              subst this
              exact hi hk
            split at h
            · -- a flat answer: nothing was given away
              rename_i hf
              obtain ⟨f1, f2, f3, rfl⟩ := hf
              have nomk' : ∀ a, ¬ Mrk F' a := fun a ⟨k, z⟩ => absurd (C'.lt a k z) (Nat.not_lt_zero _)
              have nomk2 : ∀ a, ¬ Mrk F2 a := fun a z => nomk' a (z.mono S'.sub)
              have nomk1 : ∀ a, ¬ Mrk F1 a := fun a z => nomk2 a (z.mono sb)
              have st0 : env1.st = [] := by
                cases hst : env1.st with
                | nil => rfl
                | cons d0 r0 =>
                  obtain ⟨a, ha, _⟩ := E1.cel.at_ 0 d0 (by rw [hst]; rfl)
                  exact absurd ⟨0, ha⟩ (nomk1 a)
              have nio1 : ∀ i y v a, slot env1 i = some y → y.own = true → σ[i]? = some (some v) → i ∉ ioSlots (c.Φ.io j) os → v = .ref a → ¬ ioS (c.Φ.io j) vs a := fun i y v a hy oy hv hi e ha => by
                subst e
                obtain ⟨k, hk, h1, z, h2, h3⟩ := ioS_ow E1 sl ha
                have := E1.sep i k y z a hy h2 oy h3 hv h1
                subst this
                exact hi hk
              have ow1 : ∀ a, ioS (c.Φ.io j) vs a → Ow σ env1 a := fun a ha => by
                obtain ⟨i, _, h1, x, h2, h3⟩ := ioS_ow E1 sl ha
                exact ⟨i, x, h2, h3, h1⟩
              have lsl : ∀ i y, slot (putsO env1 (ioSlots (c.Φ.io j) os) outs) i = some y → (i ∉ ioSlots (c.Φ.io j) os ∧ slot env1 i = some y) ∨ (i ∈ ioSlots (c.Φ.io j) os ∧ ∃ d v, y = ⟨d, true⟩ ∧ σ[i]? = some (some v) ∧ Own c.nm F' H' v d ∧ d ∈ outs) := fun i y hy => by
                by_cases hi : i ∈ ioSlots (c.Φ.io j) os
                · obtain ⟨d, v, q1, q2, q3, q4⟩ := slot_putsO_in _ outs _ nd lt1 slE outR hi
                  rw [q1] at hy; cases hy
                  refine .inr ⟨hi, d, v, rfl, q2, q3, ?_⟩
                  have : ∀ (is : List Nat) (ds : List D) (e : Env) (k : Nat) (d : D), is.Nodup → (∀ i ∈ is, i < e.length) → is.length = ds.length → k ∈ is → slot (putsO e is ds) k = some ⟨d, true⟩ → d ∈ ds := by
                    intro is
                    induction is with
                    | nil => intro ds e k d _ _ _ hk; cases hk
                    | cons i is ih =>
                      intro ds e k d nd lt hl hk hs
                      cases ds with
                      | nil => cases hl
                      | cons d0 ds =>
                        rw [List.nodup_cons] at nd
                        by_cases hki : k ∈ is
                        · exact List.mem_cons_of_mem _ (ih ds (e.set i (some ⟨d0, true⟩)) k d nd.2 (fun a ha => by rw [set_len]; exact lt a (List.mem_cons_of_mem _ ha)) (by simpa using hl) hki hs)
                        · have e1 : k = i := (List.mem_cons.mp hk).elim id fun z => absurd z hki
                          subst e1
                          have hs : slot (putsO (e.set k (some ⟨d0, true⟩)) is ds) k = some ⟨d, true⟩ := hs
                          rw [slot_putsO_out is ds hki, slot_set, if_pos ⟨rfl, lt k List.mem_cons_self⟩] at hs
                          cases hs
                          exact List.mem_cons_self
                  exact this _ outs env1 i d nd lt1 hlen.symm hi q1
                · rw [slot_putsO_out _ _ hi] at hy
                  exact .inl ⟨hi, hy⟩
              have le1 : Le F1 H' := fun a o ha => l' a o (S'.sub a o (sb a o ha))
              have fn1 : ∀ a, Ow σ env1 a → F1 a = none := fun a ⟨i, y, hy, oy, hv⟩ => by
                obtain ⟨v, hv', r⟩ := E1.val i y hy
                rw [hv] at hv'; cases hv'
                unfold ValR at r
                rw [if_pos oy] at r
                obtain ⟨b, e, fb, _⟩ := r
                cases e
                exact fb
              have E' : EnvR c.nm F1 H' σ (putsO env1 (ioSlots (c.Φ.io j) os) outs) := by
                refine ⟨by rw [putsO_len]; exact E1.len, le1, fun i y hy => ?_, fun i k y z a hy hz oy oz h1 h2 => ?_, by rw [putsO_st, st0]; exact ⟨fun n d h => by simp at h, fun a n h => absurd ⟨n, h⟩ (nomk1 a), fun a b n h => absurd ⟨n, h⟩ (nomk1 a)⟩, E1.base⟩
                · rcases lsl i y hy with ⟨hi, hy⟩ | ⟨hi, d, v, rfl, q2, q3, q4⟩
                  · obtain ⟨v, hv, r⟩ := E1.val i y hy
                    refine ⟨v, hv, ?_⟩
                    unfold ValR at r ⊢
                    split
                    · rename_i oy
                      rw [if_pos oy] at r
                      obtain ⟨a, rfl, fa, q⟩ := r
                      obtain ⟨o, qo⟩ := q.some
                      exact ⟨a, rfl, fa, q.mono (Sub.refl _) (by rw [qo]; exact S'.keep a o qo (nio1 i y _ a hy oy hv hi rfl) (nomk2 a))⟩
                    · rename_i oy; rw [if_neg oy] at r; exact r
                  · refine ⟨v, q2, ?_⟩
                    obtain ⟨a, rfl, fa, q⟩ := q3
                    have oa : Ow σ env1 a := ow1 a (by
                      obtain ⟨d', v', w1, w2, w3, w4⟩ := slot_putsO_in _ outs _ nd lt1 slE outR hi
                      rw [q2] at w2; cases w2
                      exact w4)
                    exact ⟨a, rfl, fn1 a oa, plain_at (List.all_eq_true.mp f3 d q4) q⟩
                · have back : ∀ i y, slot (putsO env1 (ioSlots (c.Φ.io j) os) outs) i = some y → y.own = true → ∃ y', slot env1 i = some y' ∧ y'.own = true := fun i y hy oy => by
                    rcases lsl i y hy with ⟨_, hy⟩ | ⟨hi, d, v, rfl, q2, q3, q4⟩
                    · exact ⟨y, hy, oy⟩
                    · have : ∀ (is : List Nat) (us : List V), Paired (fun i v => σ[i]? = some (some v) ∧ ∃ x, slot env1 i = some x ∧ x.own = true) is us → ∀ i ∈ is, ∃ x, slot env1 i = some x ∧ x.own = true := by
                        intro is us q
                        induction q with
                        | nil => intro i hi; cases hi
                        | cons q _ ih =>
                          intro i hi
                          rcases List.mem_cons.mp hi with e | e
                          · rw [e]; exact q.2
                          · exact ih i e
                      exact this _ _ sl i hi
                  obtain ⟨y', b1, b2⟩ := back i y hy oy
                  obtain ⟨z', b3, b4⟩ := back k z hz oz
                  exact E1.sep i k y' z' a b1 b3 b2 b4 h1 h2
              have owb : ∀ a, Ow σ (putsO env1 (ioSlots (c.Φ.io j) os) outs) a → Ow σ env1 a := fun a ⟨i, y, hy, oy, hv⟩ => by
                rcases lsl i y hy with ⟨_, hy⟩ | ⟨hi, d, v, rfl, q2, q3, q4⟩
                · exact ⟨i, y, hy, oy, hv⟩
                · refine ow1 a ?_
                  obtain ⟨d', v', w1, w2, w3, w4⟩ := slot_putsO_in _ outs _ nd lt1 slE outR hi
                  rw [hv] at w2; cases w2
                  exact w4
              have S3 : Step (Ow σ env1) F1 H1 (Ow σ (putsO env1 (ioSlots (c.Φ.io j) os) outs)) F1 H' :=
                ⟨Sub.refl _, fun a h => .inl h, fun a o ha na _ => S'.keep a o ha (fun z => na (ow1 a z)) (nomk2 a), fun a ha => .inl (owb a ha), S'.there, fun a h => .inl h⟩
              refine h F1 H' w E' (S1.trans S3) ⟨?_, fun o => by rw [f1] at o; cases o⟩
              have : DataR c.nm F' H' w x.d := rw'.data
              have e : x = ⟨x.d, false⟩ := by cases x; simp only at f1; rw [f1]
              rw [e]
              exact flat_any (flat_rep this f2).2 f2
            · have ltS : ∀ i ∈ ioSlots (c.Φ.io j) os, i < (shares env1 (noSlots (c.Φ.io j) os)).length := fun i hi => by rw [shares_len]; exact lt1 i hi
              have lsl : ∀ i y, slot (putsO (shares env1 (noSlots (c.Φ.io j) os)) (ioSlots (c.Φ.io j) os) outs) i = some y → (i ∉ ioSlots (c.Φ.io j) os ∧ slot (shares env1 (noSlots (c.Φ.io j) os)) i = some y) ∨ (i ∈ ioSlots (c.Φ.io j) os ∧ ∃ d v, y = ⟨d, true⟩ ∧ σ[i]? = some (some v) ∧ Own c.nm F' H' v d ∧ v ∈ ioVs (c.Φ.io j) vs) := fun i y hy => by
                by_cases hi : i ∈ ioSlots (c.Φ.io j) os
                · obtain ⟨d, v, q1, q2, q3, q4⟩ := slot_putsO_in _ outs _ nd ltS slE outR hi
                  rw [q1] at hy; cases hy
                  exact .inr ⟨hi, d, v, rfl, q2, q3, q4⟩
                · rw [slot_putsO_out _ _ hi] at hy
                  exact .inl ⟨hi, hy⟩
              have owb : ∀ a, Ow σ (putsO (shares env1 (noSlots (c.Φ.io j) os)) (ioSlots (c.Φ.io j) os) outs) a → Ow σ (shares env1 (noSlots (c.Φ.io j) os)) a := fun a ⟨i, y, hy, oy, hv⟩ => by
                rcases lsl i y hy with ⟨_, hy⟩ | ⟨hi, d, v, rfl, q2, q3, q4⟩
                · exact ⟨i, y, hy, oy, hv⟩
                · rw [hv] at q2; cases q2
                  exact ioow a q4
              have E' : EnvR c.nm F' H' σ ((putsO (shares env1 (noSlots (c.Φ.io j) os)) (ioSlots (c.Φ.io j) os) outs).withSt st') := by
                refine ⟨by show _ = (putsO _ _ _).length; rw [putsO_len]; exact E2.len, l', fun i y hy => ?_, fun i k y z a hy hz oy oz h1 h2 => ?_, C', E2.base.trans S'.sub⟩
                · rcases lsl i y hy with ⟨hi, hy⟩ | ⟨hi, d, v, rfl, q2, q3, q4⟩
                  · obtain ⟨v, hv, r⟩ := E2.val i y hy
                    exact ⟨v, hv, r.step S' fun oy a e => nio i y v a hy oy hv hi e⟩
                  · exact ⟨v, q2, q3⟩
                · have back : ∀ i y, slot (putsO (shares env1 (noSlots (c.Φ.io j) os)) (ioSlots (c.Φ.io j) os) outs) i = some y → y.own = true → ∃ y', slot (shares env1 (noSlots (c.Φ.io j) os)) i = some y' ∧ y'.own = true := fun i y hy oy => by
                    rcases lsl i y hy with ⟨_, hy⟩ | ⟨hi, d, v, rfl, q2, q3, q4⟩
                    · exact ⟨y, hy, oy⟩
                    · have : ∀ (is : List Nat) (us : List V), Paired (fun i v => σ[i]? = some (some v) ∧ ∃ x, slot (shares env1 (noSlots (c.Φ.io j) os)) i = some x ∧ x.own = true) is us → ∀ i ∈ is, ∃ x, slot (shares env1 (noSlots (c.Φ.io j) os)) i = some x ∧ x.own = true := by
                        intro is us q
                        induction q with
                        | nil => intro i hi; cases hi
                        | cons q _ ih =>
                          intro i hi
                          rcases List.mem_cons.mp hi with e | e
                          · rw [e]; exact q.2
                          · exact ih i e
                      exact this _ _ sl2 i hi
                  obtain ⟨y', b1, b2⟩ := back i y hy oy
                  obtain ⟨z', b3, b4⟩ := back k z hz oz
                  exact E2.sep i k y' z' a b1 b3 b2 b4 h1 h2
              have S3 : Step (Ow σ (shares env1 (noSlots (c.Φ.io j) os))) F2 H1 (Ow σ (putsO (shares env1 (noSlots (c.Φ.io j) os)) (ioSlots (c.Φ.io j) os) outs)) F' H' :=
                ⟨S'.sub, fun b hb => (S'.new b hb).imp id (.imp id (ioow b)), fun b o hb nb nm => S'.keep b o hb (fun z => nb (ioow b z)) nm, fun a ha => .inl (owb a ha), S'.there, fun b hb => (S'.mrk b hb).imp id (.imp id (ioow b))⟩
              refine h F' H' w E' (S12.trans S3) ⟨rw', fun o p e => ⟨S1.there p (fr o p e), fun z => ?_⟩⟩
              exact E2.ow_some (owb p z) (fr o p e)
          · exact h.elim
  · exact h.elim
end
end MT
namespace MT
open PySem PySem.Spec PyProof.Rows L2
section
variable {X : Cx} {c : Sx} {e a b : Expr} {es : List Expr} {ia ib ic : IE} {as : IEs} {pos : Pos} {σ : St} {F H F1 H1 : Hp} {env env1 : Env} {α β γ δ : Type}
def biN : BI → Str
  | .len => "len"
  | .sorted => "sorted"
  | .list => "list"
  | .dict => "dict"
  | .max2 => "max"
  | .min2 => "min"
  | .sum => "sum"
  | .any => "any"
  | .all => "all"
theorem biN_boot (b : BI) : bootBuiltins (biN b) = some (biV b) := by cases b <;> decide +kernel
theorem biN_name (b : BI) : biN b ≠ "__name__" := by cases b <;> decide +kernel
theorem biN_debug (b : BI) : (biN b == ("__debug__" : Str)) = false := by cases b <;> decide +kernel
theorem ops_data {H0 : Hp} (E : EnvR c.nm F H σ env) : ∀ {os : List Opd} {vs : List V} {ds : List D}, Paired (rO c.nm σ H0 F H env) os vs → getsO os env = some ds → Paired (DataR c.nm F H) vs ds
  | [], _, ds, p, h => by cases p; cases h; exact .nil
  | o :: os, _, ds, p, h => by
    cases p with
    | cons r p =>
      unfold getsO at h
      cases e : o.get env with
      | none => rw [e] at h; cases h
      | some d =>
        rw [e] at h
        cases e2 : getsO os env with
        | none => rw [e2] at h; cases h
        | some r2 => rw [e2] at h; cases h; exact .cons (r.data E e) (ops_data E p e2)
theorem s_bi (bb : BI) {p : Pos} (hK : X.K = c.nm.K) (hc : X.calm = true) (hg : Gl X (biN bb)) (hm : X.mg (biN bb) = none) (ha : PA X (e :: es) (tOs c as)) (he : starEach (e :: es) X.env = (false, eval e X.env) :: starEach es X.env)
    (hpl : (backTo pos (starEach es X.env)).any (·.1) = false) : PE X (.Call (.Name (biN bb) p) (e :: es) [] pos) (tE c (.bi bb as)) := by
  have key : PE X (.Call (.Name (biN bb) p) (e :: es) [] pos) (tCB (rBi c.nm bb) (tOs c as)) := by
    have hv := biN_boot bb
    cases hb : biV bb with
    | builtin id => rw [hb] at hv; exact pe_callB (by have := bi_call (nm := c.nm) hK hc bb; rw [hb] at this; exact this) hg hm hv ha (biN_name bb) (biN_debug bb) he hpl
    | type T => rw [hb] at hv; exact pe_callTy (by have := bi_call (nm := c.nm) hK hc bb; rw [hb] at this; exact this) hg hm hv ha (biN_name bb) (biN_debug bb) he hpl
    | _ => cases bb <;> cases hb
  refine key.imp fun σ H Q ⟨F, env, E, q⟩ => ?_
  refine ⟨F, env, E, Res_bind q fun os vs F1 H1 env1 E1 S1 r1 h1 => ?_⟩
  obtain ⟨z, hz, h1⟩ := opt_ok h1
  cases hg' : getsO os env1 with
  | none => rw [hg'] at hz; cases hz
  | some ds =>
    rw [hg'] at hz
    exact ⟨F1, ds, z, E1.le, ops_data E1 r1 hg', hz, Res.fin E1 (Res.shift h1 S1)⟩
def tyN : Ty → String
  | .str => "str"
  | .int => "int"
  | .bool => "bool"
  | .list => "list"
  | .tuple => "tuple"
  | .dict => "dict"
  | .cls _ => ""
/-- what isinstance leans on -/
structure ClsK (K : PySem.W.Frag) (nm : Nm) (Φ : CT) : Prop where
  isa : ∀ c c' b, Φ.isa c c' = some b → PySem.W.kitOne K (.ref (nm.ca c)) (.ref (nm.ca c')) = some b
  own : ∀ c b, Φ.isa c c = some b → Cls K (nm.ca c) ∧ PySem.W.findIn K (.ref (nm.ca c)) "__class__" = some (some (.builtin "object.__class__")) ∧ PySem.W.mroIn K (nm.ca c) (.type "object") = some true ∧ ∀ t, noCls t = true → PySem.W.kitOne K (.ref (nm.ca c)) (.type (tyN t)) = some false
  get : (∃ c b, Φ.isa c c = some b) → PySem.W.specialIn K (.builtin "object.__class__") "__get__" = some (some (.builtin "getset_descriptor.__get__")) ∧ PySem.W.takesIn K (.builtin "object.__class__") = some true
/-- the class at c', asked of a thing of a built-in sort -/
def BiNo (K : PySem.W.Frag) (nm : Nm) (c' : Nat) : Prop := ∀ n ∈ (["NoneType", "bool", "int", "str", "list", "tuple", "dict"] : List String), PySem.W.kitOne K (.type n) (.ref (nm.ca c')) = some false
def tyV (nm : Nm) : Ty → V
  | .cls c => .ref (nm.ca c)
  | t => .ty (tyN t)
def tyU (nm : Nm) : Ty → Value
  | .cls c => .ref (nm.ca c)
  | t => .type (tyN t)
theorem tyC (nm : Nm) (t : Ty) : ClsV (tyV nm t) (tyU nm t) := by cases t <;> first | exact .ty _ | exact .own _
theorem isi_b {K : PySem.W.Frag} {nm : Nm} {Φ : CT} {v : V} {d : D} {ts : List Ty} (l : Le F H) (CK : ClsK K nm Φ) (hb : ∀ c', .cls c' ∈ ts → BiNo K nm c') (r : DataR nm F H v d) {b0 : Bool} (h0 : isiD Φ d ts = some b0) :
    ts = [] ∨ ∃ tv, TyX K H v tv ∧ ∀ t ∈ ts, ∀ b, isTy Φ d t = some b → PySem.W.kitOne K tv (tyU nm t) = some b := by
  cases ts with
  | nil => exact .inl rfl
  | cons t0 ts =>
  refine .inr ?_
  have bu : ∀ (n : String), n ∈ (["NoneType", "bool", "int", "str", "list", "tuple", "dict"] : List String) → ∀ t ∈ t0 :: ts, ∀ c', t = .cls c' → PySem.W.kitOne K (.type n) (tyU nm t) = some false := fun n hn t ht c' e => by
    subst e; exact hb c' ht n hn
  cases d with
  | non => cases r.non; exact ⟨_, .base .non, fun t ht b e => by cases t <;> first | (rw [← e]; exact bu _ (by simp) _ ht _ rfl) | (rw [← e]; with_unfolding_all rfl)⟩
  | bl b => cases r.bl; exact ⟨_, .base (.bl _), fun t ht b e => by cases t <;> first | (rw [← e]; exact bu _ (by simp) _ ht _ rfl) | (rw [← e]; with_unfolding_all rfl)⟩
  | int b => cases r.int; exact ⟨_, .base (.int _), fun t ht b e => by cases t <;> first | (rw [← e]; exact bu _ (by simp) _ ht _ rfl) | (rw [← e]; with_unfolding_all rfl)⟩
  | str b => cases r.str; exact ⟨_, .base (.str _), fun t ht b e => by cases t <;> first | (rw [← e]; exact bu _ (by simp) _ ht _ rfl) | (rw [← e]; with_unfolding_all rfl)⟩
  | lst ds => obtain ⟨a, vs, rfl, h, _⟩ := r.lst l; exact ⟨_, .base (.lst h), fun t ht b e => by cases t <;> first | (rw [← e]; exact bu _ (by simp) _ ht _ rfl) | (rw [← e]; with_unfolding_all rfl)⟩
  | tup ds => obtain ⟨a, vs, rfl, _, h, _⟩ := r.tup l; exact ⟨_, .base (.tup h), fun t ht b e => by cases t <;> first | (rw [← e]; exact bu _ (by simp) _ ht _ rfl) | (rw [← e]; with_unfolding_all rfl)⟩
  | dK ds =>
    obtain ⟨a, vs, rfl, h, _⟩ := r.dK l
    refine ⟨.type "dict", ?_, fun t ht b e => by cases t <;> first | (rw [← e]; exact bu _ (by simp) _ ht _ rfl) | (rw [← e]; with_unfolding_all rfl)⟩
    rcases h with h | ⟨o, h⟩
    · exact .base (.dK h)
    · exact .fDict h
  | obj cl fs =>
    obtain ⟨a, dx, fvs, rfl, h, _, _⟩ := r.obj l
    have t1 : ∃ b, Φ.isa cl cl = some b := by
      cases e : Φ.isa cl cl with
      | some b => exact ⟨b, rfl⟩
      | none => unfold isiD isTy at h0; cases t0 <;> (simp only [e] at h0; cases h0)
    obtain ⟨b1, e1⟩ := t1
    obtain ⟨k1, k2, k6, k3⟩ := CK.own cl b1 e1
    obtain ⟨k4, k5⟩ := CK.get ⟨cl, b1, e1⟩
    refine ⟨_, .base (.ins h k1 k2 k4 k5 k6), fun t ht b e => ?_⟩
    unfold isTy at e
    cases t with
    | cls c' => simp only [e1] at e; exact CK.isa cl c' b e
    | _ => simp only [e1] at e; cases e; exact k3 _ rfl
  | _ => unfold isiD isTy at h0; cases h0
theorem ty_boot (t : Ty) (h : noCls t = true) : bootBuiltins (tyN t : String) = some (.type (tyN t)) := by cases t <;> first | (cases h; done) | decide +kernel
/-- a sort as an expression -/
structure TyE (X : Cx) (nm : Nm) (t : Ty) (x : Str) : Prop where
  pe : ∀ p, PE X (.Name x p) (tC (tyV nm t))
theorem tyE_b {t : Ty} (ht : noCls t = true) (hg : Gl X (tyN t : String)) (hm : X.mg (tyN t : String) = none) : TyE X c.nm t (tyN t : String) := by
  have hn : (tyN t : Str) ≠ "__name__" := by cases t <;> first | (cases ht; done) | decide +kernel
  have hdb : ((tyN t : Str) == ("__debug__" : Str)) = false := by cases t <;> first | (cases ht; done) | decide +kernel
  refine ⟨fun p => ?_⟩
  have e : tyV c.nm t = .ty (tyN t) := by cases t <;> first | (cases ht; done) | rfl
  rw [e]
  exact pe_bltn (v := .ty (tyN t)) hg hm (ty_boot t ht) rfl hn hdb
theorem s_isi {t : Ty} {x : Str} {p pt : Pos} (hg : Gl X "isinstance") (hm : X.mg "isinstance" = none) (hK : X.K = c.nm.K) (CK : ClsK c.nm.K c.nm c.Φ) (hb : ∀ c', t = .cls c' → BiNo c.nm.K c.nm c') (hT : TyE X c.nm t x) (ha : PE X a (tO c ia))
    (he : starEach [a, .Name x pt] X.env = (false, eval a X.env) :: starEach [.Name x pt] X.env) (he2 : starEach [.Name x pt] X.env = (false, eval (.Name x pt) X.env) :: starEach [] X.env)
    (hpl : (backTo pos (starEach [.Name x pt] X.env)).any (·.1) = false) : PE X (.Call (.Name "isinstance" p) [a, .Name x pt] [] pos) (tE c (.isi ia [t])) := by
  refine (pe_callB call_isi hg hm (by decide +kernel) (pa_cons ha (pa_cons (hT.pe pt) pa_nil he2) he) (by decide) (by decide) he hpl).imp fun σ H Q ⟨F, env, E, q⟩ => ?_
  refine ⟨F, env, E, Res_bind q fun x v F1 H1 env1 E1 S1 r1 h1 => ?_⟩
  obtain ⟨z, hz, h1⟩ := opt_ok h1
  cases e : x.get env1 with
  | none => rw [e] at hz; cases hz
  | some d =>
    rw [e] at hz
    cases hi : isiD c.Φ d [t] with
    | none => simp only [Option.bind_some, hi] at hz; cases hz
    | some b =>
      simp only [Option.bind_some, hi] at hz
      cases hz
      rcases isi_b E1.le CK (fun c' hc => hb c' (List.mem_singleton.mp hc).symm) (rO.data r1 E1 e) hi with z | ⟨tv, ty, kit⟩
      · cases z
      · have hb1 : isTy c.Φ d t = some b := by
          unfold isiD at hi
          cases e2 : isTy c.Φ d t with
          | none => rw [e2] at hi; cases hi
          | some b2 => rw [e2] at hi; cases b2 <;> (cases hi; rfl)
        exact ⟨v, tyV c.nm t, tv, tyU c.nm t, b, rfl, tyC _ _, by rw [hK]; exact ty, by rw [hK]; exact kit t List.mem_cons_self b hb1, h1 F1 H1 (.bl b) E1 S1 ⟨.bl, fun z => nomatch z⟩⟩
def _root_.MT.IEs.len : IEs → Nat
  | .nil => 0
  | .cons _ es => es.len + 1
theorem evo_len {Φ : CT} {io : List Nat} : ∀ (as : IEs) {e e' : Env} {os : List Opd}, evo Φ io as e = .ok os e' → os.length = as.len
  | .nil, _, _, _, h => by unfold evo at h; cases h; rfl
  | .cons a as, e, e', os, h => by
    unfold evo at h
    cases h1 : mkO a (ev Φ io a) e with
    | ok x e1 =>
      rw [h1] at h
      have h : (evo Φ io as e1).bind (fun os e => R.ok (x :: os) e) = R.ok os e' := h
      cases h2 : evo Φ io as e1 with
      | ok os2 e2 => rw [h2] at h; cases h; simp [evo_len as h2, IEs.len]
      | exc _ _ => rw [h2] at h; cases h
      | stuck => rw [h2] at h; cases h
    | exc _ _ => rw [h1] at h; cases h
    | stuck => rw [h1] at h; cases h
theorem Res_bindE {r : R α} {g : α → Env → R γ} {rlA : Rl α β} {rlC : Rl γ δ} {Q : δ → Hp → Prop} {Q1 : β → Hp → Prop} (h : Res c σ F H env rlC (r.bind g) Q)
    (k : ∀ a b F1 H1 env1, r = .ok a env1 → EnvR c.nm F1 H1 σ env1 → Step (Ow σ env) F H (Ow σ env1) F1 H1 → rlA.r H a b F1 H1 env1 → Res c σ F H env rlC (g a env1) Q → Q1 b H1) : Res c σ F H env rlA r Q1 := by
  cases r with
  | ok a env1 => exact fun F1 H1 b E1 S1 r1 => k a b F1 H1 env1 rfl E1 S1 r1 h
  | exc x env1 => exact h
  | stuck => exact h
theorem s_call {j k nps : Nat} {fd : FuncData} {f : Addr} {ps : List Str} {x : Str} {p : Pos} (F : FnOk X.prog X.w X.K X.mg X.base (L2.CX X.prog X.w) k f fd ps (spD c.nm c.Φ nps j)) (hr : Room k X.A) (hg : Gl X x) (hm : X.mg x = some (.ref f)) (hk : PySem.W.keepIn X.K (.ref f) = true) (hb : Binds X.K fd ps [])
    (tk : Takes X c.W) (hn : as.len = nps) (ha : PA X (e :: es) (tOs c as)) (hl : (x == ("__debug__" : Str)) = false) (he : starEach (e :: es) X.env = (false, eval e X.env) :: starEach es X.env) (hpl : (backTo pos (starEach es X.env)).any (·.1) = false) :
    PE X (.Call (.Name x p) (e :: es) [] pos) (tE c (.call j as)) := by
  refine (pe_callS F hr hg hm hk hb (passAt tk) ha hl he hpl).imp fun σ H Q ⟨F, env, E, q⟩ => ?_
  refine ⟨F, env, E, Res_bindE q fun os vs F1 H1 env1 eq E1 S1 r1 h1 => ?_⟩
  exact call_core E1 S1 r1 (by rw [← hn, ← evo_len as eq]; exact (Paired.length r1).symm) h1
theorem EnvR.mutate {nm : Nm} {i : Nat} {p : Addr} {d d' : D} {o : HO} (E : EnvR nm F H σ env) (hs : slot env i = some ⟨d, true⟩) (hv : σ[i]? = some (some (.ref p))) (ha : At nm F (upd H p o) p d') :
    EnvR nm F (upd H p o) σ (env.set i (some ⟨d', true⟩)) ∧ Step (Ow σ env) F H (Ow σ (env.set i (some ⟨d', true⟩))) F (upd H p o) := by
  have ow : Ow σ env p := ⟨i, _, hs, rfl, hv⟩
  have fp : F p = none := by
    obtain ⟨v, hv2, r⟩ := E.val i _ hs
    rw [hv] at hv2; cases hv2
    obtain ⟨b, e, fb, _⟩ := r.ownR
    cases e; exact fb
  have lt := slot_lt hs
  refine ⟨⟨by rw [set_len]; exact E.len, fun b u hb => ?_, fun j y hy => ?_, fun j k y z b hy hz oy oz h1 h2 => ?_, E.cel.at_free fp, E.base⟩, ⟨Sub.refl _, fun b hb => .inl hb, fun b u hb nb _ => ?_, fun b hb => .inl ?_, fun b hb => ?_, fun b hb => .inl hb⟩⟩
  · rw [upd_ne (ne_of_none hb fp)]; exact E.le b u hb
  · rw [slot_set] at hy
    by_cases hij : i = j
    · subst hij
      rw [if_pos ⟨rfl, lt⟩] at hy
      cases hy
      exact ⟨_, hv, ValR.of_own ⟨p, rfl, fp, ha⟩⟩
    · rw [if_neg fun z => hij z.1] at hy
      obtain ⟨w, hw, r⟩ := E.val j y hy
      refine ⟨w, hw, ?_⟩
      unfold ValR at r ⊢
      split
      · rename_i oy
        rw [if_pos oy] at r
        obtain ⟨b, rfl, fb, q⟩ := r
        have ne : b ≠ p := fun z => by
          subst z
          exact hij (E.sep i j _ y b hs hy rfl oy hv hw)
        exact ⟨b, rfl, fb, q.mono (Sub.refl _) (upd_ne ne)⟩
      · rename_i oy
        rw [if_neg oy] at r
        exact r
  · have key : ∀ j y, slot (env.set i (some ⟨d', true⟩)) j = some y → y.own = true → ∃ y', slot env j = some y' ∧ y'.own = true := fun j y hy oy => by
      rw [slot_set] at hy
      by_cases hij : i = j
      · subst hij; exact ⟨_, hs, rfl⟩
      · rw [if_neg fun z => hij z.1] at hy
        exact ⟨y, hy, oy⟩
    obtain ⟨y', a1, a2⟩ := key j y hy oy
    obtain ⟨z', b1, b2⟩ := key k z hz oz
    exact E.sep j k y' z' b a1 b1 a2 b2 h1 h2
  · rw [upd_ne fun z => nb (by subst z; exact ow)]; exact hb
  · obtain ⟨j, y, hy, oy, hj⟩ := hb
    rw [slot_set] at hy
    by_cases hij : i = j
    · subst hij; exact ⟨_, _, hs, rfl, hj⟩
    · rw [if_neg fun z => hij z.1] at hy
      exact ⟨j, y, hy, oy, hj⟩
  · by_cases hbp : b = p
    · subst hbp; rw [upd_same] at hb; cases hb
    · rw [upd_ne hbp] at hb; exact hb
/-- its thing, as it lies -/
theorem EnvR.own_at {nm : Nm} {i : Nat} {x : Val} (E : EnvR nm F H σ env) (hs : slot env i = some x) (ho : x.own = true) : ∃ p, σ[i]? = some (some (.ref p)) ∧ F p = none ∧ At nm F H p x.d ∧ Ow σ env p := by
  obtain ⟨v, hv, r⟩ := E.val i x hs
  unfold ValR at r
  rw [if_pos ho] at r
  obtain ⟨p, rfl, fp, a⟩ := r
  exact ⟨p, hv, fp, a, i, x, hs, ho, hv⟩
end
end MT
namespace MT
open PySem PySem.Spec PyProof.Rows L2
open PySem.Sem (wp)
/-- which sort: true a tuple -/
def SqH (b : Bool) (h : Heap) (l : Addr) (xs : Array Value) : Prop := match b with
  | true => h.IsTuple l xs
  | false => h.IsList l xs
def ItH (b : Bool) (h : Heap) (it l : Addr) (k : Nat) : Prop := match b with
  | true => h.IsTupleIter it l k
  | false => h.IsListIter it l k
def itN (b : Bool) : String := if b then "tuple_iterator" else "list_iterator"
section
variable {b : Bool} {h h' : Heap} {it l q : Addr} {k : Nat} {xs : Array Value}
theorem SqH.out (x : SqH b h l xs) (e : Heap.ExtBut q h h') (n : l ≠ q) : SqH b h' l xs := by
  cases b
  · exact Heap.IsList.extBut x e n
  · exact Heap.IsTuple.extBut x e n
theorem ItH.out (x : ItH b h it l k) (e : Heap.ExtBut q h h') (n : it ≠ q) : ItH b h' it l k := by
  cases b
  · exact Heap.IsListIter.extBut x e n
  · exact Heap.IsTupleIter.extBut x e n
theorem ItH.here (x : ItH b h it l k) (e : ∀ o, h.get? it = some o → h'.get? it = some o) : ItH b h' it l k := by
  cases b
  · exact Heap.IsListIter.at x e
  · exact Heap.IsTupleIter.at x e
theorem ItH.obj (x : ItH b h it l k) : ∃ o, h.get? it = some o ∧ o.data = .fields #[.ref l, .int k 0] := by
  cases b
  · obtain ⟨o, e1, _, e2⟩ := x; exact ⟨o, e1, e2⟩
  · obtain ⟨o, e1, _, e2⟩ := x; exact ⟨o, e1, e2⟩
theorem SqH.lt (x : SqH b h l xs) : l < h.objs.size := by
  cases b
  · obtain ⟨o, e, _⟩ := x; exact Heap.lt_size e
  · obtain ⟨o, e, _⟩ := x; exact Heap.lt_size e
end
section
variable {prog : Program} {w : World} {A : Around} {E : Value → Shared → Prop} {s : Shared} {b c : Bool}
theorem next_some {it l : Addr} {k : Nat} {xs : Array Value} {x : Value} {Q : Value → Shared → Prop} (hi : ItH b s.heap it l k) (hl : SqH b s.heap l xs) (hx : xs[k]? = some x)
    (go : ∀ h', ItH b h' it l (k + 1) → Heap.SameBut it s.heap h' → Q x { s with heap := h' }) : wpAny (model prog w) A (Builtin.SmallTypes.nextOf (.ref it)) Q E s := by
  cases b
  · exact wpAny_nextOf_list_item hi hl hx go
  · exact RZ.nextOf_tuple_item hi hl hx go
theorem next_none {it l : Addr} {k : Nat} {xs : Array Value} {Q : Value → Shared → Prop} (hh : A.handled = none) (hi : ItH b s.heap it l k) (hl : SqH b s.heap l xs) (hx : xs[k]? = none)
    (go : ∀ h' e, Heap.ExtBut it s.heap h' → (∃ o, h'.get? e = some o ∧ o.cls = .type "StopIteration") → E (.ref e) { s with heap := h' }) : wpAny (model prog w) A (Builtin.SmallTypes.nextOf (.ref it)) Q E s := by
  cases b
  · exact wpAny_nextOf_list_end hh hi hl hx go
  · exact RZ.nextOf_tuple_end hh hi hl hx go
/-- a pair handed out -/
theorem zipX_some {z TI TO i j l m : Addr} {k n : Nat} {xs ys : Array Value} {x y u v : Value} {Q : Value → Shared → Prop} (D : ZipApart z TI TO i j l m) (hz : IsZip s.heap z TI TO .none) (hTI : IsPair s.heap TI (.ref i) (.ref j)) (hTO : IsPair s.heap TO u v)
    (hi : ItH b s.heap i l k) (hj : ItH c s.heap j m n) (hl : SqH b s.heap l xs) (hm : SqH c s.heap m ys) (hx : xs[k]? = some x) (hy : ys[n]? = some y)
    (go : ∀ h', IsZip h' z TI TO (rawInt s.heap.objs.size) → IsPair h' TO x y → ItH b h' i l (k + 1) → ItH c h' j m (n + 1) → IsPair h' s.heap.objs.size x y → h'.objs.size = s.heap.objs.size + 1 →
      (∀ a o, a ≠ z → a ≠ TO → a ≠ i → a ≠ j → s.heap.get? a = some o → h'.get? a = some o) → Q (.ref s.heap.objs.size) { s with heap := h' }) :
    wpAny (model prog w) A (Builtin.«zip.__next__» ⟨[.ref z], []⟩) (fun fin s' => ∃ v, fin = .done (.ret v) ∧ Q v s') E s := by
  show wpAny _ _ (field (.ref z) 2 >>= _) _ _ _; refine wpAny_bind (wpAny_field hz rfl (x := .bool false) rfl ?_)
  show wpAny _ _ (field (.ref z) 3 >>= _) _ _ _; refine wpAny_bind (wpAny_field hz rfl (x := .ref TI) rfl ?_)
  refine wpAny_bind (wpAny_seqItems hTI rfl ?_); show wpAny _ _ (Builtin.SmallTypes.ownedTupleIsFree (.ref z) >>= _) _ _ _
  refine wpAny_bind ?_; unfold Builtin.SmallTypes.ownedTupleIsFree; refine wpAny_bind (wpAny_field hz rfl (x := .none) rfl (wpAny_pure ?_))
  simp only [if_true]; refine wpAny_bind (wpAny_rule ?_); refine wpAny_bind (wpAny_field hz rfl (x := .ref TO) rfl ?_)
  refine wpAny_bind (wpAny_setField_rec hz (by simp) fun ha za sa => ?_)
  replace za : IsZip ha z TI TO .ellipsis := za
  refine wpAny_bind ?_; simp only [List.zipIdx_cons, List.zipIdx_nil, List.forIn_cons, List.forIn_nil]
  refine wpAny_bind (wpAny_bind (wpAny_onRaise ?_)); show wpAny _ _ (Builtin.SmallTypes.nextOf (.ref i) >>= _) _ _ _
  refine wpAny_bind (next_some (hi.out sa.extBut D.i1z) (hl.out sa.extBut D.l1z) hx fun hb ib sb => wpAny_pure ?_)
  have tb : IsPair hb TO u v := sb.extBut _ _ D.TOi1 (sa.extBut _ _ D.TOz hTO)
  refine wpAny_bind (wpAny_seqItems tb rfl ?_); refine wpAny_bind (wpAny_updateSeq_pair tb fun hc tc sc => ?_)
  replace tc : IsPair hc TO x v := tc
  refine wpAny_bind (wpAny_letGo (wpAny_pure ?_)); refine wpAny_bind (wpAny_bind (wpAny_onRaise ?_))
  show wpAny _ _ (Builtin.SmallTypes.nextOf (.ref j) >>= _) _ _ _
  have jc := ((hj.out sa.extBut D.i2z).out sb.extBut D.i12.symm).out sc.extBut D.TOi2.symm
  have mc := ((hm.out sa.extBut D.l2z).out sb.extBut D.l2i1).out sc.extBut D.l2TO
  refine wpAny_bind (next_some jc mc hy fun hd jd sd => wpAny_pure ?_)
  have td : IsPair hd TO x v := sd.extBut _ _ D.TOi2 tc
  refine wpAny_bind (wpAny_seqItems td rfl ?_); refine wpAny_bind (wpAny_updateSeq_pair td fun he te se => ?_)
  replace te : IsPair he TO x y := te
  refine wpAny_bind (wpAny_letGo (wpAny_pure (wpAny_pure ?_))); refine wpAny_bind (wpAny_seqItems te rfl ?_); refine wpAny_bind (wpAny_newTuple ?_)
  have hsz : he.objs.size = s.heap.objs.size := by rw [se.1, sd.1, sc.1, sb.1, sa.1]
  have ze : IsZip he z TI TO .ellipsis := se.extBut _ _ D.TOz.symm (sd.extBut _ _ D.i2z.symm (sc.extBut _ _ D.TOz.symm (sb.extBut _ _ D.i1z.symm za)))
  have ke : ∀ a o, a ≠ z → a ≠ TO → a ≠ i → a ≠ j → s.heap.get? a = some o → he.get? a = some o := fun a o n1 n2 n3 n4 q => se.extBut _ _ n2 (sd.extBut _ _ n4 (sc.extBut _ _ n2 (sb.extBut _ _ n3 (sa.extBut _ _ n1 q))))
  have ie : ItH b he i l (k + 1) := ((ib.out sc.extBut D.TOi1.symm).out sd.extBut D.i12).out se.extBut D.TOi1.symm
  have je : ItH c he j m (n + 1) := jd.out se.extBut D.TOi2.symm
  have zlt : z < he.objs.size := Heap.lt_size ze
  show wpAny _ _ (Builtin.SmallTypes.ownedTupleHandOut (.ref z) (.ref he.objs.size) >>= _) _ _ _
  refine wpAny_bind ?_; unfold Builtin.SmallTypes.ownedTupleHandOut
  have zf : IsZip (he.push { cls := .type "tuple", data := .seq #[x, y] }) z TI TO .ellipsis := Heap.get?_push_of_some _ ze
  refine wpAny_bind (wpAny_setField_rec zf (by simp) fun hg zg sg => ?_)
  replace zg : IsZip hg z TI TO (rawInt he.objs.size) := zg
  refine wpAny_setField_rec zg (by simp) fun hk zk sk => ?_
  replace zk : IsZip hk z TI TO (rawInt he.objs.size) := zk
  have up : ∀ a o, a ≠ z → he.get? a = some o → hk.get? a = some o := fun a o n1 q => sk.extBut _ _ n1 (sg.extBut _ _ n1 (Heap.get?_push_of_some _ q))
  have tk : IsPair hk he.objs.size x y := sk.extBut _ _ (Nat.ne_of_gt zlt) (sg.extBut _ _ (Nat.ne_of_gt zlt) (Heap.get?_push_size _ rfl))
  have szk : hk.objs.size = he.objs.size + 1 := by rw [sk.1, sg.1, Heap.size_push]
  rw [hsz] at zk tk szk
  refine wpAny_pure ⟨_, rfl, ?_⟩
  show Q (.ref he.objs.size) _
  rw [hsz]
  exact go hk zk (up _ _ D.TOz te) (ie.here fun o q => up _ o D.i1z q) (je.here fun o q => up _ o D.i2z q) tk szk fun a o n1 n2 n3 n4 q => up a o n1 (ke a o n1 n2 n3 n4 q)
/-- one of them is through -/
theorem zipX_none {z TI TO i j l m : Addr} {k n : Nat} {xs ys : Array Value} {u v : Value} {Q : PySem.Fin → Shared → Prop} (hh : A.handled = none) (D : ZipApart z TI TO i j l m) (hz : IsZip s.heap z TI TO .none) (hTI : IsPair s.heap TI (.ref i) (.ref j)) (hTO : IsPair s.heap TO u v)
    (hi : ItH b s.heap i l k) (hj : ItH c s.heap j m n) (hl : SqH b s.heap l xs) (hm : SqH c s.heap m ys) (stop : xs[k]? = none ∨ ys[n]? = none)
    (go : ∀ h' e, (∀ a o, a ≠ z → a ≠ TO → a ≠ i → a ≠ j → s.heap.get? a = some o → h'.get? a = some o) → (∃ o, h'.get? e = some o ∧ o.cls = .type "StopIteration") → E (.ref e) { s with heap := h' }) :
    wpAny (model prog w) A (Builtin.«zip.__next__» ⟨[.ref z], []⟩) Q E s := by
  show wpAny _ _ (field (.ref z) 2 >>= _) _ _ _; refine wpAny_bind (wpAny_field hz rfl (x := .bool false) rfl ?_)
  show wpAny _ _ (field (.ref z) 3 >>= _) _ _ _; refine wpAny_bind (wpAny_field hz rfl (x := .ref TI) rfl ?_)
  refine wpAny_bind (wpAny_seqItems hTI rfl ?_); show wpAny _ _ (Builtin.SmallTypes.ownedTupleIsFree (.ref z) >>= _) _ _ _
  refine wpAny_bind ?_; unfold Builtin.SmallTypes.ownedTupleIsFree; refine wpAny_bind (wpAny_field hz rfl (x := .none) rfl (wpAny_pure ?_))
  simp only [if_true]; refine wpAny_bind (wpAny_rule ?_); refine wpAny_bind (wpAny_field hz rfl (x := .ref TO) rfl ?_)
  refine wpAny_bind (wpAny_setField_rec hz (by simp) fun ha za sa => ?_)
  replace za : IsZip ha z TI TO .ellipsis := za
  refine wpAny_bind ?_; simp only [List.zipIdx_cons, List.zipIdx_nil, List.forIn_cons, List.forIn_nil]
  refine wpAny_bind (wpAny_bind (wpAny_onRaise ?_)); show wpAny _ _ (Builtin.SmallTypes.nextOf (.ref i) >>= _) _ _ _
  cases hx : xs[k]? with
  | none =>
    refine wpAny_bind (next_none hh (hi.out sa.extBut D.i1z) (hl.out sa.extBut D.l1z) hx fun hb e sb st => ?_)
    obtain ⟨oe, g1, g2⟩ := st
    have zb : IsZip hb z TI TO .ellipsis := sb _ _ D.i1z.symm za
    have ne : e ≠ z := fun q => by
      subst q
      rw [zb] at g1
      cases g1
      simp at g2
    refine wpAny_setField_rec zb (by simp) fun hc _ sc => go hc e (fun a o n1 _ n3 _ q => sc.extBut _ _ n1 (sb _ _ n3 (sa.extBut _ _ n1 q))) ⟨oe, sc.extBut _ _ ne g1, g2⟩
  | some x =>
    have hy : ys[n]? = none := by
      rcases stop with q | q
      · rw [hx] at q; cases q
      · exact q
    refine wpAny_bind (next_some (hi.out sa.extBut D.i1z) (hl.out sa.extBut D.l1z) hx fun hb ib sb => wpAny_pure ?_)
    have tb : IsPair hb TO u v := sb.extBut _ _ D.TOi1 (sa.extBut _ _ D.TOz hTO)
    refine wpAny_bind (wpAny_seqItems tb rfl ?_); refine wpAny_bind (wpAny_updateSeq_pair tb fun hc tc sc => ?_)
    refine wpAny_bind (wpAny_letGo (wpAny_pure ?_)); refine wpAny_bind (wpAny_bind (wpAny_onRaise ?_))
    show wpAny _ _ (Builtin.SmallTypes.nextOf (.ref j) >>= _) _ _ _
    have jc := ((hj.out sa.extBut D.i2z).out sb.extBut D.i12.symm).out sc.extBut D.TOi2.symm
    have mc := ((hm.out sa.extBut D.l2z).out sb.extBut D.l2i1).out sc.extBut D.l2TO
    refine wpAny_bind (next_none hh jc mc hy fun hd e sd st => ?_)
    obtain ⟨oe, g1, g2⟩ := st
    have zd : IsZip hd z TI TO .ellipsis := sd _ _ D.i2z.symm (sc.extBut _ _ D.TOz.symm (sb.extBut _ _ D.i1z.symm za))
    have ne : e ≠ z := fun q => by
      subst q
      rw [zd] at g1
      cases g1
      simp at g2
    refine wpAny_setField_rec zd (by simp) fun he _ se => go he e (fun a o n1 n2 n3 n4 q => se.extBut _ _ n1 (sd _ _ n4 (sc.extBut _ _ n2 (sb.extBut _ _ n3 (sa.extBut _ _ n1 q))))) ⟨oe, se.extBut _ _ ne g1, g2⟩
theorem pyNextX_some {z TI TO i j l m : Addr} {k n : Nat} {xs ys : Array Value} {x y u v : Value} {Q : Option Value → Shared → Prop} (D : ZipApart z TI TO i j l m) (hz : IsZip s.heap z TI TO .none) (hTI : IsPair s.heap TI (.ref i) (.ref j)) (hTO : IsPair s.heap TO u v)
    (hi : ItH b s.heap i l k) (hj : ItH c s.heap j m n) (hl : SqH b s.heap l xs) (hm : SqH c s.heap m ys) (hx : xs[k]? = some x) (hy : ys[n]? = some y)
    (go : ∀ h', IsZip h' z TI TO (rawInt s.heap.objs.size) → IsPair h' TO x y → ItH b h' i l (k + 1) → ItH c h' j m (n + 1) → IsPair h' s.heap.objs.size x y → h'.objs.size = s.heap.objs.size + 1 →
      (∀ a o, a ≠ z → a ≠ TO → a ≠ i → a ≠ j → s.heap.get? a = some o → h'.get? a = some o) → Q (some (.ref s.heap.objs.size)) { s with heap := h' }) : wpAny (model prog w) A (pyNext (.ref z)) Q E s := by
  have ty : s.TypeIs (.ref z) "zip" := ⟨_, hz, rfl⟩
  unfold pyNext
  refine wpAny_bind (wpAny_attempt (wpAny_callSpecial?_slot (name := Str.ofString "__next__") ty F.slot_zip_next (wpAny_call_entry F.slot_zip_next ty F.entry_zip_next (zipX_some D hz hTI hTO hi hj hl hm hx hy fun h' a1 a2 a3 a4 a5 a6 a7 => ?_) (F.args_zip_next_1 _))))
  exact wpAny_pure (go h' a1 a2 a3 a4 a5 a6 a7)
theorem pyNextX_none {z TI TO i j l m : Addr} {k n : Nat} {xs ys : Array Value} {u v : Value} {Q : Option Value → Shared → Prop} (hh : A.handled = none) (D : ZipApart z TI TO i j l m) (hz : IsZip s.heap z TI TO .none) (hTI : IsPair s.heap TI (.ref i) (.ref j)) (hTO : IsPair s.heap TO u v)
    (hi : ItH b s.heap i l k) (hj : ItH c s.heap j m n) (hl : SqH b s.heap l xs) (hm : SqH c s.heap m ys) (stop : xs[k]? = none ∨ ys[n]? = none)
    (go : ∀ h', (∀ a o, a ≠ z → a ≠ TO → a ≠ i → a ≠ j → s.heap.get? a = some o → h'.get? a = some o) → Q none { s with heap := h' }) : wpAny (model prog w) A (pyNext (.ref z)) Q E s := by
  have ty : s.TypeIs (.ref z) "zip" := ⟨_, hz, rfl⟩
  unfold pyNext
  refine wpAny_bind (wpAny_attempt (wpAny_callSpecial?_slot (name := Str.ofString "__next__") ty F.slot_zip_next (wpAny_call_entry F.slot_zip_next ty F.entry_zip_next (zipX_none hh D hz hTI hTO hi hj hl hm stop fun h' e kk st => ?_) (F.args_zip_next_1 _))))
  obtain ⟨o, g1, g2⟩ := st
  exact wpAny_bind (wpAny_isInstance (T := "StopIteration") (b := true) ⟨o, g1, g2⟩ isSubtype_stop (wpAny_pure (go _ kk)))
abbrev zx1 (b : Bool) (h : Heap) (l : Addr) : Heap := h.push { cls := .type (itN b), data := .fields #[.ref l, .int 0 0] }
abbrev zx2 (b c : Bool) (h : Heap) (l m : Addr) : Heap := zx1 c (zx1 b h l) m
abbrev zx3 (b c : Bool) (h : Heap) (l m : Addr) : Heap := (zx2 b c h l m).push { cls := .type "tuple", data := .seq #[.ref h.objs.size, .ref (zx1 b h l).objs.size] }
abbrev zx4 (b c : Bool) (h : Heap) (l m : Addr) : Heap := (zx3 b c h l m).push { cls := .type "tuple", data := .seq #[.none, .none] }
abbrev zx5 (b c : Bool) (h : Heap) (l m : Addr) : Heap := (zx4 b c h l m).push { cls := .type "zip", data := .fields #[.none, .bool false, .bool false, .ref (zx2 b c h l m).objs.size, .ref (zx3 b c h l m).objs.size] }
theorem meetsX (b c : Bool) (l m : Addr) (xs ys : Array Value) : Meets (Builtin.«zip.__new__» ⟨[.type "zip", .ref l, .ref m], []⟩) (fun _ R s => SqH b s.heap l xs ∧ SqH c s.heap m ys ∧ R (.ok (.ret (.ref (zx4 b c s.heap l m).objs.size))) { s with heap := zx5 b c s.heap l m }) :=
  .of_wp fun prog w A R s h => by
    obtain ⟨hp, g, d, tk, os⟩ := s
    obtain ⟨hl, hm, h⟩ := h
    have hsub := sub_zip
    cases b <;> cases c
    · have a1 : Heap.IsList (Shared.heap ⟨hp, g, d, tk, os⟩) l xs := hl
      have a2 : Heap.IsList (Shared.heap ⟨hp.push { cls := .type "list_iterator", data := .fields #[.ref l, .int 0 0] }, g, d, tk, os⟩) m ys := Heap.IsList.push hm _
      wp_walk using wpAny_pyIter_list a1, wpAny_pyIter_list a2
      exact ⟨_, rfl, h⟩
    · have a1 : Heap.IsList (Shared.heap ⟨hp, g, d, tk, os⟩) l xs := hl
      have a2 : Heap.IsTuple (Shared.heap ⟨hp.push { cls := .type "list_iterator", data := .fields #[.ref l, .int 0 0] }, g, d, tk, os⟩) m ys := Heap.IsTuple.push hm _
      wp_walk using wpAny_pyIter_list a1, wpAny_pyIter_tuple a2
      exact ⟨_, rfl, h⟩
    · have a1 : Heap.IsTuple (Shared.heap ⟨hp, g, d, tk, os⟩) l xs := hl
      have a2 : Heap.IsList (Shared.heap ⟨hp.push { cls := .type "tuple_iterator", data := .fields #[.ref l, .int 0 0] }, g, d, tk, os⟩) m ys := Heap.IsList.push hm _
      wp_walk using wpAny_pyIter_tuple a1, wpAny_pyIter_list a2
      exact ⟨_, rfl, h⟩
    · have a1 : Heap.IsTuple (Shared.heap ⟨hp, g, d, tk, os⟩) l xs := hl
      have a2 : Heap.IsTuple (Shared.heap ⟨hp.push { cls := .type "tuple_iterator", data := .fields #[.ref l, .int 0 0] }, g, d, tk, os⟩) m ys := Heap.IsTuple.push hm _
      wp_walk using wpAny_pyIter_tuple a1, wpAny_pyIter_tuple a2
      exact ⟨_, rfl, h⟩
theorem call_zipX {l m : Addr} {xs ys : Array Value} {Q : Value → Shared → Prop} (hl : SqH b s.heap l xs) (hm : SqH c s.heap m ys)
    (go : ∀ h', IsZip h' (s.heap.objs.size + 4) (s.heap.objs.size + 2) (s.heap.objs.size + 3) .none → IsPair h' (s.heap.objs.size + 2) (.ref s.heap.objs.size) (.ref (s.heap.objs.size + 1)) → IsPair h' (s.heap.objs.size + 3) .none .none →
      ItH b h' s.heap.objs.size l 0 → ItH c h' (s.heap.objs.size + 1) m 0 → h'.objs.size = s.heap.objs.size + 5 → (∀ a o, s.heap.get? a = some o → h'.get? a = some o) → Q (.ref (s.heap.objs.size + 4)) { s with heap := h' }) :
    wpAny (model prog w) A (call (.type "zip") [.ref l, .ref m]) Q E s := by
  refine callType_new F.called_zip (by decide) (F.typeCall_zip_2 _ _) (F.newCall_zip_2 _ _) (fun obj => F.args_object_init_3 obj _ _) F.entry_zip_new (meetsX b c l m xs ys) ⟨hl, hm, ?_⟩
  have n1 : (zx1 b s.heap l).objs.size = s.heap.objs.size + 1 := Heap.size_push ..
  have n2 : (zx2 b c s.heap l m).objs.size = s.heap.objs.size + 2 := by rw [Heap.size_push, n1]
  have n3 : (zx3 b c s.heap l m).objs.size = s.heap.objs.size + 3 := by rw [Heap.size_push, n2]
  have n4 : (zx4 b c s.heap l m).objs.size = s.heap.objs.size + 4 := by rw [Heap.size_push, n3]
  have n5 : (zx5 b c s.heap l m).objs.size = s.heap.objs.size + 5 := by rw [Heap.size_push, n4]
  have e5 : (zx5 b c s.heap l m).get? (zx4 b c s.heap l m).objs.size = some _ := Heap.get?_push_size _ rfl
  have e4 : (zx5 b c s.heap l m).get? (zx3 b c s.heap l m).objs.size = some _ := Heap.get?_push_of_some _ (Heap.get?_push_size _ rfl)
  have e3 : (zx5 b c s.heap l m).get? (zx2 b c s.heap l m).objs.size = some _ := Heap.get?_push_of_some _ (Heap.get?_push_of_some _ (Heap.get?_push_size _ rfl))
  have e2 : (zx5 b c s.heap l m).get? (zx1 b s.heap l).objs.size = some ({ cls := .type (itN c), data := .fields #[.ref m, .int 0 0] } : Obj) := Heap.get?_push_of_some _ (Heap.get?_push_of_some _ (Heap.get?_push_of_some _ (Heap.get?_push_size _ rfl)))
  have e1 : (zx5 b c s.heap l m).get? s.heap.objs.size = some ({ cls := .type (itN b), data := .fields #[.ref l, .int 0 0] } : Obj) := Heap.get?_push_of_some _ (Heap.get?_push_of_some _ (Heap.get?_push_of_some _ (Heap.get?_push_of_some _ (Heap.get?_push_size _ rfl))))
  show _ ∧ _
  rw [n2, n3, n4] at e5
  rw [n1, n2] at e3
  rw [n3] at e4
  rw [n1] at e2
  rw [n4]
  have i1 : ItH b (zx5 b c s.heap l m) s.heap.objs.size l 0 := by cases b <;> exact ⟨_, e1, rfl, rfl⟩
  have i2 : ItH c (zx5 b c s.heap l m) (s.heap.objs.size + 1) m 0 := by cases c <;> exact ⟨_, e2, rfl, rfl⟩
  exact ⟨⟨_, e5, rfl⟩, go _ e5 e3 e4 i1 i2 n5 fun a o q => Heap.get?_push_of_some _ (Heap.get?_push_of_some _ (Heap.get?_push_of_some _ (Heap.get?_push_of_some _ (Heap.get?_push_of_some _ q))))⟩
end
def SqX (b : Bool) (K : PySem.W.Frag) (H : Hp) (a : Addr) (xs : List V) : Prop := match b with
  | true => SqT K H a xs
  | false => SqL K H a xs
theorem SqX.at_ {b : Bool} {X : Cx} {pins : List (Addr × Obj)} {σ : L2.St} {H : Hp} {s : Shared} {a : Addr} {xs : List V} (I : Inv X pins σ H s) (h : SqX b X.K H a xs) : ∃ its : List Value, Vals xs its ∧ SqH b s.heap a its.toArray := by
  cases b
  · obtain ⟨its, r, p, _⟩ := I.list h; exact ⟨its, r, p.isList⟩
  · obtain ⟨its, r, p, _⟩ := I.tuple h; exact ⟨its, r, p⟩
theorem SqX.inj {b : Bool} {X : Cx} {pins : List (Addr × Obj)} {σ : L2.St} {H : Hp} {s : Shared} {a : Addr} {xs ys : List V} (I : Inv X pins σ H s) (h : SqX b X.K H a xs) (g : SqX b X.K H a ys) : xs = ys := by
  cases b
  · exact I.list_inj h g
  · exact I.tuple_inj h g
def ItzX (b c : Bool) (K : PySem.W.Frag) (a a2 : Addr) : It :=
  ⟨fun i H => ∃ (xs ys : List V) (x y : V), SqX b K H a xs ∧ SqX c K H a2 ys ∧ xs[i]? = some x ∧ ys[i]? = some y,
    fun i H v H' => ∃ T x y, v = .ref T ∧ H T = none ∧ H' = upd H T (.tup [x, y]) ∧ (∀ xs, SqX b K H a xs → xs[i]? = some x) ∧ ∀ ys, SqX c K H a2 ys → ys[i]? = some y,
    fun i H => ∃ xs ys : List V, SqX b K H a xs ∧ SqX c K H a2 ys ∧ (xs.length ≤ i ∨ ys.length ≤ i)⟩
theorem turn_zipX {b c : Bool} {P : Program} {w : World} {K : PySem.W.Frag} {elts : List Expr} {kk : Nat} {tpos : Pos} {a a2 z TI TO i1 i2 : Addr} (D : ZipApart z TI TO i1 i2 a a2) :
    Turn P w K (.Tuple elts kk tpos) (ItzX b c K a a2) [z, TI, TO, i1, i2] z (fun i h => IsZip h z TI TO .none ∧ IsPair h TI (.ref i1) (.ref i2) ∧ (∃ x y, IsPair h TO x y) ∧ ItH b h i1 a i ∧ ItH c h i2 a2 i) where
  mem := by simp
  obj := fun i h st q hq => by
    obtain ⟨hz, hTI, ⟨x, y, hTO⟩, t1, t2⟩ := st
    obtain ⟨o1, e1, d1⟩ := t1.obj
    obtain ⟨o2, e2, d2⟩ := t2.obj
    have hq : q = z ∨ q = TI ∨ q = TO ∨ q = i1 ∨ q = i2 := by simpa using hq
    rcases hq with rfl | rfl | rfl | rfl | rfl
    · exact ⟨_, hz, fun v q => nomatch q⟩
    · exact ⟨_, hTI, fun v q => nomatch q⟩
    · exact ⟨_, hTO, fun v q => nomatch q⟩
    · exact ⟨o1, e1, fun v q => by rw [d1] at q; cases q⟩
    · exact ⟨o2, e2, fun v q => by rw [d2] at q; cases q⟩
  keep := fun i h h' st k => by
    obtain ⟨hz, hTI, ⟨x, y, hTO⟩, t1, t2⟩ := st
    exact ⟨k z (by simp) _ hz, k TI (by simp) _ hTI, ⟨x, y, k TO (by simp) _ hTO⟩, t1.here fun o q => k i1 (by simp) o q, t2.here fun o q => k i2 (by simp) o q⟩
  item := by
    intro X hP hw hK hc i pins s σ H E I hf st hg
    subst hP hw hK
    obtain ⟨hz, hTI, ⟨x0, y0, hTO⟩, t1, t2⟩ := st
    obtain ⟨xs, ys, x, y, qx, qy, hx, hy⟩ := hg
    obtain ⟨us, ru, pu⟩ := SqX.at_ I qx
    obtain ⟨vs, rv, pv⟩ := SqX.at_ I qy
    obtain ⟨u, hu, relu⟩ := ru.get hx
    obtain ⟨v, hv, relv⟩ := rv.get hy
    have zlt : z < s.heap.objs.size := Heap.lt_size hz
    refine pyNextX_some D hz hTI hTO t1 t2 pu pv (x := u) (y := v) (by simpa using hu) (by simpa using hv) fun h' z' TO' t1' t2' hT hsz hk => ?_
    refine ⟨_, rfl, wpAny_letOwnedTupleGo_zip (s := { s with heap := h' }) z' fun h'' z'' sb => ?_⟩
    have hT2 : h''.get? s.heap.objs.size = some { cls := .type "tuple", data := .seq #[u, v] } := (sb.2 _ (Nat.ne_of_gt zlt)).trans hT
    have new : ObjOk X.prog X.w (upd H s.heap.objs.size (.tup [x, y])) h'' s.heap.objs.size (.tup [x, y]) := ⟨by show 2 ≤ sizeLine; decide, [u, v], .cons relu (.cons relv .nil), ⟨_, hT2, rfl, _, rfl⟩⟩
    have I1 : Inv X pins σ (upd H s.heap.objs.size (.tup [x, y])) { s with heap := h'' } :=
      I.turnedNew (t' := s.toks) (ch := [z, TI, TO, i1, i2]) (fun c o hb q => (sb.2 c (fun q' => hb (by simp [q']))).trans (hk c o (fun q' => hb (by simp [q'])) (fun q' => hb (by simp [q'])) (fun q' => hb (by simp [q'])) (fun q' => hb (by simp [q'])) q)) hf (Nat.le_refl _) new
    refine ⟨.ref s.heap.objs.size, _, I1, rfl, ⟨_, x, y, rfl, I.hok.fresh (Nat.le_refl _), rfl, fun l hl => by rw [SqX.inj I hl qx]; exact hx, fun l hl => by rw [SqX.inj I hl qy]; exact hy⟩, ⟨z'', ?_, ⟨u, v, ?_⟩, ?_, ?_⟩, fun q hq => ?_⟩
    · exact (sb.2 _ D.TIz).trans (hk _ _ D.TIz D.TITO D.TIi1 D.TIi2 hTI)
    · exact (sb.2 _ D.TOz).trans TO'
    · exact t1'.here fun o q => (sb.2 _ D.i1z).trans q
    · exact t2'.here fun o q => (sb.2 _ D.i2z).trans q
    · obtain ⟨o1, e1, _⟩ := t1.obj
      obtain ⟨o2, e2, _⟩ := t2.obj
      have hlt : q < s.heap.objs.size := by
        have hq : q = z ∨ q = TI ∨ q = TO ∨ q = i1 ∨ q = i2 := by simpa using hq
        rcases hq with rfl | rfl | rfl | rfl | rfl
        · exact zlt
        · exact Heap.lt_size hTI
        · exact Heap.lt_size hTO
        · exact Heap.lt_size e1
        · exact Heap.lt_size e2
      rw [upd_ne (Nat.ne_of_lt hlt)]
      exact (hf q hq).1
  done := by
    intro X hP hw hK hc i pins s σ H E I hf st hg
    subst hP hw hK
    obtain ⟨hz, hTI, ⟨x0, y0, hTO⟩, t1, t2⟩ := st
    obtain ⟨xs, ys, qx, qy, stop⟩ := hg
    obtain ⟨us, ru, pu⟩ := SqX.at_ I qx
    obtain ⟨vs, rv, pv⟩ := SqX.at_ I qy
    have l1 := ru.length
    have l2 := rv.length
    have hs : us.toArray[i]? = none ∨ vs.toArray[i]? = none := by
      rcases stop with q | q
      · exact .inl (by simp; omega)
      · exact .inr (by simp; omega)
    exact pyNextX_none (I.ok.hd hc) D hz hTI hTO t1 t2 pu pv hs fun h' hk => ⟨rfl, I.turnedL (t' := s.toks) (ch := [z, TI, TO, i1, i2]) (fun c o hb q => hk c o (fun q' => hb (by simp [q'])) (fun q' => hb (by simp [q'])) (fun q' => hb (by simp [q'])) (fun q' => hb (by simp [q'])) q) hf⟩
  self := fun A i s Q E st h => wpAny_pyIter_zip st.1 h
def iZipX (K : PySem.W.Frag) (ta : TA) : TI := fun σ H R => ta σ H fun vs H1 => ∃ b c a a2 xs ys, vs = [.ref a, .ref a2] ∧ SqX b K H1 a xs ∧ SqX c K H1 a2 ys ∧ R (ItzX b c K a a2) H1
theorem pi_zipX {X : Cx} {e e2 : Expr} {ta : TA} {p pos tpos : Pos} {elts : List Expr} {kk : Nat} (hg : Gl X "zip") (hm : X.mg "zip" = none) (ha : PA X [e, e2] ta) (hs : starEach [e, e2] X.env = (false, eval e X.env) :: starEach [e2] X.env) (hpl : (backTo pos (starEach [e2] X.env)).any (·.1) = false) :
    PI X (.Tuple elts kk tpos) (.Call (.Name "zip" p) [e, e2] [] pos) (iZipX X.K ta) := by
  refine ⟨fun pins s σ H R I h => ?_⟩
  refine Call_ (ld_blt I hg hm PyProof.Rows.boot_zip (PyProof.Rows.callWith_type1 (thn (ha.run pos pins s σ H _ I h) fun us s1 ⟨vs, H1, I1, r1, q1⟩ => ?_) hs hpl))
  obtain ⟨b, c, a, a2, xs, ys, ex, qx, qy, q⟩ := q1
  subst ex
  cases r1 with
  | cons r rr =>
    cases rr with
    | cons r' rr =>
      cases rr; cases r; cases r'
      obtain ⟨us, ru, pu⟩ := SqX.at_ I1 qx
      obtain ⟨vs, rv, pv⟩ := SqX.at_ I1 qy
      have fr : ∀ q, q ∈ [s1.heap.objs.size + 4, s1.heap.objs.size + 2, s1.heap.objs.size + 3, s1.heap.objs.size, s1.heap.objs.size + 1] → FpOk X pins H1 q := fun q hq => by
        have hle : s1.heap.objs.size ≤ q := by simp at hq; omega
        exact I1.fpOk hle (I1.hok.fresh hle)
      refine call_zipX pu pv fun h' hz hTI hTO t1 t2 hsz hk => wpAny_pyIter_zip hz ?_
      have I2 : Inv X pins σ H1 { s1 with heap := h' } := I1.kept (t' := s1.toks) hk
      exact ⟨s1.heap.objs.size + 4, [s1.heap.objs.size + 4, s1.heap.objs.size + 2, s1.heap.objs.size + 3, s1.heap.objs.size, s1.heap.objs.size + 1], _, _, H1, rfl, I2, turn_zipX (PySem.W.ktu_apart s1.heap.objs.size a a2 pu.lt pv.lt), ⟨hz, hTI, ⟨_, _, hTO⟩, t1, t2⟩, fr, q⟩
end MT
namespace MT
open PySem PySem.Spec PyProof.Rows L2
/-- J walks the items, as long as F stands -/
structure Wk (nm : Nm) (F : Hp) (items : List D) (J : It) : Prop where
  go : ∀ i F' H', Sub F F' → Le F' H' → i < items.length → J.go i H'
  stop : ∀ i F' H', Sub F F' → Le F' H' → items.length ≤ i → J.stop i H'
  yld : ∀ i d F' H' x H'', Sub F F' → Le F' H' → items[i]? = some d → J.yld i H' x H'' → ∃ F'', Ext F' H' F'' H'' ∧ Rep nm F'' x d
theorem Wk.mono {nm : Nm} {F F1 : Hp} {items : List D} {J : It} (h : Wk nm F items J) (s : Sub F F1) : Wk nm F1 items J :=
  ⟨fun i F' H' b => h.go i F' H' (s.trans b), fun i F' H' b => h.stop i F' H' (s.trans b), fun i d F' H' x H'' b => h.yld i d F' H' x H'' (s.trans b)⟩
/-- what is locked stays so -/
def Kpf (H H' : Hp) : Prop := ∀ a o u, H a = some (.frz o u) → H' a = some (.frz o u)
/-- J walks the items, as long as F stands and what is locked in H is so -/
structure WkL (nm : Nm) (F H : Hp) (items : List D) (J : It) : Prop where
  go : ∀ i F' H', Sub F F' → Le F' H' → Kpf H H' → i < items.length → J.go i H'
  stop : ∀ i F' H', Sub F F' → Le F' H' → Kpf H H' → items.length ≤ i → J.stop i H'
  yld : ∀ i d F' H' x H'', Sub F F' → Le F' H' → Kpf H H' → items[i]? = some d → J.yld i H' x H'' → ∃ F'', Ext F' H' F'' H'' ∧ Rep nm F'' x d
theorem Wk.toL {nm : Nm} {F H : Hp} {items : List D} {J : It} (h : Wk nm F items J) : WkL nm F H items J :=
  ⟨fun i F' H' a b _ => h.go i F' H' a b, fun i F' H' a b _ => h.stop i F' H' a b, fun i d F' H' x H'' a b _ => h.yld i d F' H' x H'' a b⟩
def rlI (nm : Nm) (σ : St) : Rl (List D) It := ⟨fun _ items J F' _ _ => Wk nm F' items J, fun _ q => q⟩
abbrev tI (c : Sx) (k : ItK) (as : IEs) : TI := tR c (rlI c.nm) fun e => (evo c.Φ c.io as e).bind fun os e => itR k os e
section
variable {nm : Nm} {F : Hp} {K : PySem.W.Frag}
theorem wk_seq {a : Addr} {vs : List V} {ds : List D} (hS : ∀ F' H', Sub F F' → Le F' H' → SqL K H' a vs) (r : RepL nm F vs ds) : Wk nm F ds (Itl K a) where
  go := fun i F' H' s l h => by
    have : ∃ x, vs[i]? = some x := ⟨_, List.getElem?_eq_getElem (by rw [r.length]; exact h)⟩
    obtain ⟨x, hx⟩ := this
    exact ⟨vs, x, hS F' H' s l, hx⟩
  stop := fun i F' H' s l h => ⟨vs, hS F' H' s l, by rw [r.length]; exact h⟩
  yld := fun i d F' H' x H'' s l h y => by
    obtain ⟨e, q⟩ := y
    subst e
    obtain ⟨v, hv, rv⟩ := r.get h
    have := q vs (hS F' H'' s l)
    rw [hv] at this; cases this
    exact ⟨F', Ext.refl l, rv.mono s⟩
theorem wk_tup {a : Addr} {vs : List V} {ds : List D} (h : F a = some (.tup vs)) (r : RepL nm F vs ds) : Wk nm F ds (Itt K a) where
  go := fun i F' H' s l hi => by
    have : ∃ x, vs[i]? = some x := ⟨_, List.getElem?_eq_getElem (by rw [r.length]; exact hi)⟩
    obtain ⟨x, hx⟩ := this
    exact ⟨vs, x, SqT.of (l.tup (s _ _ h)), hx⟩
  stop := fun i F' H' s l hi => ⟨vs, SqT.of (l.tup (s _ _ h)), by rw [r.length]; exact hi⟩
  yld := fun i d F' H' x H'' s l hi y => by
    obtain ⟨e, q⟩ := y
    subst e
    obtain ⟨v, hv, rv⟩ := r.get hi
    have := q vs (SqT.of (l.tup (s _ _ h)))
    rw [hv] at this; cases this
    exact ⟨F', Ext.refl l, rv.mono s⟩
theorem wk_str (z : Str) : Wk nm F (z.cps.toList.map fun c => D.str ⟨#[c]⟩) (Its z) where
  go := fun i F' H' s l hi => by simpa [Its] using hi
  stop := fun i F' H' s l hi => by simpa [Its] using hi
  yld := fun i d F' H' x H'' s l hi y => by
    obtain ⟨e, c, hc, rfl⟩ := y
    subst e
    have : d = .str ⟨#[c]⟩ := by
      rw [List.getElem?_map, Array.getElem?_toList, hc] at hi
      exact (Option.some.inj hi).symm
    subst this
    exact ⟨F', Ext.refl l, .str⟩
theorem wk_range (lo : Int) (n : Nat) : Wk nm F (rangeD lo n) (Itr lo n) where
  go := fun i F' H' s l hi => by simpa [Itr, rangeD] using hi
  stop := fun i F' H' s l hi => by simpa [Itr, rangeD] using hi
  yld := fun i d F' H' x H'' s l hi y => by
    obtain ⟨e, rfl⟩ := y
    subst e
    have : d = .int (lo + i) := by
      unfold rangeD at hi
      rw [List.getElem?_map] at hi
      by_cases h : i < n
      · rw [List.getElem?_range h] at hi
        exact (Option.some.inj hi).symm
      · rw [List.getElem?_eq_none (by simpa using h)] at hi; cases hi
    subst this
    exact ⟨F', Ext.refl l, .int⟩
theorem pairsE_len : ∀ (ds : List D) (n : Nat), (pairsE n ds).length = ds.length
  | [], _ => rfl
  | d :: ds, n => by simp [pairsE, pairsE_len ds]
theorem pairsE_get : ∀ (ds : List D) (n i : Nat) {d : D}, (pairsE n ds)[i]? = some d → ∃ e, ds[i]? = some e ∧ d = .tup [.int ((n + i : Nat) : Int), e]
  | [], _, _, _, h => by simp [pairsE] at h
  | d :: ds, n, 0, _, h => by simp [pairsE] at h; subst h; exact ⟨d, rfl, by simp⟩
  | d :: ds, n, i + 1, _, h => by
    obtain ⟨e, h1, h2⟩ := pairsE_get ds (n + 1) i (by simpa [pairsE] using h)
    exact ⟨e, by simpa using h1, by rw [h2]; congr 4; omega⟩
theorem wk_enum {a : Addr} {vs : List V} {ds : List D} (h : F a = some (.lst vs)) (r : RepL nm F vs ds) : Wk nm F (pairsE 0 ds) (Ite K a) where
  go := fun i F' H' s l hi => by
    rw [pairsE_len] at hi
    have : ∃ x, vs[i]? = some x := ⟨_, List.getElem?_eq_getElem (by rw [r.length]; exact hi)⟩
    obtain ⟨x, hx⟩ := this
    exact ⟨vs, x, SqL.of (l.lst (s _ _ h)), hx⟩
  stop := fun i F' H' s l hi => ⟨vs, SqL.of (l.lst (s _ _ h)), by rw [r.length, ← pairsE_len ds 0]; exact hi⟩
  yld := fun i d F' H' x H'' s l hi y => by
    obtain ⟨T, y, rfl, hn, rfl, q⟩ := y
    obtain ⟨e, he, rfl⟩ := pairsE_get ds 0 i hi
    obtain ⟨v, hv, rv⟩ := r.get he
    have := q vs (SqL.of (l.lst (s _ _ h)))
    rw [hv] at this; cases this
    obtain ⟨x, sb⟩ := Ext.shr (o := .tup [.int (i : Nat), y]) l hn (fun _ z => by cases z)
    exact ⟨_, x, .tup upd_same (.cons (by rw [Nat.zero_add]; exact .int) (.cons (rv.mono (s.trans sb)) .nil))⟩
theorem zipD_get : ∀ (xs ys : List D) (i : Nat) {d : D}, (zipD xs ys)[i]? = some d → ∃ e f, xs[i]? = some e ∧ ys[i]? = some f ∧ d = .tup [e, f]
  | [], _, _, _, h => by simp [zipD] at h
  | _ :: _, [], _, _, h => by simp [zipD] at h
  | x :: xs, y :: ys, 0, _, h => by simp [zipD] at h; subst h; exact ⟨x, y, rfl, rfl, rfl⟩
  | x :: xs, y :: ys, i + 1, _, h => by simpa using zipD_get xs ys i (by simpa [zipD] using h)
theorem zipD_len : ∀ (xs ys : List D), (zipD xs ys).length = min xs.length ys.length
  | [], _ => by simp [zipD]
  | _ :: _, [] => by simp [zipD]
  | x :: xs, y :: ys => by simp only [zipD, List.length_cons, zipD_len xs ys]; omega
def FS (b : Bool) (vs : List V) : HO := match b with
  | true => .tup vs
  | false => .lst vs
theorem FS.sq {F' H' : Hp} {b : Bool} {a : Addr} {vs : List V} (l : Le F' H') (h : F' a = some (FS b vs)) : SqX b K H' a vs := by
  cases b
  · exact SqL.of (l.lst h)
  · exact SqT.of (l.tup h)
theorem wk_zip {b c : Bool} {a a2 : Addr} {vs ws : List V} {ds es : List D} (h : F a = some (FS b vs)) (r : RepL nm F vs ds) (h2 : F a2 = some (FS c ws)) (r2 : RepL nm F ws es) : Wk nm F (zipD ds es) (ItzX b c K a a2) where
  go := fun i F' H' s l hi => by
    rw [zipD_len] at hi
    have h3 : ∃ x, vs[i]? = some x := ⟨_, List.getElem?_eq_getElem (by rw [r.length]; omega)⟩
    have h4 : ∃ x, ws[i]? = some x := ⟨_, List.getElem?_eq_getElem (by rw [r2.length]; omega)⟩
    obtain ⟨x, hx⟩ := h3
    obtain ⟨y, hy⟩ := h4
    exact ⟨vs, ws, x, y, FS.sq l (s _ _ h), FS.sq l (s _ _ h2), hx, hy⟩
  stop := fun i F' H' s l hi => ⟨vs, ws, FS.sq l (s _ _ h), FS.sq l (s _ _ h2), by rw [zipD_len] at hi; rw [r.length, r2.length]; omega⟩
  yld := fun i d F' H' x H'' s l hi y => by
    obtain ⟨T, y1, y2, rfl, hn, rfl, q1, q2⟩ := y
    obtain ⟨e, f, he, hf, rfl⟩ := zipD_get ds es i hi
    obtain ⟨v, hv, rv⟩ := r.get he
    obtain ⟨w, hw, rw'⟩ := r2.get hf
    have := q1 vs (FS.sq l (s _ _ h))
    rw [hv] at this; cases this
    have := q2 ws (FS.sq l (s _ _ h2))
    rw [hw] at this; cases this
    obtain ⟨x, sb⟩ := Ext.shr (o := .tup [y1, y2]) l hn (fun _ z => by cases z)
    exact ⟨_, x, .tup upd_same (.cons (rv.mono (s.trans sb)) (.cons (rw'.mono (s.trans sb)) .nil))⟩
end
section
variable {X : Cx} {c : Sx} {e a b tg : Expr} {es : List Expr} {ia ib ic : IE} {as : IEs} {pos : Pos} {σ : St} {F H F1 H1 : Hp} {env env1 : Env} {α β γ δ : Type} {k : ItK}
theorem it_core {os : List Opd} {vs : List V} {R : It → Hp → Prop} (E1 : EnvR c.nm F1 H1 σ env1) (S1 : Step (Ow σ env) F H (Ow σ env1) F1 H1) (p : Paired (rO c.nm σ H F1 H1 env1) os vs)
    (h : Res c σ F H env (rlI c.nm σ) (itR k os env1) R) : ∃ F2 ds items, Le F2 H1 ∧ ds.length = vs.length ∧ itemsD k ds = some items ∧ (∀ (k : Nat) v d, vs[k]? = some v → ds[k]? = some d → Rep c.nm F2 v d) ∧ ∀ J, Wk c.nm F2 items J → R J H1 := by
  unfold itR at h
  cases hg : rawsO os env1 with
  | none => rw [hg] at h; exact h.elim
  | some ds =>
    rw [hg] at h
    cases hi : itemsD k ds with
    | none =>
      have : (some ds).bind (itemsD k) = none := hi
      rw [this] at h; exact h.elim
    | some items =>
      have : (some ds).bind (itemsD k) = some items := hi
      rw [this] at h
      obtain ⟨F2, E2, sb, nw, ow2, rep2⟩ := ops_share [] os vs E1 p
      have S12 : Step (Ow σ env) F H (Ow σ (shares env1 (noSlots [] os))) F2 H1 :=
        S1.more sb nw ow2
      exact ⟨F2, ds, items, E2.le, by rw [← rawsO_len hg, Paired.length p], hi, fun k v d => rep2 ds hg k v d rfl, fun J wk => h F2 H1 J E2 S12 wk⟩
theorem len1 {α : Type} {xs : List α} (h : xs.length = 1) : ∃ x, xs = [x] := by
  match xs, h with
  | [x], _ => exact ⟨x, rfl⟩
theorem len2 {α : Type} {xs : List α} (h : xs.length = 2) : ∃ x y, xs = [x, y] := by
  match xs, h with
  | [x, y], _ => exact ⟨x, y, rfl⟩
/-- one operand -/
theorem tI_one {R : It → Hp → Prop} (h : tI c k (.cons ia .nil) σ H R) : tO c ia σ H fun v H1 => ∃ F2 d items, Le F2 H1 ∧ itemsD k [d] = some items ∧ Rep c.nm F2 v d ∧ ∀ J, Wk c.nm F2 items J → R J H1 := by
  obtain ⟨F, env, E, q⟩ := h
  refine ⟨F, env, E, ?_⟩
  have e : ((evo c.Φ c.io (.cons ia .nil) env).bind fun os e => itR k os e) = (mkO ia (ev c.Φ c.io ia) env).bind fun x e => itR k [x] e := by
    show ((mkO ia (ev c.Φ c.io ia) env).bind fun x e => (evo c.Φ c.io .nil e).bind fun os e => MT.R.ok (x :: os) e).bind _ = _
    cases mkO ia (ev c.Φ c.io ia) env <;> rfl
  have q : Res c σ F H env (rlI c.nm σ) ((evo c.Φ c.io (.cons ia .nil) env).bind fun os e => itR k os e) R := q
  rw [e] at q
  refine Res_bind q fun x v F1 H1 env1 E1 S1 r1 h1 => ?_
  obtain ⟨F2, ds, items, l, hl, hi, rr, k⟩ := it_core E1 S1 (.cons r1 .nil) h1
  obtain ⟨d, rfl⟩ := len1 (xs := ds) hl
  exact ⟨F2, d, items, l, hi, rr 0 v d rfl rfl, k⟩
/-- operands in a call -/
theorem tI_many {R : It → Hp → Prop} (h : tI c k as σ H R) : tOs c as σ H fun vs H1 => ∃ F2 ds items, Le F2 H1 ∧ ds.length = vs.length ∧ itemsD k ds = some items ∧ (∀ (k : Nat) v d, vs[k]? = some v → ds[k]? = some d → Rep c.nm F2 v d) ∧ ∀ J, Wk c.nm F2 items J → R J H1 := by
  obtain ⟨F, env, E, q⟩ := h
  exact ⟨F, env, E, Res_bind q fun os vs F1 H1 env1 E1 S1 r1 h1 => it_core E1 S1 r1 h1⟩
theorem _root_.L2.PI.imp {t t' : TI} (h : PI X tg e t) (k : ∀ σ H R, t' σ H R → t σ H R) : PI X tg e t' := ⟨fun pins s σ H R I q => h.run pins s σ H R I (k σ H R q)⟩
/-- what is walked: a list, a tuple, a text, as it comes -/
def iAny (K : PySem.W.Frag) (tl : TE) : TI := fun σ H R => tl σ H fun x H1 => (∃ a, x = .ref a ∧ (∃ xs, SqL K H1 a xs) ∧ R (Itl K a) H1) ∨ (∃ a, x = .ref a ∧ (∃ xs, SqT K H1 a xs) ∧ R (Itt K a) H1) ∨ ∃ z, x = .str z ∧ R (Its z) H1
theorem pi_any {l : Expr} {tl : TE} (hl : PE X l tl) : PI X tg l (iAny X.K tl) := by
  refine ⟨fun pins s σ H R I h => ?_⟩
  refine thn (hl.run pins s σ H _ I h) fun v s1 ⟨x, H1, I1, r1, q1⟩ => ?_
  have fresh : ∀ b ∈ [s1.heap.objs.size], FpOk X pins H1 b := fun b hb => by
    have e : b = s1.heap.objs.size := by simpa using hb
    rw [e]; exact I1.fpOk (Nat.le_refl _) (I1.hok.fresh (Nat.le_refl _))
  rcases q1 with ⟨a, rfl, ⟨xs, hq⟩, q⟩ | ⟨a, rfl, ⟨xs, hq⟩, q⟩ | ⟨z, rfl, q⟩
  · cases r1
    obtain ⟨its, rv, p, hz⟩ := I1.list hq
    refine wpAny_pyIter_list p.isList ?_
    exact ⟨s1.heap.objs.size, [s1.heap.objs.size], _, _, H1, rfl, I1.kept (t' := s1.toks) fun b o e => Heap.get?_push_of_some _ e, turn_list a _, ⟨_, Heap.get?_push_size _ rfl, rfl, rfl⟩, fresh, q⟩
  · cases r1
    obtain ⟨its, rv, p, hz⟩ := I1.tuple hq
    refine wpAny_pyIter_tuple (show s1.heap.IsTuple a its.toArray from p) ?_
    exact ⟨s1.heap.objs.size, [s1.heap.objs.size], _, _, H1, rfl, I1.kept (t' := s1.toks) fun b o e => Heap.get?_push_of_some _ e, turn_tuple a _, ⟨_, Heap.get?_push_size _ rfl, rfl, rfl⟩, fresh, q⟩
  · obtain ⟨t, rfl⟩ := r1
    cases ha : z.cps.all (· < 128)
    · exact wpAny_pyIter_wide ha (pi_one (tk := s1.toks) I1 _ (turn_str _ z t "str_iterator" (.inr rfl)) ⟨_, Heap.get?_push_size _ rfl, rfl, rfl⟩ q)
    · exact wpAny_pyIter_ascii ha (pi_one (tk := s1.toks) I1 _ (turn_str _ z t "str_ascii_iterator" (.inl rfl)) ⟨_, Heap.get?_push_size _ rfl, rfl, rfl⟩ q)
theorem si_seq (hK : X.K = c.nm.K) (ha : PE X a (tO c ia)) : PI X tg a (tI c .seq (.cons ia .nil)) := by
  refine (pi_any ha).imp fun σ H R q => tR_one (tI_one q) fun v H1 ⟨F2, d, items, l, hi, r, w⟩ => ?_
  cases d with
  | lst ds =>
    cases hi
    cases r with
    | lst h rr => exact .inl ⟨_, rfl, ⟨_, SqL.of (l.lst h)⟩, w _ (wk_seq (fun F' H' s l => SqL.of (l.lst (s _ _ h))) rr)⟩
  | scr ns =>
    cases hi
    cases r with
    | scr h => exact .inl ⟨_, rfl, ⟨_, hK ▸ h.sq l⟩, w _ (wk_seq (fun F' H' s l => hK ▸ (h.mono s).sq l) (RepL.of_ints ns))⟩
  | tup ds =>
    cases hi
    cases r with
    | tup h rr => exact .inr (.inl ⟨_, rfl, ⟨_, SqT.of (l.tup h)⟩, w _ (wk_tup h rr)⟩)
  | str z =>
    cases hi
    cases r
    exact .inr (.inr ⟨_, rfl, w _ (wk_str z)⟩)
  | _ => cases hi
theorem big62_eq {j : Int} (h : big62 j = true) : -(2 ^ 62) ≤ j ∧ j < 2 ^ 62 := by
  unfold big62 at h
  rw [Bool.and_eq_true] at h
  exact ⟨of_decide_eq_true h.1, of_decide_eq_true h.2⟩
theorem si_range1 {p : Pos} (hg : Gl X "range") (hm : X.mg "range" = none) (ha : PA X [a] (tOs c as)) (hs : starEach [a] X.env = [(false, eval a X.env)]) : PI X tg (.Call (.Name "range" p) [a] [] pos) (tI c .range1 as) := by
  refine (pi_range1 hg hm ha hs).imp fun σ H R q => tR_one (tI_many q) fun vs H1 ⟨F2, ds, items, l, hl, hi, r, w⟩ => ?_
  match ds, hi with
  | [.int j], hi =>
    obtain ⟨v, rfl⟩ := len1 (xs := vs) hl.symm
    cases r 0 v _ rfl rfl
    unfold itemsD at hi
    simp only at hi
    split at hi
    · rename_i hb
      cases hi
      exact ⟨j, rfl, (big62_eq hb).1, (big62_eq hb).2, w _ (wk_range 0 j.toNat)⟩
    · cases hi
theorem si_enum {p tpos : Pos} {elts : List Expr} {kk : Nat} (hg : Gl X "enumerate") (hm : X.mg "enumerate" = none) (ha : PA X [a] (tOs c as)) (hs : starEach [a] X.env = [(false, eval a X.env)]) :
    PI X (.Tuple elts kk tpos) (.Call (.Name "enumerate" p) [a] [] pos) (tI c .enum as) := by
  refine (pi_enum hg hm ha hs).imp fun σ H R q => tR_one (tI_many q) fun vs H1 ⟨F2, ds, items, l, hl, hi, r, w⟩ => ?_
  match ds, hi with
  | [.lst xs], hi =>
    obtain ⟨v, rfl⟩ := len1 (xs := vs) hl.symm
    cases r 0 v _ rfl rfl with
    | lst h rr =>
      cases hi
      exact ⟨_, _, rfl, SqL.of (l.lst h), w _ (wk_enum h rr)⟩
theorem si_zip {p tpos : Pos} {elts : List Expr} {kk : Nat} (hg : Gl X "zip") (hm : X.mg "zip" = none) (ha : PA X [a, b] (tOs c as)) (hs : starEach [a, b] X.env = (false, eval a X.env) :: starEach [b] X.env) (hpl : (backTo pos (starEach [b] X.env)).any (·.1) = false) :
    PI X (.Tuple elts kk tpos) (.Call (.Name "zip" p) [a, b] [] pos) (tI c .zip as) := by
  refine (pi_zipX hg hm ha hs hpl).imp fun σ H R q => tR_one (tI_many q) fun vs H1 ⟨F2, ds, items, l, hl, hi, r, w⟩ => ?_
  have one : ∀ {v : V} {d : D} {xs : List D}, Rep c.nm F2 v d → (d = .lst xs ∨ d = .tup xs) → ∃ b p us, v = .ref p ∧ F2 p = some (FS b us) ∧ RepL c.nm F2 us xs := fun r0 q => by
    rcases q with q | q
    · subst q; cases r0 with
      | lst h rr => exact ⟨false, _, _, rfl, h, rr⟩
    · subst q; cases r0 with
      | tup h rr => exact ⟨true, _, _, rfl, h, rr⟩
  have key : ∀ (d1 d2 : D) (xs ys : List D), ds = [d1, d2] → (d1 = .lst xs ∨ d1 = .tup xs) → (d2 = .lst ys ∨ d2 = .tup ys) → items = zipD xs ys → ∃ b c a a2 xs ys, vs = [.ref a, .ref a2] ∧ SqX b X.K H1 a xs ∧ SqX c X.K H1 a2 ys ∧ R (ItzX b c X.K a a2) H1 := fun d1 d2 xs ys e q1 q2 ei => by
    subst e ei
    obtain ⟨v, u, rfl⟩ := len2 (xs := vs) hl.symm
    obtain ⟨b1, p1, us, rfl, f1, g1⟩ := one (r 0 v _ rfl rfl) q1
    obtain ⟨b2, p2, ws, rfl, f2, g2⟩ := one (r 1 u _ rfl rfl) q2
    exact ⟨b1, b2, p1, p2, us, ws, rfl, FS.sq l f1, FS.sq l f2, w _ (wk_zip f1 g1 f2 g2)⟩
  match ds, hi with
  | [.lst xs, .lst ys], hi => cases hi; exact key _ _ xs ys rfl (.inl rfl) (.inl rfl) rfl
  | [.tup xs, .lst ys], hi => cases hi; exact key _ _ xs ys rfl (.inr rfl) (.inl rfl) rfl
  | [.lst xs, .tup ys], hi => cases hi; exact key _ _ xs ys rfl (.inl rfl) (.inr rfl) rfl
  | [.tup xs, .tup ys], hi => cases hi; exact key _ _ xs ys rfl (.inr rfl) (.inr rfl) rfl
end
mutual
def _root_.MT.IT.vars : IT → List Nat
  | .nm i => [i]
  | .tp ts => ts.vars
def _root_.MT.ITs.vars : ITs → List Nat
  | .nil => []
  | .cons t ts => t.vars ++ ts.vars
end
def _root_.MT.ITs.len : ITs → Nat
  | .nil => 0
  | .cons _ ts => ts.len + 1
/-- the state after some slots were set -/
def After (c : Sx) (σ σ' : St) (env env' : Env) (vs : List Nat) (F H : Hp) : Prop :=
  EnvR c.nm F H σ' env' ∧ (∀ j, j ∉ vs → σ'[j]? = σ[j]?) ∧ (∀ a, Ow σ' env' a → Ow σ env a) ∧ (∀ i ∈ c.io, σ'[i]? = σ[i]?) ∧ σ'.length = σ.length
def gT (c : Sx) (t : IT) : TG := fun v σ H Q => ∃ F env d env', EnvR c.nm F H σ env ∧ Rep c.nm F v d ∧ asgT c.io t d env = some env' ∧ ∀ σ', After c σ σ' env env' t.vars F H → Q σ' H
def gTs (c : Sx) (ts : ITs) : TGs := fun vs σ H Q => ∃ F env ds env', EnvR c.nm F H σ env ∧ RepL c.nm F vs ds ∧ asgTs c.io ts ds env = some env' ∧ ∀ σ', After c σ σ' env env' ts.vars F H → Q σ' H
section
variable {X : Cx} {c : Sx} {e a b tg : Expr} {es : List Expr} {pos : Pos} {σ : St} {F H F1 H1 : Hp} {env env1 : Env}
theorem EnvR.set {nm : Nm} (E : EnvR nm F H σ env) (i : Nat) {v : V} {x : Val} (r : ValR nm F H v x) (n : x.own = true → ∀ p, v = .ref p → ¬ Ow σ env p) : EnvR nm F H (σ.set i (some v)) (env.set i (some x)) where
  len := by rw [List.length_set, set_len]; exact E.len
  le := E.le
  val := fun j y hy => by
    rw [slot_set] at hy
    by_cases hij : i = j ∧ i < env.length
    · rw [if_pos hij] at hy; cases hy
      refine ⟨v, ?_, r⟩
      rw [List.getElem?_set, if_pos hij.1, if_pos (by rw [E.len]; exact hij.2)]
    · rw [if_neg hij] at hy
      obtain ⟨w, hw, r⟩ := E.val j y hy
      refine ⟨w, ?_, r⟩
      have : i ≠ j := fun z => hij ⟨z, by rw [z]; exact slot_lt hy⟩
      rw [List.getElem?_set, if_neg this]; exact hw
  sep := fun j k y z a hy hz oy oz h1 h2 => by
    have key : ∀ j y, slot (env.set i (some x)) j = some y → (σ.set i (some v))[j]? = some (some (.ref a)) → (i = j ∧ y = x ∧ v = .ref a) ∨ (i ≠ j ∧ slot env j = some y ∧ σ[j]? = some (some (.ref a))) := fun j y hy h => by
      rw [slot_set] at hy
      by_cases hij : i = j
      · subst hij
        by_cases hl : i < env.length
        · rw [if_pos ⟨rfl, hl⟩] at hy; cases hy
          rw [List.getElem?_set, if_pos rfl, if_pos (by rw [E.len]; exact hl)] at h
          exact .inl ⟨rfl, rfl, by simpa using h⟩
        · rw [if_neg fun z => hl z.2] at hy
          exact absurd (slot_lt hy) hl
      · rw [if_neg fun z => hij z.1] at hy
        rw [List.getElem?_set, if_neg hij] at h
        exact .inr ⟨hij, hy, h⟩
    rcases key j y hy h1 with ⟨e1, e2, e3⟩ | ⟨e1, e2, e3⟩ <;> rcases key k z hz h2 with ⟨g1, g2, g3⟩ | ⟨g1, g2, g3⟩
    · exact e1.symm.trans g1
    · subst e2; exact absurd ⟨k, z, g2, oz, g3⟩ (n oy a e3)
    · subst g2; exact absurd ⟨j, y, e2, oy, e3⟩ (n oz a g3)
    · exact E.sep j k y z a e2 g2 oy oz e3 g3
  cel := E.cel
  base := E.base
theorem Ow.set {i : Nat} {v : V} {x : Val} {a : Addr} (h : Ow (σ.set i (some v)) (env.set i (some x)) a) : Ow σ env a ∨ (x.own = true ∧ v = .ref a) := by
  obtain ⟨j, y, hy, oy, hj⟩ := h
  by_cases hij : i = j
  · subst hij
    have hl : i < σ.length := by
      rcases Nat.lt_or_ge i σ.length with hl | hl
      · exact hl
      · rw [List.getElem?_eq_none (by simpa using hl)] at hj; cases hj
    rw [List.getElem?_set, if_pos rfl, if_pos hl] at hj
    rw [slot_set] at hy
    by_cases hl2 : i < env.length
    · rw [if_pos ⟨rfl, hl2⟩] at hy; cases hy
      exact .inr ⟨oy, by simpa using hj⟩
    · rw [if_neg fun z => hl2 z.2] at hy
      exact absurd (slot_lt hy) hl2
  · rw [slot_set, if_neg fun z => hij z.1] at hy
    rw [List.getElem?_set, if_neg hij] at hj
    exact .inl ⟨j, y, hy, oy, hj⟩
theorem sg_name {i : Nat} {x : Str} (hN : X.N.Nodup) (hi : X.N[i]? = some x) (hx : Loc X.env.scope x) (hf : X.fn x = true ∨ X.env.scope.names.lookup x = some .local) : PG X (.Name x pos) (gT c (.nm i)) := by
  refine ⟨fun pins s σ H v u Q I r h => (pg_name hN hi hx hf).run pins s σ H v u Q I r ?_⟩
  obtain ⟨F, env, d, env', E, rep, ha, k⟩ := h
  unfold asgT at ha
  split at ha
  · cases ha
  · rename_i hn
    cases ha
    refine k _ ⟨E.set i (ValR.of_rep rep) (fun z => nomatch z), fun j hj => ?_, fun a ha => ?_, ?_⟩
    · rw [List.getElem?_set, if_neg fun z => hj (by rw [z]; exact List.mem_singleton.mpr rfl)]
    · rcases Ow.set ha with z | z
      · exact z
      · exact absurd z.1 (fun z => nomatch z)
    · exact ⟨fun j hj => by rw [List.getElem?_set, if_neg fun z => hn (.inl (by rw [z]; exact hj))], List.length_set⟩
theorem sgs_nil : PGs X [] (gTs c .nil) := by
  refine ⟨fun pins s σ H vs us Q I r h => pgs_nil.run pins s σ H vs us Q I r ?_⟩
  obtain ⟨F, env, ds, env', E, rep, ha, k⟩ := h
  cases ds with
  | cons _ _ => unfold asgTs at ha; cases ha
  | nil =>
    unfold asgTs at ha
    cases ha
    cases rep
    exact ⟨rfl, k σ ⟨E, fun _ _ => rfl, fun _ h => h, fun _ _ => rfl, rfl⟩⟩
theorem sgs_cons {t : IT} {ts : ITs} (h1 : PG X e (gT c t)) (h2 : PGs X es (gTs c ts)) (hs : (assignEach (e :: es) X.env).map (·.2) = assign e X.env :: (assignEach es X.env).map (·.2)) : PGs X (e :: es) (gTs c (.cons t ts)) := by
  refine ⟨fun pins s σ H vs us Q I r h => (pgs_cons h1 h2 hs).run pins s σ H vs us Q I r ?_⟩
  obtain ⟨F, env, ds, env', E, rep, ha, k⟩ := h
  cases ds with
  | nil => unfold asgTs at ha; cases ha
  | cons d ds =>
    cases rep with
    | cons r1 rr =>
      unfold asgTs at ha
      cases h3 : asgT c.io t d env with
      | none => rw [h3] at ha; cases ha
      | some env1 =>
        rw [h3] at ha
        refine ⟨_, _, rfl, F, env, d, env1, E, r1, h3, fun σ1 ⟨E1, a1, a2, a3, a4⟩ => ⟨F, env1, ds, env', E1, rr, ha, fun σ2 ⟨E2, b1, b2, b3, b4⟩ => k σ2 ⟨E2, fun j hj => ?_, fun a h => a2 a (b2 a h), fun i hi => (b3 i hi).trans (a3 i hi), b4.trans a4⟩⟩⟩
        have hj : j ∉ t.vars ++ ts.vars := hj
        rw [List.mem_append] at hj
        exact (b1 j fun z => hj (.inr z)).trans (a1 j fun z => hj (.inl z))
theorem sg_tup {ts : ITs} {kk n : Nat} (hc : X.calm = true) (h : PGs X es (gTs c ts)) (hn : (assignEach es X.env).length = n) (hst : (assignEach es X.env).findIdx? (·.1) = none) (hl : ∀ ds env env', asgTs c.io ts ds env = some env' → ds.length = n) : PG X (.Tuple es kk pos) (gT c (.tp ts)) := by
  have h1 := pg_tup (X := X) (k := kk) (pos := pos) hc h hn hst
  have h2 := pg_lst (X := X) (k := kk) (pos := pos) hc h hn hst
  refine ⟨fun pins s σ H v u Q I r q => ?_⟩
  obtain ⟨F, env, d, env', E, rep, ha, k⟩ := q
  cases d with
  | tup ds =>
    unfold asgT at ha
    cases rep with
    | tup hF rr =>
      refine h1.run pins s σ H _ u Q I r ⟨_, _, rfl, SqT.of (E.le.tup hF), ?_, F, env, ds, env', E, rr, ha, k⟩
      rw [rr.length]; exact hl ds env env' ha
  | lst ds =>
    unfold asgT at ha
    cases rep with
    | lst hF rr =>
      refine h2.run pins s σ H _ u Q I r ⟨_, _, rfl, SqL.of (E.le.lst hF), ?_, F, env, ds, env', E, rr, ha, k⟩
      rw [rr.length]; exact hl ds env env' ha
  | _ => unfold asgT at ha; cases ha
theorem lenTs {io : List Nat} : ∀ {ts : ITs} {ds : List D} {env env' : Env}, asgTs io ts ds env = some env' → ds.length = ts.len
  | .nil, [], _, _, _ => rfl
  | .nil, _ :: _, _, _, h => by unfold asgTs at h; cases h
  | .cons _ _, [], _, _, h => by unfold asgTs at h; cases h
  | .cons t ts, d :: ds, env, env', h => by
    unfold asgTs at h
    cases h1 : asgT io t d env with
    | none => rw [h1] at h; cases h
    | some e => rw [h1] at h; simp [lenTs h, ITs.len]
theorem lenT2 {io : List Nat} {t u : IT} : ∀ (ds : List D) (env env' : Env), asgTs io (.cons t (.cons u .nil)) ds env = some env' → ds.length = 2 := fun _ _ _ h => lenTs h
theorem lenT3 {io : List Nat} {t u v : IT} : ∀ (ds : List D) (env env' : Env), asgTs io (.cons t (.cons u (.cons v .nil))) ds env = some env' → ds.length = 3 := fun _ _ _ h => lenTs h
end
end MT
namespace MT
open PySem PySem.Spec PyProof.Rows L2
/-- after a statement -/
structure Aft (c : Sx) (σ : St) (F H : Hp) (env : Env) (σ' : St) (F' H' : Hp) (e : Env) : Prop where
  er : EnvR c.nm F' H' σ' e
  step : Step (Ow σ env) F H (Ow σ' e) F' H'
  io : ∀ i ∈ c.io, σ'[i]? = σ[i]?
/-- what is returned -/
def RtR (c : Sx) (H : Hp) (σ : St) (env : Env) (σ' : St) (F' H' : Hp) (e : Env) (w : V) (x : Val) : Prop :=
  ValR c.nm F' H' w x ∧ (x.own = true → ∀ p, w = .ref p → (H p = none ∨ Ow σ env p) ∧ ∀ i ∈ c.io, ∀ y, slot e i = some y → y.own = true → σ'[i]? ≠ some (some (.ref p)))
def XRes (c : Sx) (σ : St) (F H : Hp) (env : Env) (r : Xr) (D : Ends) : Prop := match r with
  | .nx e => ∀ σ' F' H', Aft c σ F H env σ' F' H' e → D.nx σ' H'
  | .bk e => ∀ σ' F' H', Aft c σ F H env σ' F' H' e → D.bk σ' H'
  | .ct e => ∀ σ' F' H', Aft c σ F H env σ' F' H' e → D.ct σ' H'
  | .rt x e => ∀ σ' F' H' w, Aft c σ F H env σ' F' H' e → RtR c H σ env σ' F' H' e w x → D.rt w H'
  | .exc x e => ∀ σ' F' H' cls dd, Aft c σ F H env σ' F' H' e → ExcR c.nm x cls dd F' → c.W cls dd σ' H'
  | .stuck => False
def tS (c : Sx) (s : IS) : TS := fun D σ H => ∃ F env, EnvR c.nm F H σ env ∧ XRes c σ F H env (ex c.Φ c.io s env) D
def tSs (c : Sx) (ss : ISs) : TS := fun D σ H => ∃ F env, EnvR c.nm F H σ env ∧ XRes c σ F H env (exs c.Φ c.io ss env) D
section
variable {X : Cx} {c : Sx} {e a b tg : Expr} {es : List Expr} {ia ib ic : IE} {as : IEs} {pos : Pos} {σ σ1 : St} {F H F1 H1 : Hp} {env env1 : Env} {α β γ δ : Type} {D D' : Ends}
theorem Aft.refl (E : EnvR c.nm F H σ env) : Aft c σ F H env σ F H env := ⟨E, Step.refl, fun _ _ => rfl⟩
theorem Aft.of (E : EnvR c.nm F1 H1 σ env1) (S : Step (Ow σ env) F H (Ow σ env1) F1 H1) : Aft c σ F H env σ F1 H1 env1 := ⟨E, S, fun _ _ => rfl⟩
theorem Aft.trans {σ2 : St} {F2 H2 : Hp} {env2 : Env} (a : Aft c σ F H env σ1 F1 H1 env1) (b : Aft c σ1 F1 H1 env1 σ2 F2 H2 env2) : Aft c σ F H env σ2 F2 H2 env2 := ⟨b.er, a.step.trans b.step, fun i hi => (b.io i hi).trans (a.io i hi)⟩
theorem XRes.shift {r : Xr} (h : XRes c σ F H env r D) (a : Aft c σ F H env σ1 F1 H1 env1) : XRes c σ1 F1 H1 env1 r D := by
  cases r with
  | nx e => exact fun σ' F' H' b => h σ' F' H' (a.trans b)
  | bk e => exact fun σ' F' H' b => h σ' F' H' (a.trans b)
  | ct e => exact fun σ' F' H' b => h σ' F' H' (a.trans b)
  | rt x e =>
    refine fun σ' F' H' w b r => h σ' F' H' w (a.trans b) ⟨r.1, fun o p q => ⟨?_, (r.2 o p q).2⟩⟩
    rcases (r.2 o p q).1 with z | z
    · exact .inl (a.step.there p z)
    · exact (a.step.les p z).symm
  | exc x e => exact fun σ' F' H' cls dd b => h σ' F' H' cls dd (a.trans b)
  | stuck => exact h
theorem XRes.imp {r : Xr} (h : XRes c σ F H env r D) (k1 : ∀ σ H, D.nx σ H → D'.nx σ H) (k2 : ∀ w H, D.rt w H → D'.rt w H) (k3 : ∀ σ H, D.bk σ H → D'.bk σ H) (k4 : ∀ σ H, D.ct σ H → D'.ct σ H) : XRes c σ F H env r D' := by
  cases r with
  | nx e => exact fun σ' F' H' b => k1 _ _ (h σ' F' H' b)
  | bk e => exact fun σ' F' H' b => k3 _ _ (h σ' F' H' b)
  | ct e => exact fun σ' F' H' b => k4 _ _ (h σ' F' H' b)
  | rt x e => exact fun σ' F' H' w b r => k2 _ _ (h σ' F' H' w b r)
  | exc x e => exact fun σ' F' H' cls dd b => h σ' F' H' cls dd b
  | stuck => exact h
/-- an expression ahead, not shifted -/
theorem X_bind {r : MT.R α} {g : α → Env → Xr} {rl : Rl α β} {Q : β → Hp → Prop} (h : XRes c σ F H env (r.x g) D)
    (k : ∀ a b F1 H1 env1, EnvR c.nm F1 H1 σ env1 → Step (Ow σ env) F H (Ow σ env1) F1 H1 → rl.r H a b F1 H1 env1 → XRes c σ F H env (g a env1) D → Q b H1) : Res c σ F H env rl r Q := by
  cases r with
  | ok a env1 => exact fun F1 H1 b E1 S1 r1 => k a b F1 H1 env1 E1 S1 r1 h
  | exc x env1 => exact fun F1 H1 cls dd E1 S1 r1 => h σ F1 H1 cls dd (Aft.of E1 S1) r1
  | stuck => exact h
/-- a slot is set -/
theorem aft_set {i : Nat} {v : V} {x : Val} (E1 : EnvR c.nm F1 H1 σ env1) (S1 : Step (Ow σ env) F H (Ow σ env1) F1 H1) (hi : i ∉ c.io) (r : ValR c.nm F1 H1 v x) (n : x.own = true → ∀ p, v = .ref p → H p = none ∧ ¬ Ow σ env1 p) :
    Aft c σ F H env (σ.set i (some v)) F1 H1 (env1.set i (some x)) := by
  refine ⟨E1.set i r fun o p e => (n o p e).2, ⟨S1.sub, S1.new, S1.keep, fun a ha => ?_, S1.there, S1.mrk⟩, fun j hj => ?_⟩
  · rcases Ow.set ha with z | z
    · exact S1.les a z
    · exact .inr (n z.1 a z.2).1
  · rw [List.getElem?_set, if_neg fun z => hi (by rw [z]; exact hj)]
theorem sb_nil : PSs X [] (tSs c .nil) := pss_nil.imp fun D σ H ⟨F, env, E, q⟩ => q σ F H (Aft.refl E)
theorem sb_cons {st : Stmt} {rest : List Stmt} {s : IS} {ss : ISs} (h1 : PS X st (tS c s)) (h2 : PSs X rest (tSs c ss)) : PSs X (st :: rest) (tSs c (.cons s ss)) := by
  refine (pss_cons h1 h2).imp fun D σ H ⟨F, env, E, q⟩ => ?_
  refine ⟨F, env, E, ?_⟩
  unfold exs at q
  cases h : ex c.Φ c.io s env with
  | nx e =>
    rw [h] at q
    exact fun σ' F' H' a => ⟨F', e, a.er, XRes.shift q a⟩
  | bk e => rw [h] at q; exact q
  | ct e => rw [h] at q; exact q
  | rt x e => rw [h] at q; exact q
  | exc x e => rw [h] at q; exact q
  | stuck => rw [h] at q; exact q
theorem ss_expr (he : PE X e (tE c ia)) (hs : swapsWith e none pos.line X.env = pure false) : PS X (.Expr e pos) (tS c (.expr ia)) := by
  refine (ps_expr he hs).imp fun D σ H ⟨F, env, E, q⟩ => ⟨F, env, E, ?_⟩
  exact X_bind q fun x v F1 H1 env1 E1 S1 r1 h1 => h1 σ F1 H1 (Aft.of E1 S1)
theorem ss_set {i : Nat} {x : Str} {p : Pos} (hN : X.N.Nodup) (hi : X.N[i]? = some x) (hx : Loc X.env.scope x) (he : PE X e (tE c ia)) (hs : swapsWith e (some (.Name x p)) pos.line X.env = pure false) (hf : X.fn x = true ∨ X.env.scope.names.lookup x = some .local) :
    PS X (.Assign [.Name x p] e pos) (tS c (.asg (.nm i) ia)) := by
  refine (ps_set hN hi hx he hs hf).imp fun D σ H ⟨F, env, E, q⟩ => ⟨F, env, E, ?_⟩
  unfold ex at q
  refine X_bind q fun x v F1 H1 env1 E1 S1 r1 h1 => ?_
  unfold setV at h1
  split at h1
  · exact h1.elim
  · rename_i hn
    exact h1 _ F1 H1 (aft_set E1 S1 (fun z => hn (.inl z)) r1.1 r1.2)
theorem ss_asg {t : IT} (ht : ∀ i, t ≠ .nm i) (he : PE X e (tE c ia)) (hg : PG X tg (gT c t)) (hs : swapsWithSole [tg] e pos.line X.env = pure false) (hw : swappedStores [tg] e X.env = pure none)
    (h1 : (assignEach [tg] X.env).map (·.2) = [assign tg X.env]) : PS X (.Assign [tg] e pos) (tS c (.asg t ia)) := by
  refine (ps_asg he hg hs hw h1).imp fun D σ H ⟨F, env, E, q⟩ => ⟨F, env, E, ?_⟩
  have q : XRes c σ F H env ((ev c.Φ c.io ia env).x fun v e => match asgT c.io t v.d e with
    | some e => .nx e
    | none => .stuck) D := by
    cases t with
    | nm i => exact absurd rfl (ht i)
    | tp ts => exact q
  refine X_bind q fun x v F1 H1 env1 E1 S1 r1 h1 => ?_
  obtain ⟨F2, E2, rep, sb, le, nw⟩ := E1.shareV r1.1 fun o p e => (r1.2 o p e).2
  have S2 := S1.shared sb fun b hb => (nw b hb).imp id fun z => (r1.2 z.1 b z.2).1
  cases h3 : asgT c.io t x.d env1 with
  | none => rw [h3] at h1; exact h1.elim
  | some env2 =>
    rw [h3] at h1
    exact ⟨F2, env1, x.d, env2, E2, rep, h3, fun σ' ⟨E', a1, a2, a3, _⟩ => h1 σ' F2 H1 ⟨E', S2.trans ⟨Sub.refl _, fun _ h => .inl h, fun _ _ h _ _ => h, fun a h => .inl (a2 a h), fun _ h => h, fun _ h => .inl h⟩, a3⟩⟩
theorem ss_ret (ne : ∀ i, ia ≠ .var i) (he : PE X e (tE c ia)) : PS X (.Return (some e) pos) (tS c (.ret ia)) := by
  refine (ps_ret he).imp fun D σ H ⟨F, env, E, q⟩ => ⟨F, env, E, ?_⟩
  have q : XRes c σ F H env ((ev c.Φ c.io ia env).x fun v e => .rt v e) D := by
    cases ia <;> first | exact q | exact absurd rfl (ne _)
  refine X_bind q fun x v F1 H1 env1 E1 S1 r1 h1 => h1 σ F1 H1 v (Aft.of E1 S1) ⟨r1.1, fun o p e => ⟨.inl (r1.2 o p e).1, fun i hi y hy oy hs => ?_⟩⟩
  exact (r1.2 o p e).2 ⟨i, y, hy, oy, hs⟩
theorem ss_retV {i : Nat} (he : PE X e (tVar i)) : PS X (.Return (some e) pos) (tS c (.ret (.var i))) := by
  refine (ps_ret he).imp fun D σ H ⟨F, env, E, q⟩ => ?_
  unfold ex at q
  simp only at q
  cases h : slot env i with
  | none => rw [h] at q; exact q.elim
  | some x =>
    rw [h] at q
    simp only at q
    split at q
    · exact q.elim
    · rename_i hn
      obtain ⟨v, hv, r⟩ := E.val i x h
      refine ⟨v, hv, q σ F H v (Aft.refl E) ⟨r, fun o p e => ⟨.inr ⟨i, x, h, o, by rw [← e]; exact hv⟩, fun j hj y hy oy hs => ?_⟩⟩⟩
      have := E.sep i j x y p h hy o oy (by rw [← e]; exact hv) hs
      exact hn (by rw [this]; exact hj)
theorem ss_if {p q : List Stmt} {ip iq : ISs} (hc : PT X a (tT c ia)) (hp : PSs X p (tSs c ip)) (hq : PSs X q (tSs c iq)) : PS X (.If a p q pos) (tS c (.ite ia ip iq)) := by
  refine (ps_if hc hp hq).imp fun D σ H ⟨F, env, E, q⟩ => ⟨F, env, E, ?_⟩
  unfold ex at q
  show Res c σ F H env (rlB σ) (bR (ev c.Φ c.io ia env)) _
  unfold bR
  cases h : ev c.Φ c.io ia env with
  | ok v env1 =>
    rw [h] at q
    have q : XRes c σ F H env (match v.d with
      | .bl true => exs c.Φ c.io ip env1
      | .bl false => exs c.Φ c.io iq env1
      | _ => .stuck) D := q
    show Res c σ F H env (rlB σ) (boolR v fun b => .ok b env1) _
    unfold boolR
    cases hd : v.d with
    | bl b =>
      rw [hd] at q
      intro F1 H1 b' E1 S1 e
      have e : b = b' := e
      subst e
      cases b with
      | true => exact ⟨F1, env1, E1, XRes.shift q (Aft.of E1 S1)⟩
      | false => exact ⟨F1, env1, E1, XRes.shift q (Aft.of E1 S1)⟩
    | _ => rw [hd] at q; exact q.elim
  | exc x env1 =>
    rw [h] at q
    exact fun F1 H1 cls dd E1 S1 r1 => q σ F1 H1 cls dd (Aft.of E1 S1) r1
  | stuck => rw [h] at q; exact q
theorem ss_aug {i : Nat} {x : Str} {op : Operator} {p : Pos} (ho : op = .Add ∨ op = .Sub) (hN : X.N.Nodup) (hi : X.N[i]? = some x) (hx : Loc X.env.scope x) (he : PE X e (tE c ia)) (hf : X.fn x = true ∨ X.env.scope.names.lookup x = some .local) :
    PS X (.AugAssign (.Name x p) op e pos) (tS c (.aug i op ia)) := by
  have hip : PIp X op (ipI fun i j => match op with
    | .Add => i + j
    | _ => i - j) := by
    rcases ho with rfl | rfl
    · exact ip_add
    · exact ip_sub
  refine (ps_aug hN hi hx he hip hf).imp fun D σ H ⟨F, env, E, q⟩ => ?_
  unfold ex at q
  cases h : slot env i with
  | none => rw [h] at q; exact q.elim
  | some x0 =>
    rw [h] at q
    obtain ⟨w0, hw0, r0⟩ := E.val i x0 h
    refine ⟨w0, hw0, F, env, E, X_bind q fun y v F1 H1 env1 E1 S1 r1 h1 => ?_⟩
    have key : ∀ m n : Int, x0.d = .int m → y.d = .int n → w0 = .int m ∧ v = .int n := fun m n e1 e2 => by
      have d0 := r0.data
      have d1 := r1.1.data
      rw [e1] at d0
      rw [e2] at d1
      exact ⟨d0.int, d1.int⟩
    have fin : ∀ z : Int, XRes c σ F H env (setV c.io i ⟨.int z, false⟩ env1) D → D.nx (σ.set i (some (.int z))) H1 := fun z hz => by
      unfold setV at hz
      split at hz
      · exact hz.elim
      · rename_i hn
        exact hz _ F1 H1 (aft_set E1 S1 (fun z => hn (.inl z)) (ValR.of_rep .int) fun z => nomatch z)
    rcases ho with rfl | rfl
    · split at h1
      · rename_i m n e1 e2
        obtain ⟨k1, k2⟩ := key _ _ e1 e2
        exact ⟨_, _, k1, k2, fin _ h1⟩
      · rename_i z _ _; cases z
      · exact h1.elim
    · split at h1
      · rename_i z _ _; cases z
      · rename_i m n e1 e2
        obtain ⟨k1, k2⟩ := key _ _ e1 e2
        exact ⟨_, _, k1, k2, fin _ h1⟩
      · exact h1.elim
theorem ss_for {iter : Expr} {body : List Stmt} {ib : ISs} {t : IT} {k : ItK} (hp : PassesOwn (model X.prog X.w) X.A X.env X.xe) (hc : X.calm = true) (hi : PI X tg iter (tI c k as)) (hg : PG X tg (gT c t)) (hb : PSs X body (tSs c ib))
    (hs : ∀ x, foldedSetIterable iter X.env x = pure x) : PS X (.For tg iter body [] pos) (tS c (.loop t k as ib)) := by
  refine (ps_for hp hc hi hg hb hs).imp fun D σ H ⟨F, env, E, q⟩ => ⟨F, env, E, ?_⟩
  unfold ex at q
  refine X_bind q fun items J F1 H1 env1 E1 S1 wk h1 => ?_
  generalize ht : (fun d e => match asgT c.io t d e with
        | some e => exs c.Φ c.io ib e
        | none => Xr.stuck) = tn at h1
  refine ⟨fun i m σ H => i + m = items.length ∧ ∃ F env, Sub F1 F ∧ EnvR c.nm F H σ env ∧ XRes c σ F H env (forL tn (items.drop i) env) D, ⟨items.length, by omega, F1, env1, Sub.refl _, E1, by rw [List.drop_zero]; exact XRes.shift h1 (Aft.of E1 S1)⟩, fun i m σ2 H2 ⟨hm, F2, env2, sb, E2, h2⟩ => ?_⟩
  by_cases hl : items.length ≤ i
  · refine .inl ⟨wk.stop i F2 H2 sb E2.le hl, ?_⟩
    rw [List.drop_eq_nil_of_le hl] at h2
    exact h2 σ2 F2 H2 (Aft.refl E2)
  · have hl : i < items.length := by omega
    refine .inr ⟨wk.go i F2 H2 sb E2.le hl, fun σ3 H3 => (i + 1) + (m - 1) = items.length ∧ ∃ F env, Sub F1 F ∧ EnvR c.nm F H3 σ3 env ∧ XRes c σ3 F H3 env (forL tn (items.drop (i + 1)) env) D, fun σ' H' n => ⟨m - 1, by omega, n⟩, fun x H3 y => ?_⟩
    rw [List.drop_eq_getElem_cons hl] at h2
    obtain ⟨F3, ext, rep⟩ := wk.yld i items[i] F2 H2 x H3 sb E2.le (List.getElem?_eq_getElem hl) y
    have E3 := E2.ext ext
    have A3 : Aft c σ2 F2 H2 env2 σ2 F3 H3 env2 := Aft.of E3 (Ext.stp ext)
    unfold forL at h2
    rw [← ht] at h2
    simp only at h2
    cases h4 : asgT c.io t items[i] env2 with
    | none => rw [h4] at h2; exact h2.elim
    | some env4 =>
      rw [h4] at h2
      refine ⟨F3, env2, items[i], env4, E3, rep, h4, fun σ4 ⟨E4, a1, a2, a3, _⟩ => ⟨F3, env4, E4, ?_⟩⟩
      have A4 : Aft c σ2 F2 H2 env2 σ4 F3 H3 env4 := A3.trans ⟨E4, ⟨Sub.refl _, fun _ h => .inl h, fun _ _ h _ _ => h, fun a h => .inl (a2 a h), fun _ h => h, fun _ h => .inl h⟩, a3⟩
      simp only at h2
      cases h5 : exs c.Φ c.io ib env4 with
      | nx e =>
        rw [h5] at h2
        exact fun σ5 F5 H5 a5 => ⟨by omega, F5, e, (sb.trans A4.step.sub).trans a5.step.sub, a5.er, by rw [ht] at h2; exact XRes.shift h2 (A4.trans a5)⟩
      | ct e =>
        rw [h5] at h2
        exact fun σ5 F5 H5 a5 => ⟨by omega, F5, e, (sb.trans A4.step.sub).trans a5.step.sub, a5.er, by rw [ht] at h2; exact XRes.shift h2 (A4.trans a5)⟩
      | bk e =>
        rw [h5] at h2
        exact fun σ5 F5 H5 a5 => h2 σ5 F5 H5 (A4.trans a5)
      | rt x e => rw [h5] at h2; exact XRes.shift (D := D) h2 A4
      | exc x e => rw [h5] at h2; exact XRes.shift (D := D) h2 A4
      | stuck => rw [h5] at h2; exact h2
/-- with one more name that keeps its thing -/
abbrev _root_.MT.Sx.keep (c : Sx) (i : Nat) : Sx := { c with io := i :: c.io }
theorem Aft.unkeep {i : Nat} {σ' : St} {F' H' : Hp} {e : MT.Env} {env : MT.Env} (a : Aft (c.keep i) σ F H env σ' F' H' e) : Aft c σ F H env σ' F' H' e := ⟨a.er, a.step, fun j hj => a.io j (List.mem_cons_of_mem _ hj)⟩
theorem XRes.keep {i : Nat} {r : Xr} {env : MT.Env} {D : Ends} (h : XRes c σ F H env r D) : XRes (c.keep i) σ F H env r D := by
  cases r with
  | nx e => exact fun σ' F' H' a => h σ' F' H' a.unkeep
  | bk e => exact fun σ' F' H' a => h σ' F' H' a.unkeep
  | ct e => exact fun σ' F' H' a => h σ' F' H' a.unkeep
  | rt x e => exact fun σ' F' H' w a rr => h σ' F' H' w a.unkeep ⟨rr.1, fun o p q => ⟨(rr.2 o p q).1, fun j hj => (rr.2 o p q).2 j (List.mem_cons_of_mem _ hj)⟩⟩
  | exc x e => exact fun σ' F' H' cls dd a q => h σ' F' H' cls dd a.unkeep q
  | stuck => exact h
theorem ss_while {body : List Stmt} {ib : ISs} (hp : PassesOwn (model X.prog X.w) X.A X.env X.xe) (hc : PT X a (tT c ia)) (hb : PSs X body (tSs c ib)) : PS X (.While a body [] pos) (tS c (.whl ia ib)) := by
  refine (ps_while hp hc hb).imp fun D σ H ⟨F, env, E, q⟩ => ?_
  unfold ex at q
  refine ⟨fun m σ H => ∃ F env, EnvR c.nm F H σ env ∧ XRes c σ F H env (whileL (ev c.Φ c.io ia) (exs c.Φ c.io ib) m env) D, ⟨c.Φ.wf, F, env, E, q⟩, fun m σ2 H2 ⟨F2, env2, E2, h2⟩ => ?_⟩
  cases m with
  | zero => exact h2.elim
  | succ m =>
    unfold whileL at h2
    refine ⟨F2, env2, E2, ?_⟩
    show Res c σ2 F2 H2 env2 (rlB σ2) (bR (ev c.Φ c.io ia env2)) _
    unfold bR
    cases h : ev c.Φ c.io ia env2 with
    | ok v env3 =>
      rw [h] at h2
      show Res c σ2 F2 H2 env2 (rlB σ2) (boolR v fun b => .ok b env3) _
      unfold boolR
      have h2 : XRes c σ2 F2 H2 env2 (match v.d with
        | .bl true => (match exs c.Φ c.io ib env3 with
          | .nx e => whileL (ev c.Φ c.io ia) (exs c.Φ c.io ib) m e
          | .ct e => whileL (ev c.Φ c.io ia) (exs c.Φ c.io ib) m e
          | .bk e => .nx e
          | r => r)
        | .bl false => .nx env3
        | _ => .stuck) D := h2
      cases hd : v.d with
      | bl b =>
        rw [hd] at h2
        intro F3 H3 b' E3 S3 e
        have e : b = b' := e
        subst e
        have A3 : Aft c σ2 F2 H2 env2 σ2 F3 H3 env3 := Aft.of E3 S3
        cases b with
        | false => exact h2 σ2 F3 H3 A3
        | true =>
          refine ⟨fun σ H => ∃ F env, EnvR c.nm F H σ env ∧ XRes c σ F H env (whileL (ev c.Φ c.io ia) (exs c.Φ c.io ib) m env) D, fun σ' H' n => ⟨m, Nat.lt_succ_self m, n⟩, F3, env3, E3, ?_⟩
          simp only at h2
          cases h5 : exs c.Φ c.io ib env3 with
          | nx e =>
            rw [h5] at h2
            exact fun σ5 F5 H5 a5 => ⟨F5, e, a5.er, XRes.shift h2 (A3.trans a5)⟩
          | ct e =>
            rw [h5] at h2
            exact fun σ5 F5 H5 a5 => ⟨F5, e, a5.er, XRes.shift h2 (A3.trans a5)⟩
          | bk e =>
            rw [h5] at h2
            exact fun σ5 F5 H5 a5 => h2 σ5 F5 H5 (A3.trans a5)
          | rt x e => rw [h5] at h2; exact XRes.shift (D := D) h2 A3
          | exc x e => rw [h5] at h2; exact XRes.shift (D := D) h2 A3
          | stuck => rw [h5] at h2; exact h2
      | _ => rw [hd] at h2; exact h2.elim
    | exc x env3 =>
      rw [h] at h2
      exact fun F1 H1 cls dd E1 S1 r1 => h2 σ2 F1 H1 cls dd (Aft.of E1 S1) r1
    | stuck => rw [h] at h2; exact h2
end
end MT
namespace MT
open PySem PySem.Spec PyProof.Rows L2
section
variable {X : Cx} {c : Sx} {e a b o tg : Expr} {es : List Expr} {ia ib ic ik : IE} {as : IEs} {pos : Pos} {σ σ1 : St} {F H F1 H1 : Hp} {env env1 : Env} {α β γ δ : Type} {D D' : Ends}
theorem key_rep {nm : Nm} {v : V} {d : MT.D} {k : Key} (r : DataR nm F H v d) (h : keyD d = some k) : v = kV k := by
  cases d with
  | int i => cases h; exact r.int
  | str x => cases h; exact r.str
  | _ => cases h
def rPut : TSet := fun o i v H Q => rSetL o i v H Q ∨ rSetD o i v H Q
theorem set_any (hu : X.A.units + 1 < cLine) : PSet X rPut := by
  intro pins s σ H o i v ov iv u Q I ro ri rv h
  rcases h with h | h
  · exact set_list pins s σ H o i v ov iv u Q I ro ri rv h
  · exact set_dict hu pins s σ H o i v ov iv u Q I ro ri rv h
theorem slot_wipeE : ∀ (is : List Nat) {env : Env} {j : Nat}, slot (wipeE env is) j = if j ∈ is then none else slot env j
  | [], env, j => by rw [if_neg (by simp)]; rfl
  | i :: is, env, j => by
    show slot (wipeE (env.set i none) is) j = _
    rw [slot_wipeE is, slot_set]
    by_cases h1 : j ∈ is
    · rw [if_pos h1, if_pos (List.mem_cons_of_mem _ h1)]
    · rw [if_neg h1]
      by_cases h2 : i = j
      · subst h2
        rw [if_pos List.mem_cons_self]
        by_cases h3 : i < env.length
        · rw [if_pos ⟨rfl, h3⟩]
        · rw [if_neg fun z => h3 z.2]
          cases h4 : slot env i with
          | none => rfl
          | some x => exact absurd (slot_lt h4) h3
      · rw [if_neg fun z => h2 z.1, if_neg]
        intro z
        rcases List.mem_cons.mp z with z | z
        · exact h2 z.symm
        · exact h1 z
theorem slot_backE (old : Env) : ∀ (is : List Nat) {env : Env} {j : Nat}, (∀ i ∈ is, i < env.length) → slot (backE env old is) j = if j ∈ is then slot old j else slot env j
  | [], env, j, _ => by rw [if_neg (by simp)]; rfl
  | i :: is, env, j, hl => by
    show slot (backE (env.set i (slot old i)) old is) j = _
    rw [slot_backE old is (fun k hk => by rw [set_len]; exact hl k (List.mem_cons_of_mem _ hk)), slot_set]
    by_cases h1 : j ∈ is
    · rw [if_pos h1, if_pos (List.mem_cons_of_mem _ h1)]
    · rw [if_neg h1]
      by_cases h2 : i = j
      · subst h2
        rw [if_pos List.mem_cons_self, if_pos ⟨rfl, hl i List.mem_cons_self⟩]
      · rw [if_neg fun z => h2 z.1, if_neg]
        intro z
        rcases List.mem_cons.mp z with z | z
        · exact h2 z.symm
        · exact h1 z
theorem wipeE_len : ∀ (is : List Nat) {env : Env}, (wipeE env is).length = env.length
  | [], _ => rfl
  | i :: is, env => by show (wipeE (env.set i none) is).length = _; rw [wipeE_len is, set_len]
theorem backE_len (old : Env) : ∀ (is : List Nat) {env : Env}, (backE env old is).length = env.length
  | [], _ => rfl
  | i :: is, env => by show (backE (env.set i (slot old i)) old is).length = _; rw [backE_len old is, set_len]
theorem wipeE_st : ∀ (is : List Nat) {env : Env}, (wipeE env is).st = env.st
  | [], _ => rfl
  | i :: is, env => by show (wipeE (env.set i none) is).st = _; rw [wipeE_st is]; rfl
theorem backE_st (old : Env) : ∀ (is : List Nat) {env : Env}, (backE env old is).st = env.st
  | [], _ => rfl
  | i :: is, env => by show (backE (env.set i (slot old i)) old is).st = _; rw [backE_st old is]; rfl
theorem wipe_in {i : Nat} : ∀ {vs : List Nat}, i ∈ vs → i < σ.length → (wipe σ vs)[i]? = some none
  | [], h, _ => by cases h
  | v :: vs, h, hl => by
    unfold wipe
    by_cases e : v = i
    · subst e
      exact List.getElem?_set_self (by rw [wipe_length]; exact hl)
    · rw [List.getElem?_set_ne e]
      rcases List.mem_cons.mp h with z | z
      · exact absurd z.symm e
      · exact wipe_in z hl
theorem wipe_at {i : Nat} {vs : List Nat} : (wipe σ vs)[i]? = if i ∈ vs ∧ i < σ.length then some none else σ[i]? := by
  by_cases h : i ∈ vs
  · by_cases hl : i < σ.length
    · rw [if_pos ⟨h, hl⟩, wipe_in h hl]
    · rw [if_neg fun z => hl z.2, List.getElem?_eq_none (by rw [wipe_length]; omega), List.getElem?_eq_none (by omega)]
  · rw [if_neg fun z => h z.1, wipe_out h]
theorem wipe_again {σ2 : St} {vs : List Nat} (hl : σ2.length = (wipe σ vs).length) (h : ∀ j, j ∉ vs → σ2[j]? = (wipe σ vs)[j]?) : wipe σ2 vs = wipe σ vs := by
  refine List.ext_getElem? fun j => ?_
  rw [wipe_length] at hl
  rw [wipe_at, wipe_at, hl]
  by_cases h1 : j ∈ vs
  · by_cases h2 : j < σ.length
    · rw [if_pos ⟨h1, h2⟩, if_pos ⟨h1, h2⟩]
    · rw [if_neg fun z => h2 z.2, if_neg fun z => h2 z.2, List.getElem?_eq_none (by omega), List.getElem?_eq_none (by omega)]
  · rw [if_neg fun z => h1 z.1, if_neg fun z => h1 z.1, h j h1, wipe_out h1]
theorem ow_wipe {is : List Nat} {x : Addr} (h : Ow (wipe σ is) (wipeE env is) x) : Ow σ env x := by
  obtain ⟨j, y, hy, oy, hj⟩ := h
  rw [slot_wipeE] at hy
  split at hy
  · cases hy
  · rename_i hn
    rw [wipe_out hn] at hj
    exact ⟨j, y, hy, oy, hj⟩
theorem EnvR.wipe {nm : Nm} (E : EnvR nm F H σ env) (is : List Nat) : EnvR nm F H (L2.wipe σ is) (wipeE env is) where
  len := by rw [wipe_length, wipeE_len]; exact E.len
  le := E.le
  val := fun j y hy => by
    rw [slot_wipeE] at hy
    split at hy
    · cases hy
    · rename_i hn
      obtain ⟨v, hv, r⟩ := E.val j y hy
      exact ⟨v, by rw [wipe_out hn]; exact hv, r⟩
  sep := fun j k y z p hy hz oy oz h1 h2 => by
    rw [slot_wipeE] at hy hz
    split at hy
    · cases hy
    · split at hz
      · cases hz
      · rename_i n1 n2
        rw [wipe_out n1] at h1
        rw [wipe_out n2] at h2
        exact E.sep j k y z p hy hz oy oz h1 h2
  cel := by rw [wipeE_st]; exact E.cel
  base := E.base
/-- the old slots again -/
theorem EnvR.back {nm : Nm} {is : List Nat} {eEnd : Env} (E1 : EnvR nm F1 H1 σ env1) (E : EnvR nm F H (L2.wipe σ is) eEnd) (S : Step (Ow (L2.wipe σ is) (wipeE env1 is)) F1 H1 (Ow (L2.wipe σ is) eEnd) F H) (hl : ∀ i ∈ is, i < σ.length) :
    EnvR nm F H σ (backE eEnd env1 is) ∧ Step (Ow σ env1) F1 H1 (Ow σ (backE eEnd env1 is)) F H ∧ ∀ a, Ow σ (backE eEnd env1 is) a → Ow σ env1 a ∨ Ow (L2.wipe σ is) eEnd a := by
  have hle : ∀ i ∈ is, i < eEnd.length := fun i hi => by rw [← E.len, wipe_length]; exact hl i hi
  have own1 : ∀ {j x a}, j ∈ is → slot env1 j = some x → x.own = true → σ[j]? = some (some (.ref a)) → ¬ Ow (L2.wipe σ is) (wipeE env1 is) a := fun {j x a} hj hx ho hs z => by
    obtain ⟨k, y, hy, oy, hk⟩ := z
    rw [slot_wipeE] at hy
    split at hy
    · cases hy
    · rename_i hn
      rw [wipe_out hn] at hk
      have := E1.sep j k x y a hx hy ho oy hs hk
      exact hn (this ▸ hj)
  have own2 : ∀ {a}, Ow σ (backE eEnd env1 is) a → Ow σ env1 a ∨ Ow (L2.wipe σ is) eEnd a := fun {a} ⟨j, y, hy, oy, hj⟩ => by
    rw [slot_backE env1 is hle] at hy
    split at hy
    · exact .inl ⟨j, y, hy, oy, hj⟩
    · rename_i hn
      exact .inr ⟨j, y, hy, oy, by rw [wipe_out hn]; exact hj⟩
  have own3 : ∀ {a}, Ow (L2.wipe σ is) eEnd a → Ow σ env1 a ∨ H1 a = none := fun {a} h => by
    rcases S.les a h with z | z
    · exact .inl (ow_wipe z)
    · exact .inr z
  refine ⟨⟨by rw [backE_len, ← E.len, wipe_length], E.le, fun j y hy => ?_, fun j k y z p hy hz oy oz h1 h2 => ?_, by rw [backE_st]; exact E.cel, E.base⟩, ⟨S.sub, fun a ha => ?_, fun a o ha na nm => S.keep a o ha (fun z => na (ow_wipe z)) nm, fun a ha => ?_, S.there, fun a ha => (S.mrk a ha).imp id (.imp id ow_wipe)⟩, fun a => own2⟩
  · rw [slot_backE env1 is hle] at hy
    split at hy
    · rename_i hj
      obtain ⟨v, hv, r⟩ := E1.val j y hy
      exact ⟨v, hv, r.step S fun o a e => own1 hj hy o (by rw [← e]; exact hv)⟩
    · rename_i hj
      obtain ⟨v, hv, r⟩ := E.val j y hy
      rw [wipe_out hj] at hv
      exact ⟨v, hv, r⟩
  · rw [slot_backE env1 is hle] at hy hz
    split at hy <;> split at hz
    · exact E1.sep j k y z p hy hz oy oz h1 h2
    · rename_i n1 n2
      have o1 : Ow (L2.wipe σ is) eEnd p := ⟨k, z, hz, oz, by rw [wipe_out n2]; exact h2⟩
      rcases S.les p o1 with q | q
      · exact absurd q (own1 n1 hy oy h1)
      · exact absurd q (E1.ow_some ⟨j, y, hy, oy, h1⟩)
    · rename_i n1 n2
      have o1 : Ow (L2.wipe σ is) eEnd p := ⟨j, y, hy, oy, by rw [wipe_out n1]; exact h1⟩
      rcases S.les p o1 with q | q
      · exact absurd q (own1 n2 hz oz h2)
      · exact absurd q (E1.ow_some ⟨k, z, hz, oz, h2⟩)
    · rename_i n1 n2
      exact E.sep j k y z p hy hz oy oz (by rw [wipe_out n1]; exact h1) (by rw [wipe_out n2]; exact h2)
  · rcases S.new a ha with z | z | z
    · exact .inl z
    · exact .inr (.inl z)
    · exact .inr (.inr (ow_wipe z))
  · rcases own2 ha with z | z
    · exact .inl z
    · exact own3 z
theorem lcL_ok {own : List Nat} {t : MT.D → Env → MT.R (Option MT.D)} : ∀ (ds : List MT.D) (e : Env), (∃ r e', lcL own t ds e = .ok r e') ∨ lcL own t ds e = .stuck
  | [], e => .inl ⟨_, _, rfl⟩
  | d :: ds, e => by
    unfold lcL
    cases h : t d e with
    | ok o e1 =>
      rcases lcL_ok (own := own) (t := t) ds (wipeE e1 own) with ⟨r, e', h2⟩ | h2
      · exact .inl ⟨_, _, by simp only [h2]; rfl⟩
      · exact .inr (by simp only [h2]; rfl)
    | _ => exact .inr rfl
theorem lcL_cons {own : List Nat} {t : MT.D → Env → MT.R (Option MT.D)} {d : MT.D} {ds : List MT.D} {e eT eEnd : Env} {o : Option MT.D} {rest : List MT.D} (h1 : t d e = .ok o eT) (h : lcL own t (d :: ds) e = .ok rest eEnd) :
    ∃ r, lcL own t ds (wipeE eT own) = .ok r eEnd ∧ rest = o.toList ++ r := by
  unfold lcL at h
  rw [h1] at h
  rcases lcL_ok (own := own) (t := t) ds (wipeE eT own) with ⟨r, e', h2⟩ | h2
  · simp only [h2] at h
    cases o with
    | none => cases h; exact ⟨r, h2, rfl⟩
    | some y => cases h; exact ⟨r, h2, rfl⟩
  · simp only [h2] at h; cases h
abbrev _root_.MT.Sx.blk (c : Sx) : Sx := { c with W := fun _ _ _ _ => False }
def tTs (c : Sx) (ifs : IEs) : TT := tR c rlB fun e => evt c.Φ c.io ifs e
theorem sts_nil : PTs X [] (tTs c .nil) := ⟨fun pins s σ H Q I ⟨F, env, E, q⟩ => pts_nil.run pins s σ H Q I (q F H true E Step.refl rfl)⟩
theorem sts_one (h : PT X a (tT c ia)) : PTs X [a] (tTs c (.cons ia .nil)) := pts_one h
def turnE (c : Sx) (tg : IT) (ifs : IEs) (elt : IE) : MT.D → Env → MT.R (Option MT.D) := fun d en => match asgT c.io tg d en with
  | some en => (evt c.Φ c.io ifs en).bind fun b en => if b = true then (ev c.Φ c.io elt en).bind fun v en => .ok (some v.d) en else .ok none en
  | none => .stuck
theorem At.nofrz {nm : Nm} {F H : Hp} {a : Addr} {d : MT.D} (h : At nm F H a d) {o : Obj} {u : HO} : ¬ (H a = Option.some (HO.frz o u)) := fun z => by
  cases d with
  | lst _ => obtain ⟨_, h, _⟩ := h; rw [h] at z; cases z
  | dK _ => obtain ⟨_, h, _⟩ := h; rw [h] at z; cases z
  | dT _ => obtain ⟨_, h, _⟩ := h; rw [h] at z; cases z
  | obj _ _ => obtain ⟨_, _, h, _⟩ := h; rw [h] at z; cases z
  | _ => exact h.elim
/-- what is locked is neither one's own nor a cell -/
theorem EnvR.kpf {nm : Nm} {S' : AS} (E : EnvR nm F H σ env) {σ1 : St} {env1 : Env} (hs : ∀ a, Ow σ1 env1 a → Ow σ env a) (S : Step (Ow σ1 env1) F H S' F1 H1) : Kpf H H1 := fun a o u h => by
  refine S.keep a _ h (fun z => ?_) fun z => ?_
  · obtain ⟨i, x, hx, ho, hi⟩ := hs a z
    obtain ⟨v, hv, r⟩ := E.val i x hx
    rw [hi] at hv; cases hv
    unfold ValR at r
    rw [if_pos ho] at r
    obtain ⟨b, q, _, at0⟩ := r
    cases q
    exact at0.nofrz h
  · obtain ⟨n, z⟩ := z
    have := E.cel.lt a n z
    have e := List.getElem?_eq_getElem this
    exact (E.cel.data z e).nofrz h
theorem lc_go {tg : IT} {ifs : IEs} {elt : IE} {own : List Nat} {J : It} {items : List MT.D} (hv : ∀ j ∈ tg.vars, j ∈ own) {Q : VK} (E1 : EnvR c.nm F1 H1 σ env1) (S1 : Step (Ow σ env) F H (Ow σ env1) F1 H1) (wk : WkL c.nm F1 H1 items J)
    (h1 : Res c σ F H env (rlV c.nm σ) (if items.length < lineD ∧ (∀ i ∈ own, i ∉ c.io ∧ i < env1.length) then (lcL own (turnE c tg ifs elt) items (wipeE env1 own)).bind fun ds e2 => .ok ⟨.lst ds, true⟩ (backE e2 env1 own) else .stuck) Q) :
    tLc (fun _ H R => R J H) (gT c.blk tg) (tTs c.blk ifs) (tE c.blk elt) own σ H1 Q := by
  have kp : ∀ {S2 : AS} {F2 H2 : Hp}, Step (Ow (L2.wipe σ own) (wipeE env1 own)) F1 H1 S2 F2 H2 → Kpf H1 H2 := fun s => E1.kpf (fun a z => ow_wipe z) s
  intro Dd hDd
  split at h1
  · rename_i hc
    have hN : ∀ i ∈ own, i < σ.length := fun i hi => by rw [E1.len]; exact (hc.2 i hi).2
    change Res c σ F H env (rlV c.nm σ) ((lcL own (turnE c tg ifs elt) items (wipeE env1 own)).bind fun ds e2 => .ok ⟨.lst ds, true⟩ (backE e2 env1 own)) Q at h1
    rcases lcL_ok (own := own) (t := turnE c tg ifs elt) items (wipeE env1 own) with ⟨dsAll, eEnd, hL⟩ | hL
    · rw [hL] at h1
      have fpD : F1 Dd = none := by
        cases h : F1 Dd with
        | none => rfl
        | some u => exact absurd hDd (E1.le Dd u h).ne
      have npD : ¬ Ow σ env1 Dd := fun z => E1.ow_some z hDd
      refine ⟨fun i m H => i + m = items.length ∧ ∃ F env acc ds0 rest, EnvR c.nm F H (L2.wipe σ own) env ∧ Step (Ow (L2.wipe σ own) (wipeE env1 own)) F1 H1 (Ow (L2.wipe σ own) env) F H ∧ H Dd = some (.lst acc) ∧ F Dd = none ∧ ¬ Ow (L2.wipe σ own) env Dd ∧
          RepL c.nm F acc ds0 ∧ acc.length ≤ i ∧ lcL own (turnE c tg ifs elt) (items.drop i) env = .ok rest eEnd ∧ ds0 ++ rest = dsAll, ⟨items.length, by omega, F1, wipeE env1 own, [], [], dsAll, ?_, ?_, upd_same, fpD, fun z => npD (ow_wipe z), .nil, by simp, by rw [List.drop_zero]; exact hL, rfl⟩, ?_⟩
      · exact (E1.at_free fpD npD).wipe own
      · exact Step.mk5 (Sub.refl _) (fun _ h => .inl h) (fun a o ha _ _ => by rw [upd_ne (ne_of_none ha hDd)]; exact ha) (fun _ h => .inl h) (fun a ha => by
          by_cases e : a = Dd
          · subst e; exact hDd
          · rw [upd_ne e] at ha; exact ha)
      · intro i m H2 ⟨hm, F2, env2, acc, ds0, rest, E2, S2, hD2, fD2, nD2, rr, hacc, hL2, hall⟩
        by_cases hlen : items.length ≤ i
        · refine .inl ⟨wk.stop i F2 H2 S2.sub E2.le (kp S2) hlen, ?_⟩
          rw [List.drop_eq_nil_of_le hlen] at hL2
          unfold lcL at hL2
          cases hL2
          obtain ⟨E3, S3, o3⟩ := EnvR.back E1 E2 S2 hN
          have hall : ds0 = dsAll := by simpa using hall
          subst hall
          exact h1 F2 H2 (.ref Dd) E3 (S1.trans S3) ⟨⟨Dd, rfl, fD2, acc, hD2, rr⟩, fun _ p e => by
            cases e
            exact ⟨S1.there _ hDd, fun z => (o3 _ z).elim npD nD2⟩⟩
        · have hlen : i < items.length := by omega
          refine .inr ⟨wk.go i F2 H2 S2.sub E2.le (kp S2) hlen, fun H => (i + 1) + (m - 1) = items.length ∧ ∃ F env acc ds0 rest, EnvR c.nm F H (L2.wipe σ own) env ∧ Step (Ow (L2.wipe σ own) (wipeE env1 own)) F1 H1 (Ow (L2.wipe σ own) env) F H ∧ H Dd = some (.lst acc) ∧ F Dd = none ∧ ¬ Ow (L2.wipe σ own) env Dd ∧
            RepL c.nm F acc ds0 ∧ acc.length ≤ i + 1 ∧ lcL own (turnE c tg ifs elt) (items.drop (i + 1)) env = .ok rest eEnd ∧ ds0 ++ rest = dsAll, fun H' n => ⟨m - 1, by omega, n⟩, fun x H3 y => ?_⟩
          rw [List.drop_eq_getElem_cons hlen] at hL2
          obtain ⟨F3, ext, rep⟩ := wk.yld i items[i] F2 H2 x H3 S2.sub E2.le (kp S2) (List.getElem?_eq_getElem hlen) y
          have E3 := E2.ext ext
          have hD3 : H3 Dd = some (.lst acc) := ext.all Dd _ hD2
          -- what stays of the new list
          have stays : ∀ {S S' : AS} {Fa Ha Fb Hb : Hp}, Step S Fa Ha S' Fb Hb → Ha Dd = some (.lst acc) → Fa Dd = none → ¬ S Dd → Hb Dd = some (.lst acc) ∧ Fb Dd = none ∧ ¬ S' Dd := fun {S S' Fa Ha Fb Hb} s h1 h2 h3 => by
            refine ⟨s.keep Dd _ h1 h3 (fun ⟨_, z⟩ => by rw [h2] at z; cases z), ?_, fun z => ?_⟩
            · cases h : Fb Dd with
              | none => rfl
              | some u =>
                rcases s.new Dd (by rw [h]; exact fun z => nomatch z) with z | z | z
                · exact absurd h2 z
                · exact absurd z (Nw.not h1 fun _ z => nomatch z)
                · exact absurd z h3
            · rcases s.les Dd z with z | z
              · exact h3 z
              · rw [h1] at z; cases z
          obtain ⟨_, fD3, _⟩ := stays ext.step hD2 fD2 id
          cases hT : turnE c tg ifs elt items[i] env2 with
          | stuck => unfold lcL at hL2; rw [hT] at hL2; cases hL2
          | exc _ _ => unfold lcL at hL2; rw [hT] at hL2; cases hL2
          | ok ov eT =>
            obtain ⟨r6, h6, hrest⟩ := lcL_cons hT hL2
            unfold turnE at hT
            cases hA : asgT c.io tg items[i] env2 with
            | none => rw [hA] at hT; cases hT
            | some env4 =>
              rw [hA] at hT
              simp only at hT
              refine ⟨F3, env2, items[i], env4, E3, rep, hA, fun σ4 ⟨E4, a1, a2, a3, a4⟩ => ⟨wipe_again (by rw [a4, wipe_length]) fun j hj => ?_, F3, env4, E4, ?_⟩⟩
              · exact a1 j fun z => hj (hv j z)
              have w4 : L2.wipe σ4 own = L2.wipe σ own := wipe_again (by rw [a4, wipe_length]) fun j hj => a1 j fun z => hj (hv j z)
              have S4 : Step (Ow (L2.wipe σ own) (wipeE env1 own)) F1 H1 (Ow σ4 env4) F3 H3 := (S2.trans (Ext.stp ext)).trans ⟨Sub.refl _, fun _ h => .inl h, fun _ _ h _ _ => h, fun a h => .inl (a2 a h), fun _ h => h, fun _ h => .inl h⟩
              have nD4 : ¬ Ow σ4 env4 Dd := fun z => nD2 (a2 _ z)
              show Res c.blk σ4 F3 H3 env4 (rlB σ4) (evt c.Φ c.io ifs env4) _
              cases hE : evt c.Φ c.io ifs env4 with
              | stuck => rw [hE] at hT; cases hT
              | exc _ _ => rw [hE] at hT; cases hT
              | ok bb env5 =>
                rw [hE] at hT
                have hT : (if bb = true then (ev c.Φ c.io elt env5).bind fun v en => MT.R.ok (some v.d) en else MT.R.ok none env5) = MT.R.ok ov eT := hT
                intro F5 H5 b' E5 S5 eb
                have eb : bb = b' := eb
                subst eb
                obtain ⟨hD5, fD5, nD5⟩ := stays S5 hD3 fD3 nD4
                have S15 := S4.trans S5
                cases bb with
                | false =>
                  rw [if_neg Bool.false_ne_true] at hT ⊢
                  obtain ⟨rfl, rfl⟩ : ov = none ∧ env5 = eT := by cases hT; exact ⟨rfl, rfl⟩
                  refine ⟨by omega, F5, wipeE env5 own, acc, ds0, r6, by rw [← w4]; exact E5.wipe own, ?_, hD5, fD5, fun z => nD5 (ow_wipe (by rw [w4]; exact z)), rr.mono (ext.step.sub.trans S5.sub), by omega, h6, by rw [← hall, hrest]; rfl⟩
                  exact S15.trans ⟨Sub.refl _, fun _ h => .inl h, fun _ _ h _ _ => h, fun a h => .inl (ow_wipe (by rw [w4]; exact h)), fun _ h => h, fun _ h => .inl h⟩
                | true =>
                  rw [if_pos rfl] at hT ⊢
                  refine ⟨F5, env5, E5, ?_⟩
                  show Res c.blk σ4 F5 H5 env5 (rlV c.nm σ4) (ev c.Φ c.io elt env5) _
                  cases hV : ev c.Φ c.io elt env5 with
                  | stuck => rw [hV] at hT; cases hT
                  | exc _ _ => rw [hV] at hT; cases hT
                  | ok v6 env6 =>
                    rw [hV] at hT
                    obtain ⟨rfl, rfl⟩ : ov = some v6.d ∧ env6 = eT := by cases hT; exact ⟨rfl, rfl⟩
                    intro F6 H6 y6 E6 S6 rv6
                    obtain ⟨hD6, fD6, nD6⟩ := stays S6 hD5 fD5 nD5
                    obtain ⟨F7, E7, rep7, sb7, le7, nw7⟩ := EnvR.shareV E6 rv6.1 fun o p e => (rv6.2 o p e).2
                    have fD7 : F7 Dd = none := by
                      cases h : F7 Dd with
                      | none => rfl
                      | some u =>
                        rcases nw7 Dd (by rw [h]; exact fun z => nomatch z) with z | z
                        · exact absurd fD6 z
                        · have := (rv6.2 z.1 Dd z.2).1
                          rw [hD5] at this; cases this
                    have S17 : Step (Ow (L2.wipe σ own) (wipeE env1 own)) F1 H1 (Ow σ4 env6) F7 H6 := (S15.trans S6).shared sb7 fun b hb => (nw7 b hb).imp id fun z => S15.there b (rv6.2 z.1 b z.2).1
                    refine ⟨acc, hD6, by rw [line_eq]; omega, by omega, F7, wipeE env6 own, acc ++ [y6], ds0 ++ [v6.d], r6, ?_, ?_, upd_same, fD7, fun z => nD6 (ow_wipe (by rw [w4]; exact z)), ?_, by rw [List.length_append, List.length_singleton]; omega, h6, by rw [← hall, hrest, List.append_assoc]; rfl⟩
                    · rw [← w4]
                      exact (EnvR.at_free E7 fD7 nD6).wipe own
                    · refine ⟨S17.sub, S17.new, fun a o ha na nm => ?_, fun a ha => S17.les a (ow_wipe (by rw [w4]; exact ha)), fun a ha => ?_, S17.mrk⟩
                      · rw [upd_ne (ne_of_none ha hDd)]; exact S17.keep a o ha na nm
                      · by_cases e : a = Dd
                        · subst e; exact hDd
                        · rw [upd_ne e] at ha; exact S17.there a ha
                    · exact (rr.mono (((ext.step.sub.trans S5.sub).trans S6.sub).trans sb7)).append (.cons rep7 .nil)
    · rw [hL] at h1; exact h1.elim
  · exact h1.elim
theorem lc_imp {tg : IT} {k : ItK} {ifs : IEs} {elt : IE} {own : List Nat} (hv : ∀ j ∈ tg.vars, j ∈ own) {Q : VK} (h : tE c (.lc own tg k as ifs elt) σ H Q) :
    tLc (tI c k as) (gT c.blk tg) (tTs c.blk ifs) (tE c.blk elt) own σ H Q := by
  obtain ⟨F, env, E, q⟩ := h
  refine ⟨F, env, E, ?_⟩
  unfold ev at q
  exact Res_bind q fun items J F1 H1 env1 E1 S1 wk h1 => lc_go hv E1 S1 (Wk.toL wk) h1
section
variable {elt iter : Expr} {ifsE : List Expr} {scope : Scope} {own : List (Str × Nat)} {t : IT} {k : ItK} {ifs : IEs} {ie : IE}
theorem s_lc (hc : X.calm = true) (hN : X.N.Nodup) (hi : PI X tg iter (tI c k as)) (ok : blkC X.N X.env.scope scope own = true)
    (hg : ∀ (s : Shared) (H : Hp) (C : Addr) (cl : List (Str × Addr)) (fp : List Addr), PG (X.blk s H scope (compEnvC scope cl C X.env) fp) tg (gT c.blk t)) (ht : ∀ (s : Shared) (H : Hp) (C : Addr) (cl : List (Str × Addr)) (fp : List Addr), PTs (X.blk s H scope (compEnvC scope cl C X.env) fp) ifsE (tTs c.blk ifs))
    (he : ∀ (s : Shared) (H : Hp) (C : Addr) (cl : List (Str × Addr)) (fp : List Addr), PE (X.blk s H scope (compEnvC scope cl C X.env) fp) elt (tE c.blk ie)) (hs : ∀ x, foldedSetIterable iter X.env x = pure x) (hv : ∀ j ∈ t.vars, j ∈ own.map (·.2)) :
    PE X (.ListComp elt [⟨tg, iter, ifsE, 0⟩] scope pos) (tE c (.lc (own.map (·.2)) t k as ifs ie)) :=
  (pe_lc hc hN hi (blkOk_by ok) hg ht he hs).imp fun σ H Q q => lc_imp hv q
theorem ss_setLc {i : Nat} {y : Str} {py spos : Pos} (hc : X.calm = true) (hN : X.N.Nodup) (hy : X.N[i]? = some y) (hyl : X.env.scope.names.lookup y = some .local)
    (hsw : swapsWith (.ListComp elt [⟨tg, iter, ifsE, 0⟩] scope pos) (some (.Name y py)) spos.line X.env = pure true) (hi : PI X tg iter (tI c k as)) (ok : blkC X.N X.env.scope scope own = true)
    (hg : ∀ (s : Shared) (H : Hp) (C : Addr) (cl : List (Str × Addr)) (fp : List Addr), PG (X.blk s H scope (compEnvC scope cl C X.env) fp) tg (gT c.blk t)) (ht : ∀ (s : Shared) (H : Hp) (C : Addr) (cl : List (Str × Addr)) (fp : List Addr), PTs (X.blk s H scope (compEnvC scope cl C X.env) fp) ifsE (tTs c.blk ifs))
    (he : ∀ (s : Shared) (H : Hp) (C : Addr) (cl : List (Str × Addr)) (fp : List Addr), PE (X.blk s H scope (compEnvC scope cl C X.env) fp) elt (tE c.blk ie)) (hs : ∀ x, foldedSetIterable iter X.env x = pure x) (hv : ∀ j ∈ t.vars, j ∈ own.map (·.2)) :
    PS X (.Assign [.Name y py] (.ListComp elt [⟨tg, iter, ifsE, 0⟩] scope pos) spos) (tS c (.asg (.nm i) (.lc (own.map (·.2)) t k as ifs ie))) := by
  refine (ps_setLc hc hN hy hyl hsw hi (blkOk_by ok) hg ht he hs).imp fun D σ H ⟨F, env, E, q⟩ => ?_
  refine lc_imp hv ⟨F, env, E, ?_⟩
  unfold ex at q
  refine X_bind q fun x v F1 H1 env1 E1 S1 r1 h1 => ?_
  unfold setV at h1
  split at h1
  · exact h1.elim
  · rename_i hn
    exact h1 _ F1 H1 (aft_set E1 S1 (fun z => hn (.inl z)) r1.1 r1.2)
end
end
end MT
namespace MT
open PySem PySem.Spec PyProof.Rows L2
section
variable {nm : Nm} {F H : Hp}
theorem io_pair : ∀ (n : Nat) (bs : List Bool) (vs : List V), bs.length ≤ vs.length → Paired (fun i v => n ≤ i ∧ vs[i - n]? = some v ∧ bs[i - n]? = some true) (ioIx n bs) (ioVs bs vs)
  | _, [], vs, _ => by cases vs <;> exact .nil
  | _, _ :: _, [], h => by simp at h
  | n, b :: bs, v :: vs, h => by
    have ih := io_pair (n + 1) bs vs (by simpa using h)
    have ih' : Paired (fun i w => n ≤ i ∧ (v :: vs)[i - n]? = some w ∧ (b :: bs)[i - n]? = some true) (ioIx (n + 1) bs) (ioVs bs vs) := Paired.mapP ih fun i w ⟨h1, h2, h3⟩ => by
      have e : i - n = (i - (n + 1)) + 1 := by omega
      exact ⟨by omega, by rw [e]; simpa using h2, by rw [e]; simpa using h3⟩
    cases b with
    | true => exact .cons ⟨Nat.le_refl _, by simp, by simp⟩ ih'
    | false => exact ih'
theorem argE_get : ∀ (bs : List Bool) (ds : List D) (i : Nat), (argsE bs ds)[i]? = ds[i]?.map fun d => some ⟨d, bs[i]?.getD false⟩
  | [], [], _ => by simp [argsE]
  | _ :: _, [], _ => by simp [argsE]
  | [], d :: ds, 0 => by simp [argsE]
  | [], d :: ds, i + 1 => by simp only [argsE, List.getElem?_cons_succ]; rw [argE_get [] ds i]; simp
  | b :: bs, d :: ds, 0 => by simp [argsE]
  | b :: bs, d :: ds, i + 1 => by simp only [argsE, List.getElem?_cons_succ]; rw [argE_get bs ds i]
theorem argE_len (bs : List Bool) (ds : List D) : (argsE bs ds).length = ds.length := by
  induction ds generalizing bs with
  | nil => cases bs <;> rfl
  | cons d ds ih => cases bs <;> simp [argsE, ih]
theorem argR_get : ∀ {bs : List Bool} {vs : List V} {ds : List D}, ArgR nm F H bs vs ds → vs.length = ds.length ∧ ∀ (i : Nat) d, ds[i]? = some d → ∃ v, vs[i]? = some v ∧ ValR nm F H v ⟨d, bs[i]?.getD false⟩
  | [], [], [], _ => ⟨rfl, fun i d h => by simp at h⟩
  | _ :: _, [], [], _ => ⟨rfl, fun i d h => by simp at h⟩
  | [], [], _ :: _, h => h.elim
  | _ :: _, [], _ :: _, h => h.elim
  | [], _ :: _, [], h => h.elim
  | _ :: _, _ :: _, [], h => h.elim
  | [], v :: vs, d :: ds, h => by
    obtain ⟨h1, h2⟩ := argR_get h.2
    refine ⟨by simp [h1], fun i e he => ?_⟩
    cases i with
    | zero => simp at he; subst he; exact ⟨v, rfl, ValR.of_rep h.1⟩
    | succ i =>
      obtain ⟨w, hw, r⟩ := h2 i e (by simpa using he)
      exact ⟨w, by simpa using hw, by simpa using r⟩
  | b :: bs, v :: vs, d :: ds, h => by
    obtain ⟨h1, h2⟩ := argR_get h.2
    refine ⟨by simp [h1], fun i e he => ?_⟩
    cases i with
    | zero => simp at he; subst he; exact ⟨v, rfl, h.1⟩
    | succ i =>
      obtain ⟨w, hw, r⟩ := h2 i e (by simpa using he)
      exact ⟨w, by simpa using hw, by simpa using r⟩
theorem paired_idx {α β : Type} {P : α → β → Prop} : ∀ {xs : List α} {ys : List β}, Paired P xs ys → ∀ {x : α}, x ∈ xs → ∃ (k : Nat) (y : β), xs[k]? = some x ∧ ys[k]? = some y ∧ P x y
  | _, _, .cons (a := a) (b := b) h t, x, hx => by
    rcases List.mem_cons.mp hx with rfl | hx
    · exact ⟨0, b, rfl, rfl, h⟩
    · obtain ⟨k, y, h1, h2, h3⟩ := paired_idx t hx
      exact ⟨k + 1, y, by simpa using h1, by simpa using h2, h3⟩
theorem ioIx_mem : ∀ (n : Nat) (bs : List Bool) (i : Nat), n ≤ i → bs[i - n]? = some true → i ∈ ioIx n bs
  | n, [], i, _, h => by simp at h
  | n, b :: bs, i, hn, h => by
    unfold ioIx
    by_cases e : i = n
    · subst e
      simp at h
      rw [if_pos h]
      exact List.mem_cons_self
    · have e2 : i - n = (i - (n + 1)) + 1 := by omega
      rw [e2] at h
      have := ioIx_mem (n + 1) bs i (by omega) (by simpa using h)
      split
      · exact List.mem_cons_of_mem _ this
      · exact this
theorem ioVs_mem {w : V} : ∀ (bs : List Bool) (vs : List V) (i : Nat), vs[i]? = some w → bs[i]? = some true → w ∈ ioVs bs vs
  | [], _, _, _, h => by simp at h
  | _ :: _, [], _, h, _ => by simp at h
  | b :: bs, v :: vs, 0, h1, h2 => by
    simp at h1 h2
    subst h1 h2
    exact List.mem_cons_self
  | b :: bs, v :: vs, i + 1, h1, h2 => by
    have := ioVs_mem bs vs i (by simpa using h1) (by simpa using h2)
    cases b with
    | true => exact List.mem_cons_of_mem _ this
    | false => exact this
theorem ioVs_pos : ∀ {bs : List Bool} {vs : List V} {i j : Nat} {v : V}, (ioVs bs vs).Nodup → vs[i]? = some v → vs[j]? = some v → bs[i]? = some true → bs[j]? = some true → i = j
  | [], _, _, _, _, _, _, _, h, _ => by simp at h
  | _ :: _, [], _, _, _, _, h, _, _, _ => by simp at h
  | b :: bs, v :: vs, i, j, w, nd, h1, h2, h3, h4 => by
    have mem : ∀ {i : Nat}, vs[i]? = some w → bs[i]? = some true → w ∈ ioVs bs vs := fun {i} => ioVs_mem bs vs i
    cases i with
    | zero =>
      simp at h1 h3
      subst h1 h3
      have nd : (v :: ioVs bs vs).Nodup := nd
      cases j with
      | zero => rfl
      | succ j => exact absurd (mem (by simpa using h2) (by simpa using h4)) (List.nodup_cons.mp nd).1
    | succ i =>
      cases j with
      | zero =>
        simp at h2 h4
        subst h2 h4
        have nd : (v :: ioVs bs vs).Nodup := nd
        exact absurd (mem (by simpa using h1) (by simpa using h3)) (List.nodup_cons.mp nd).1
      | succ j =>
        have nd' : (ioVs bs vs).Nodup := by
          cases b with
          | true => exact (List.nodup_cons.mp (show (v :: ioVs bs vs).Nodup from nd)).2
          | false => exact nd
        have := ioVs_pos nd' (i := i) (j := j) (by simpa using h1) (by simpa using h2) (by simpa using h3) (by simpa using h4)
        omega
end
section
variable {nm : Nm} {Φ Φ' : CT} {fi : DefI} {j : Nat} {N : List Str} {F H : Hp}
/-- the body's reading, out of the def's promise -/
theorem def_read (hcall : ∀ st ds, Φ'.call j st ds = runDef Φ fi st ds) (hio : Φ'.io j = fi.io) (hN : N.length = fi.nsl) {vs : List V} {Q : VK} {E : XK} (h : spD nm Φ' fi.nps j vs H Q E) :
    tSs ⟨nm, Φ, ioIx 0 fi.io, fun cls d _ H => E cls d H⟩ fi.body { nx := fun _ H' => Q .non H', rt := Q } (L2.start N vs) H := by
  obtain ⟨F, st, ds, hlen, le, cel0, base0, args, nd, h⟩ := h
  rw [hcall] at h
  rw [hio] at h args nd
  unfold runDef at h
  by_cases hc : ds.length = fi.nps ∧ fi.nps ≤ fi.nsl ∧ fi.io.length ≤ fi.nps
  case neg => rw [if_neg hc] at h; exact h.elim
  rw [if_pos hc] at h
  obtain ⟨c1, c2, c3⟩ := hc
  obtain ⟨a1, a2⟩ := argR_get args
  generalize he0 : (⟨argsE fi.io ds ++ List.replicate (fi.nsl - fi.nps) none, st⟩ : Env) = env0 at h
  have slot0 : ∀ i x, slot env0 i = some x → ∃ d, ds[i]? = some d ∧ x = ⟨d, fi.io[i]?.getD false⟩ := fun i x hx => by
    rw [← he0] at hx
    unfold slot at hx
    dsimp only at hx
    by_cases hi : i < ds.length
    · rw [List.getElem?_append_left (by rw [argE_len]; exact hi), argE_get, List.getElem?_eq_getElem hi] at hx
      simp only [Option.map_some, Option.some.injEq] at hx
      exact ⟨_, List.getElem?_eq_getElem hi, hx.symm⟩
    · rw [List.getElem?_append_right (by rw [argE_len]; omega), List.getElem?_replicate] at hx
      split at hx <;> rename_i q <;> split at q <;> cases q <;> cases hx
  have start_at : ∀ i v, vs[i]? = some v → (L2.start N vs)[i]? = some (some v) := fun i v hv => by
    unfold L2.start
    have hi := (List.getElem?_eq_some_iff.mp hv).1
    rw [List.getElem?_append_left (by simpa using hi), List.getElem?_map, hv]
    rfl
  have E0 : EnvR nm F H (L2.start N vs) env0 := by
    refine ⟨?_, le, fun i x hx => ?_, fun i k x y a hx hy ox oy h1 h2 => ?_, by rw [← he0]; exact cel0, base0⟩
    · rw [← he0]
      unfold L2.start Env.length
      simp only [List.length_append, List.length_map, List.length_replicate, argE_len]
      omega
    · obtain ⟨d, hd, rfl⟩ := slot0 i x hx
      obtain ⟨v, hv, r⟩ := a2 i d hd
      exact ⟨v, start_at i v hv, r⟩
    · obtain ⟨d, hd, rfl⟩ := slot0 i x hx
      obtain ⟨d2, hd2, rfl⟩ := slot0 k y hy
      obtain ⟨v, hv, _⟩ := a2 i d hd
      obtain ⟨v2, hv2, _⟩ := a2 k d2 hd2
      rw [start_at i v hv] at h1
      rw [start_at k v2 hv2] at h2
      cases h1; cases h2
      have b1 : fi.io[i]? = some true := by
        cases q : fi.io[i]? with
        | none => rw [q] at ox; cases ox
        | some b => rw [q] at ox; rw [show b = true from ox]
      have b2 : fi.io[k]? = some true := by
        cases q : fi.io[k]? with
        | none => rw [q] at oy; cases oy
        | some b => rw [q] at oy; rw [show b = true from oy]
      exact ioVs_pos nd hv hv2 b1 b2
  have iop := io_pair 0 fi.io vs (by omega)
  have ow_io : ∀ a, Ow (L2.start N vs) env0 a → ioS fi.io vs a := fun a ⟨i, x, hx, ox, hs⟩ => by
    obtain ⟨d, hd, rfl⟩ := slot0 i x hx
    obtain ⟨v, hv, _⟩ := a2 i d hd
    rw [start_at i v hv] at hs
    cases hs
    have b1 : fi.io[i]? = some true := by
      cases q : fi.io[i]? with
      | none => rw [q] at ox; cases ox
      | some b => rw [q] at ox; rw [show b = true from ox]
    obtain ⟨k, y, h1, h2, h3, h4, _⟩ := paired_idx iop (ioIx_mem 0 fi.io i (Nat.zero_le _) (by simpa using b1))
    rw [Nat.sub_zero, hv] at h4
    cases h4
    exact List.mem_of_getElem? h2
  have io_ow : ∀ a, ioS fi.io vs a → Ow (L2.start N vs) env0 a := fun a ha => by
    obtain ⟨i, hi, _, hv, hb⟩ := paired_mem iop (show V.ref a ∈ ioVs fi.io vs from ha)
    rw [Nat.sub_zero] at hv hb
    have hl : i < ds.length := by rw [← a1]; exact (List.getElem?_eq_some_iff.mp hv).1
    refine ⟨i, ⟨ds[i], true⟩, ?_, rfl, start_at i _ hv⟩
    rw [← he0]
    unfold slot
    dsimp only
    rw [List.getElem?_append_left (by rw [argE_len]; exact hl), argE_get, List.getElem?_eq_getElem hl, hb]
    rfl
  have stp : ∀ {σ' F' H' e}, Aft ⟨nm, Φ, ioIx 0 fi.io, fun cls d _ H => E cls d H⟩ (L2.start N vs) F H env0 σ' F' H' e → Step (ioS fi.io vs) F H (ioS fi.io vs) F' H' := fun {σ' F' H' e} A =>
    ⟨A.step.sub, fun b hb => (A.step.new b hb).imp id (.imp id (ow_io b)), fun b o hb nb nm => A.step.keep b o hb (fun z => nb (ow_io b z)) nm, fun _ h => .inl h, A.step.there, fun b hb => (A.step.mrk b hb).imp id (.imp id (ow_io b))⟩
  have outs_ok : ∀ {σ' F' H' e outs}, Aft ⟨nm, Φ, ioIx 0 fi.io, fun cls d _ H => E cls d H⟩ (L2.start N vs) F H env0 σ' F' H' e → outsE e (ioIx 0 fi.io) = some outs → Paired (Own nm F' H') (ioVs fi.io vs) outs := fun {σ' F' H' e outs} A ho => by
    have gen : ∀ (is : List Nat) (ws : List V) (outs : List D), Paired (fun i v => 0 ≤ i ∧ vs[i - 0]? = some v ∧ fi.io[i - 0]? = some true) is ws → (∀ i ∈ is, i ∈ ioIx 0 fi.io) → outsE e is = some outs → Paired (Own nm F' H') ws outs := by
      intro is ws outs p
      induction p generalizing outs with
      | nil => intro _ h; cases h; exact .nil
      | @cons i w is ws q p ih =>
        intro hm h
        unfold outsE at h
        split at h
        · rename_i d hs
          cases h2 : outsE e is with
          | none => rw [h2] at h; cases h
          | some outs2 =>
            rw [h2] at h; cases h
            refine .cons ?_ (ih outs2 (fun i hi => hm i (List.mem_cons_of_mem _ hi)) h2)
            obtain ⟨v, hv, r⟩ := A.er.val i _ hs
            have e1 := A.io i (hm i List.mem_cons_self)
            rw [hv, start_at i w (by simpa using q.2.1)] at e1
            cases e1
            exact r.ownR
        · cases h
    exact gen _ _ _ iop (fun i hi => hi) ho
  refine ⟨F, env0, E0, ?_⟩
  show XRes ⟨nm, Φ, ioIx 0 fi.io, fun cls d _ H => E cls d H⟩ (L2.start N vs) F H env0 (exs Φ (ioIx 0 fi.io) fi.body env0) _
  cases hx : exs Φ (ioIx 0 fi.io) fi.body env0 with
  | nx e =>
    rw [hx] at h
    dsimp only at h
    intro σ' F' H' A
    cases ho : outsE e (ioIx 0 fi.io) with
    | none => rw [ho] at h; exact h.elim
    | some outs =>
      rw [ho] at h
      dsimp only at h
      exact h F' H' .non A.er.le A.er.cel (stp A) (ValR.of_rep .non) (fun z => nomatch z) (outs_ok A ho)
  | rt x e =>
    rw [hx] at h
    dsimp only at h
    intro σ' F' H' w A R
    cases ho : outsE e (ioIx 0 fi.io) with
    | none => rw [ho] at h; exact h.elim
    | some outs =>
      rw [ho] at h
      dsimp only at h
      refine h F' H' w A.er.le A.er.cel (stp A) R.1 (fun o p ep => ?_) (outs_ok A ho)
      rcases (R.2 o p ep).1 with z | z
      · exact z
      · exfalso
        obtain ⟨i, hi, _, hv, hb⟩ := paired_mem iop (show V.ref p ∈ ioVs fi.io vs from ow_io p z)
        rw [Nat.sub_zero] at hv
        have own_at : ∀ (is : List Nat) (outs : List D), outsE e is = some outs → i ∈ is → ∃ d, slot e i = some ⟨d, true⟩ := by
          intro is
          induction is with
          | nil => intro _ _ h; cases h
          | cons k is ih =>
            intro outs h hm
            unfold outsE at h
            split at h
            · rename_i d hs
              rcases List.mem_cons.mp hm with rfl | hm
              · exact ⟨d, hs⟩
              · cases h2 : outsE e is with
                | none => rw [h2] at h; cases h
                | some o2 => exact ih o2 h2 hm
            · cases h
        obtain ⟨d, hs⟩ := own_at _ outs ho hi
        refine (R.2 o p ep).2 i hi _ hs rfl ?_
        rw [A.io i hi]
        exact start_at i _ hv
  | exc x e =>
    rw [hx] at h
    dsimp only at h
    intro σ' F' H' cls dd A r
    exact h F' H' cls dd A.er.le A.er.cel (stp A) r
  | bk e => rw [hx] at h; exact h.elim
  | ct e => rw [hx] at h; exact h.elim
  | stuck => rw [hx] at h; exact h.elim
/-- a def keeps its promise -/
theorem def_ok {P : Program} {w : World} {mg : Str → Option Value} {base : Heap} {k : Nat} {x qual : Str} {params : Arguments} {body : List Stmt} {scope : Scope} {f : Addr} {fd : FuncData} {ps : List Str} {dvs : List V} {kws : List (Str × V)} (Fd : FunD nm.K x qual params body scope dvs kws f fd) (S : FnScope N ps scope)
    (hcall : ∀ st ds, Φ'.call j st ds = runDef Φ fi st ds) (hio : Φ'.io j = fi.io) (hN : N.length = fi.nsl) (hps : ps.length = fi.nps)
    (hbody : ∀ (cdv : Value) (A : Around) (outer : List PySem.Env) (s : Shared) (H : Hp) (E : XK), Room k (A.deeper (envOfC qual scope s.heap.objs.size f cdv)) → Takes (cxOf (L2.CX P w) P w nm.K mg base N qual scope f cdv A outer s H E) (fun cls d _ H => E cls d H) →
      PassesOwn (model P w) (A.deeper (envOfC qual scope s.heap.objs.size f cdv)) (envOfC qual scope s.heap.objs.size f cdv) (cxOf (L2.CX P w) P w nm.K mg base N qual scope f cdv A outer s H E).xe →
      PSs (cxOf (L2.CX P w) P w nm.K mg base N qual scope f cdv A outer s H E) body (tSs ⟨nm, Φ, ioIx 0 fi.io, fun cls d _ H => E cls d H⟩ fi.body)) :
    FnOk P w nm.K mg base (L2.CX P w) (k + 1) f fd ps (spD nm Φ' fi.nps j) :=
  Fd.ok S (fun vs H Q E h => by obtain ⟨_, _, _, h, _⟩ := h; rw [h, hps]) fun cdv A outer s H vs Q E hr h =>
    ⟨_, hbody cdv A outer s H E hr (takes_of rfl rfl rfl rfl) (passes_of rfl), def_read hcall hio hN h⟩
end
end MT
namespace MT
open PySem PySem.Spec PyProof.Rows L2
/-- a def that may be called by its global name x -/
structure Cal (P : Program) (w : World) (nm : Nm) (mg : Str → Option Value) (base : Heap) (k : Nat) (Φ : CT) (x : Str) (j nps : Nat) : Prop where
  ex : ∃ (f : Addr) (fd : FuncData) (ps : List Str), FnOk P w nm.K mg base (L2.CX P w) k f fd ps (spD nm Φ nps j) ∧ mg x = some (.ref f) ∧ PySem.W.keepIn nm.K (.ref f) = true ∧ Binds nm.K fd ps []
section
variable {X : Cx} {c : Sx} {e a b : Expr} {es : List Expr} {ia ib ic : IE} {as : IEs} {pos : Pos}
theorem s_callC {j k nps : Nat} {x : Str} {p : Pos} (hK : X.K = c.nm.K) (C : Cal X.prog X.w c.nm X.mg X.base k c.Φ x j nps) (hr : Room k X.A) (hg : Gl X x) (tk : Takes X c.W) (hn : as.len = nps) (ha : PA X (e :: es) (tOs c as)) (hl : (x == ("__debug__" : Str)) = false)
    (he : starEach (e :: es) X.env = (false, eval e X.env) :: starEach es X.env) (hpl : (backTo pos (starEach es X.env)).any (·.1) = false) : PE X (.Call (.Name x p) (e :: es) [] pos) (tE c (.call j as)) := by
  obtain ⟨f, fd, ps, F, hm, hk, hb⟩ := C.ex
  rw [← hK] at F hk hb
  exact s_call F hr hg hm hk hb tk hn ha hl he hpl
theorem takes_blk {s : Shared} {H : Hp} {scope : Scope} {cenv : PySem.Env} {fp : List Addr} : Takes (X.blk s H scope cenv fp) (fun _ _ _ _ => False) := by
  intro u s' ⟨_, _, _, _, _, _, _, _, _, _, _, _, _, _, _, _, w⟩
  exact w.elim
theorem s_int {i : Int} {j : Nat} : PE X (.Constant (.int i) j pos) (tE c (.cst (.int i))) := s_cst (fun F => .int) pe_int
theorem s_str {i : Str} {j : Nat} : PE X (.Constant (.str i) j pos) (tE c (.cst (.str i))) := s_cst (fun F => .str) pe_str
theorem s_bl {i : Bool} {j : Nat} : PE X (.Constant (.bool i) j pos) (tE c (.cst (.bl i))) := s_cst (fun F => .bl) pe_bl
theorem s_non {j : Nat} : PE X (.Constant .none j pos) (tE c (.cst .non)) := s_cst (fun F => .non) pe_non
end
section
variable {P : Program} {w : World} {nm : Nm} {mg : Str → Option Value} {base : Heap} {Φ : CT}
/-- without fuel: never asked -/
theorem fn_stuck {k j nps : Nat} {f : Addr} {fd : FuncData} {ps : List Str} (h : ∀ st ds, Φ.call j st ds = .stuck) (hps : ps.length = nps) : FnOk P w nm.K mg base (L2.CX P w) k f fd ps (spD nm Φ nps j) where
  len := fun vs H Q E q => by obtain ⟨_, _, _, z, _⟩ := q; rw [z, hps]
  run := fun A outer s H args us vs Q E hr he hb hv q => by
    obtain ⟨F, st, ds, _, _, _, _, _, _, z⟩ := q
    rw [h] at z
    exact z.elim
theorem cal_stuck {k j nps : Nat} {x : Str} {f : Addr} {fd : FuncData} {ps : List Str} (h : ∀ st ds, Φ.call j st ds = .stuck) (hps : ps.length = nps) (hm : mg x = some (.ref f)) (hk : PySem.W.keepIn nm.K (.ref f) = true) (hb : Binds nm.K fd ps []) : Cal P w nm mg base k Φ x j nps :=
  ⟨f, fd, ps, fn_stuck h hps, hm, hk, hb⟩
/-- the law's promise, asked at a script -/
theorem law_sp {j : Nat} {H : Hp} {a : Addr} {ns : List Int} (hio : Φ.io j = []) (hO : Only H) (hS : SqL nm.K H a (ns.map V.int)) (hF : nm.F0 = fun _ => none) {st : List D} (h : Φ.call j [] [.scr ns] = .ok ⟨.bl true, false⟩ [] st) : spD nm Φ 1 j [.ref a] H (fun v _ => v = .bl true) (fun _ _ _ => False) := by
  have S : SqS nm.K H a ns := by
    rcases hS with (h | ⟨o, h⟩) | h
    · rcases hO a with z | ⟨o, xs, z⟩
      · rw [z] at h; cases h
      · rw [z] at h; cases h
    · exact .inl ⟨o, h⟩
    · exact .inr fun H => .inr h
  refine ⟨H, [], [.scr ns], rfl, fun b o e => .inl e, ⟨fun n d h => by simp at h, fun a n h => ?_, fun a b n h => ?_⟩, (by rw [hF]; exact fun _ _ z => (nomatch z)), ?_, ?_, ?_⟩
  · rcases hO a with z | ⟨_, _, z⟩ <;> (rw [z] at h; cases h)
  · rcases hO a with z | ⟨_, _, z⟩ <;> (rw [z] at h; cases h)
  · rw [hio]; exact ⟨.scr S, True.intro⟩
  · rw [hio]; exact List.nodup_nil
  · rw [h]
    intro F' H' v _ _ _ r _ _
    exact (ValR.data r).bl
def CXa (P : Program) : CXT := fun outer H s E u s' => ∃ w, L2.CX P w outer H s E u s'
theorem fn_any {k : Nat} {f : Addr} {fd : FuncData} {ps : List Str} {sp : Sp} {K : PySem.W.Frag} (F : FnOk P w K mg base (L2.CX P w) k f fd ps sp) : FnOk P w K mg base (CXa P) k f fd ps sp :=
  ⟨F.len, fun A outer s H args us vs Q E hr he hb hv hs => codeAny_mono (F.run A outer s H args us vs Q E hr he hb hv hs) fun r s' hq => by
    cases r with
    | error e => exact ⟨w, hq⟩
    | ok fl => cases fl <;> exact hq⟩
theorem cxa_none {H : Hp} {s : Shared} {e : Value} {s' : Shared} (h : CXa P [] H s (fun _ _ _ => False) e s') : False := by
  obtain ⟨_, _, _, _, _, _, _, _, _, _, _, _, _, z⟩ := h
  exact z
end
end MT
namespace MT
open PySem
/-- what may come of r: it goes on | returns | breaks | continues | raises -/
def Xr.W (r : Xr) (N : Env → Prop) (Rt : Val → Env → Prop) (B C : Env → Prop) (Z : Exc → Env → Prop) : Prop := match r with
  | .nx e => N e
  | .rt v e => Rt v e
  | .bk e => B e
  | .ct e => C e
  | .exc x e => Z x e
  | .stuck => False
abbrev nope : Env → Prop := fun _ => False
abbrev noX : Exc → Env → Prop := fun _ _ => False
section
variable {Φ : CT} {io : List Nat} {N N' : Env → Prop} {Rt Rt' : Val → Env → Prop} {B C B' C' : Env → Prop} {Z Z' : Exc → Env → Prop} {e : Env} {s : IS} {ss : ISs} {r : Xr}
theorem Xr.W.imp (h : r.W N Rt B C Z) (k1 : ∀ e, N e → N' e) (k2 : ∀ v e, Rt v e → Rt' v e) (k3 : ∀ e, B e → B' e) (k4 : ∀ e, C e → C' e) (k5 : ∀ x e, Z x e → Z' x e) : r.W N' Rt' B' C' Z' := by
  cases r with
  | nx e => exact k1 _ h
  | rt v e => exact k2 _ _ h
  | bk e => exact k3 _ h
  | ct e => exact k4 _ h
  | exc x e => exact k5 _ _ h
  | stuck => exact h
theorem W_cons (h : (ex Φ io s e).W (fun e' => (exs Φ io ss e').W N Rt B C Z) Rt B C Z) : (exs Φ io (.cons s ss) e).W N Rt B C Z := by
  unfold exs
  generalize ex Φ io s e = x at h
  cases x <;> exact h
theorem W_nil (h : N e) : (exs Φ io .nil e).W N Rt B C Z := h
/-- a loop over items; I holds ahead of the i-th turn -/
theorem W_for {t : D → Env → Xr} {items : List D} (I : Nat → Env → Prop) (h0 : I 0 e)
    (step : ∀ i (hi : i < items.length) e, I i e → (t items[i] e).W (I (i + 1)) Rt N (I (i + 1)) Z) (done : ∀ e, I items.length e → N e) : (forL t items e).W N Rt B C Z := by
  have gen : ∀ (k i : Nat) (e : Env), i + k = items.length → I i e → (forL t (items.drop i) e).W N Rt B C Z := by
    intro k
    induction k with
    | zero =>
      intro i e hk hI
      rw [List.drop_eq_nil_of_le (by omega)]
      exact done e (by rw [← hk, Nat.add_zero]; exact hI)
    | succ k ih =>
      intro i e hk hI
      have hi : i < items.length := by omega
      rw [List.drop_eq_getElem_cons hi]
      have hs := step i hi e hI
      unfold forL
      generalize t items[i] e = x at hs
      cases x with
      | nx e => exact ih (i + 1) _ (by omega) hs
      | ct e => exact ih (i + 1) _ (by omega) hs
      | bk e => exact hs
      | rt v e => exact hs
      | exc x e => exact hs
      | stuck => exact hs
  exact gen items.length 0 e (by omega) h0
theorem W_while {c : Env → R Val} {t : Env → Xr} (I : Nat → Env → Prop) : ∀ (n m : Nat) (e : Env), m < n → I m e →
    (∀ m e, I m e → ∃ b e1, c e = .ok ⟨.bl b, false⟩ e1 ∧ if b = true then (t e1).W (fun e => ∃ m', m' < m ∧ I m' e) Rt N (fun e => ∃ m', m' < m ∧ I m' e) Z else N e1) → (whileL c t n e).W N Rt B C Z
  | 0, _, _, h, _, _ => by omega
  | n + 1, m, e, hm, hI, step => by
    obtain ⟨b, e1, hc, h⟩ := step m e hI
    unfold whileL
    rw [hc]
    cases b with
    | false => rw [if_neg (by decide)] at h; exact h
    | true =>
      rw [if_pos rfl] at h
      show Xr.W (match t e1 with
        | .nx e => whileL c t n e
        | .ct e => whileL c t n e
        | .bk e => .nx e
        | r => r) N Rt B C Z
      generalize t e1 = x at h
      cases x with
      | nx e => obtain ⟨m', h1, h2⟩ := h; exact W_while I n m' _ (by omega) h2 step
      | ct e => obtain ⟨m', h1, h2⟩ := h; exact W_while I n m' _ (by omega) h2 step
      | bk e => exact h
      | rt v e => exact h
      | exc x e => exact h
      | stuck => exact h
/-- a def: what comes of it -/
def CR.W (r : CR) (P : Val → List D → List D → Prop) (Z : Exc → List D → Prop) : Prop := match r with
  | .ok v outs st => P v outs st
  | .exc x st => Z x st
  | .stuck => False
theorem run_W {f : DefI} {st ds : List D} {P : Val → List D → List D → Prop} {Y : Exc → List D → Prop} (hl : ds.length = f.nps) (hn : f.nps ≤ f.nsl) (hio : f.io.length ≤ f.nps)
    (h : (exs Φ (ioIx 0 f.io) f.body ⟨argsE f.io ds ++ List.replicate (f.nsl - f.nps) none, st⟩).W (fun e => ∃ outs, outsE e (ioIx 0 f.io) = some outs ∧ P ⟨.non, false⟩ outs e.st) (fun w e => ∃ outs, outsE e (ioIx 0 f.io) = some outs ∧ P w outs e.st) nope nope (fun x e => Y x e.st)) : (runDef Φ f st ds).W P Y := by
  unfold runDef
  rw [if_pos ⟨hl, hn, hio⟩]
  generalize exs Φ (ioIx 0 f.io) f.body ⟨argsE f.io ds ++ List.replicate (f.nsl - f.nps) none, st⟩ = x at h
  cases x with
  | nx e => obtain ⟨outs, h1, h2⟩ := h; simp only [h1]; exact h2
  | rt v e => obtain ⟨outs, h1, h2⟩ := h; simp only [h1]; exact h2
  | bk e => exact h.elim
  | ct e => exact h.elim
  | exc x e => exact h
  | stuck => exact h.elim
theorem CR.W.ok {r : CR} {P : Val → List D → List D → Prop} (h : r.W P (fun _ _ => False)) : ∃ v outs st, r = .ok v outs st ∧ P v outs st := by
  cases r with
  | ok v outs st => exact ⟨v, outs, st, rfl, h⟩
  | exc x st => exact h.elim
  | stuck => exact h.elim
theorem CR.W.exc {r : CR} {Z : Exc → List D → Prop} (h : r.W (fun _ _ _ => False) Z) : ∃ x st, r = .exc x st ∧ Z x st := by
  cases r with
  | ok v outs st => exact h.elim
  | exc x st => exact ⟨x, st, rfl, h⟩
  | stuck => exact h.elim
/-- a def without changed arguments and cells: what it returns -/
theorem run_of {f : DefI} {st ds : List D} {v : Val} (hio : f.io = []) (hl : ds.length = f.nps) (hn : f.nps ≤ f.nsl)
    (h : (exs Φ [] f.body ⟨argsE [] ds ++ List.replicate (f.nsl - f.nps) none, st⟩).W (fun e => v = ⟨.non, false⟩ ∧ e.st = st) (fun w e => w = v ∧ e.st = st) nope nope noX) : runDef Φ f st ds = .ok v [] st := by
  have := (run_W (P := fun w outs st' => w = v ∧ outs = [] ∧ st' = st) (Y := fun _ _ => False) hl hn (by rw [hio]; exact Nat.zero_le _) (by
    rw [hio]
    exact h.imp (fun e h => ⟨[], rfl, h.1.symm, rfl, h.2⟩) (fun w e h => ⟨[], rfl, h.1, rfl, h.2⟩) (fun _ h => h) (fun _ h => h) fun _ _ h => h)).ok
  obtain ⟨_, _, _, h1, rfl, rfl, rfl⟩ := this
  exact h1
/-- what it returns, of some sort -/
theorem run_ex {f : DefI} {st ds : List D} {P : Val → Prop} (hio : f.io = []) (hl : ds.length = f.nps) (hn : f.nps ≤ f.nsl)
    (h : (exs Φ [] f.body ⟨argsE [] ds ++ List.replicate (f.nsl - f.nps) none, st⟩).W (fun e => P ⟨.non, false⟩ ∧ e.st = st) (fun w e => P w ∧ e.st = st) nope nope noX) : ∃ v, P v ∧ runDef Φ f st ds = .ok v [] st := by
  have := (run_W (P := fun w outs st' => P w ∧ outs = [] ∧ st' = st) (Y := fun _ _ => False) hl hn (by rw [hio]; exact Nat.zero_le _) (by
    rw [hio]
    exact h.imp (fun e h => ⟨[], rfl, h.1, rfl, h.2⟩) (fun w e h => ⟨[], rfl, h.1, rfl, h.2⟩) (fun _ h => h) (fun _ h => h) fun _ _ h => h)).ok
  obtain ⟨v, _, _, h1, h2, rfl, rfl⟩ := this
  exact ⟨v, h2, h1⟩
end
end MT
namespace MT
open PySem
end MT
namespace MT
open PySem PySem.Spec PyProof.Rows L2
end MT
namespace MT
open PySem PySem.Spec PyProof.Rows L2 PySem.Froz
section
variable {P : Program} {w : World}
/-- a new set -/
abbrev freshS (w : World) : Obj := { cls := .type "set", dict := none, data := .set #[] 0 (.fresh 0 0 (!w.params.followText "set-order")) }
/-- what the update's loop brings to the set at S -/
structure LoopZ (P : Program) (w : World) (items : Array Value) (Z : Heap → Addr → Prop) : Prop where
  run : ∀ {A : Around} {I : Addr} {fp wr : List Addr} {G : Array GenState → Array GenState → Prop} {St : Nat → Shared → Prop} {R : Result → Shared → Prop},
    WalksS P w A.in1 I fp wr G items.size (fun i v => items[i]? = some v) St → ∀ (S : Addr), S ∉ fp → ∀ s : Shared, St 0 s → s.heap.get? S = some (freshS w) →
      (∀ s', Moved (S :: wr) G s s' → Z s'.heap S → R (.ok (.ret .none)) s') → codeAny (model P w) A (.builtin "set.update.loop" ⟨[.ref S, .ref I], []⟩) R s
theorem loop_ints {items : Array Value} {ns : List Int} (hi : IntsAre items.toList ns) (hb : ns.length + 1 < scanBound) : LoopZ P w items fun h S => ∃ c, c ≤ ns.length ∧ SetR w h S (fun j => decide (j ∈ ns)) c := by
  refine ⟨?_⟩
  intro A I fp wr G St R W S hS s hst hget hR
  have hsz : items.size = ns.length := by have := IntsAre.length hi; rwa [Array.length_toList] at this
  refine set_update_ints W S hS ns hsz hb (fun i v hv => ?_) items.size 0 s (Nat.sub_zero _) (Nat.zero_le _) hst ⟨0, Nat.le_refl 0, setR_new_at hget⟩ fun s' c hm hc hS' => hR s' hm ⟨c, by omega, hS'⟩
  have hl : i < ns.length := by rw [← hsz]; exact (Array.getElem?_eq_some_iff.mp hv).1
  obtain ⟨t, e⟩ := IntsAre.int_at hi i v (by rw [Array.getElem?_toList]; exact hv)
  exact ⟨ns[i], t, List.getElem?_eq_getElem hl, by rw [e, List.getD_eq_getElem?_getD, List.getElem?_eq_getElem hl]; rfl⟩
/-- the payload holds just the texts of l, each once; it can be walked -/
structure TxS (P : Program) (w : World) (D : SD) (l : List Str) : Prop where
  ex : ∃ l', TxOk P w D l' ∧ l'.Nodup ∧ (∀ k, k ∈ l' ↔ k ∈ l) ∧ l'.length ≤ l.length
  ris : Ris D.2.2.place.toList
  led : w.params.followText "set-order" = true ∨ D.2.2.led = true
theorem TxS.new : TxS P w (#[], 0, .fresh 0 0 (!w.params.followText "set-order")) [] where
  ex := ⟨[], TxOk.nil rfl, List.nodup_nil, fun _ => Iff.rfl, Nat.le_refl _⟩
  ris := List.Pairwise.nil
  led := by
    show _ ∨ (!w.params.followText "set-order") = true
    cases w.params.followText "set-order" <;> simp
theorem tail_walk {ep : Nat} {es : Array (Int × Value)} {t : SetTable} {b : Bool} (r : Ris t.place.toList) : Ris (tailTx ep es t b).2.2.place.toList ∧ (tailTx ep es t b).2.2.led = t.led := by
  unfold tailTx
  split
  · exact ⟨relayAll_ris _ _ _, relayAll_led _ _ _⟩
  · exact ⟨r, rfl⟩
theorem add_walk {h : Int} {v : Value} {D : SD} (r : Ris D.2.2.place.toList) : Ris (addTx h v D).2.2.place.toList ∧ (addTx h v D).2.2.led = D.2.2.led := by
  have a1 := layNew_ris D.2.2 D.1 h v r
  have a2 := layNew_led D.2.2 D.1 h v
  unfold addTx
  split
  · obtain ⟨b1, b2⟩ := tail_walk (ep := D.2.1) (es := (layNew D.2.2 D.1 h v).1) (b := (layNew D.2.2 D.1 h v).2.2.1) (t := { (layNew D.2.2 D.1 h v).2.1 with plain := false }) a1
    exact ⟨b1, b2.trans a2⟩
  · obtain ⟨b1, b2⟩ := tail_walk (ep := D.2.1) (es := (layNew D.2.2 D.1 h v).1) (b := (layNew D.2.2 D.1 h v).2.2.1) (t := (layNew D.2.2 D.1 h v).2.1) a1
    exact ⟨b1, b2.trans a2⟩
variable {A : Around} {E : Value → Shared → Prop} {s : Shared}
/-- a text that stands there already -/
theorem add_again {a : Addr} {D : SD} {l : List Str} {k : Str} {u : Tok} {Q : Bool → Shared → Prop} (ho : s.heap.get? a = some (sObj "set" D)) (F : TxOk P w D l) (hk : k ∈ l) (hb : l.length < scanBound)
    (h : Q false s) : wpAny (model P w) A (setAddHashed a (.str k u) (hashStr w k)) Q E s := by
  obtain ⟨es, ep, t⟩ := D
  have hel : ElemsOf (strKind P w) es.toList := F.el
  have hsz : es.size = l.length := F.sz
  obtain ⟨e0, he0, hp0⟩ := (F.mem k).mp hk
  obtain ⟨j, hj⟩ : ∃ j, List.findIdx? (fun e => (strKind P w).is k e.2) es.toList = some j := by
    cases hr : List.findIdx? (fun e => (strKind P w).is k e.2) es.toList with
    | some j => exact ⟨j, rfl⟩
    | none =>
      have c := List.findIdx?_eq_none_iff.mp hr e0 he0
      rw [hp0] at c
      cases c
  unfold setAddHashed setAddHashedIn
  refine wpAny_holding (wpAny_bind (wpAny_setState_of (es := es) (ep := ep) (t := t) ho rfl F.fit ?_))
  dsimp only
  rw [byScan_of rfl (by omega) hel]
  simp only [↓reduceIte]
  unfold setAddByScan
  refine wpAny_bind (wpAny_bind (wpAny_rule (wpAny_bind (wpAny_setScan_of (knd := strKind P w) (k := k) (is_str k u) ho rfl F.fit hel ?_))))
  rw [hj]
  exact wpAny_pure (wpAny_pure h)
/-- one text more -/
theorem add_text {a : Addr} {D : SD} {l : List Str} {k : Str} {u : Tok} {Q : Bool → Shared → Prop} (ho : s.heap.get? a = some (sObj "set" D)) (T : TxS P w D l) (hb : l.length + 1 < scanBound)
    (h : ∀ b h' D', Heap.SameBut a s.heap h' → h'.get? a = some (sObj "set" D') → TxS P w D' (l ++ [k]) → Q b { s with heap := h' }) : wpAny (model P w) A (setAddHashed a (.str k u) (hashStr w k)) Q E s := by
  obtain ⟨l', F, nd, me, le⟩ := T.ex
  by_cases hk : k ∈ l'
  · refine add_again ho F hk (by omega) (h false s.heap D (Heap.SameBut.refl a s.heap) ho ⟨⟨l', F, nd, fun x => ?_, by simp only [List.length_append, List.length_singleton]; omega⟩, T.ris, T.led⟩)
    rw [List.mem_append, List.mem_singleton, me]
    exact ⟨.inl, fun z => z.elim id fun e => (me x).mp (e ▸ hk)⟩
  · refine add_x ho F hk (by omega) (h true _ _ (Heap.SameBut.update s.heap a _) (get_upd _ ho rfl) ⟨⟨k :: l', add_ok u F, List.nodup_cons.mpr ⟨hk, nd⟩, fun x => ?_, by simp only [List.length_append, List.length_singleton, List.length_cons]; omega⟩, (add_walk T.ris).1, ?_⟩)
    · rw [List.mem_append, List.mem_singleton, List.mem_cons, me]
      exact Or.comm
    · rw [(add_walk T.ris).2]; exact T.led
theorem loop_strs {items : Array Value} {xs : List Str} (hi : StrsAre items.toList xs) (hb : xs.length + 1 < scanBound) : LoopZ P w items fun h S => ∃ D, h.get? S = some (sObj "set" D) ∧ TxS P w D xs := by
  refine ⟨?_⟩
  intro A I fp wr G St R W S hS s hst hget hR
  have hsz : items.size = xs.length := by
    have : ∀ {us : List Value} {ys : List Str}, StrsAre us ys → us.length = ys.length := fun h => by induction h <;> simp_all
    have := this hi
    rwa [Array.length_toList] at this
  have Sw : S ∉ wr := fun z => hS (W.sub _ z)
  have gen : ∀ (m i : Nat) (s : Shared), i + m = items.size → St i s → (∃ D, s.heap.get? S = some (sObj "set" D) ∧ TxS P w D (xs.take i)) → (∀ s', Moved (S :: wr) G s s' → (∃ D, s'.heap.get? S = some (sObj "set" D) ∧ TxS P w D xs) → R (.ok (.ret .none)) s') →
      codeAny (model P w) A (.builtin "set.update.loop" ⟨[.ref S, .ref I], []⟩) R s := by
    intro m
    induction m with
    | zero =>
      intro i s hm hst ⟨D, hD, hT⟩ hR
      rw [Nat.add_zero] at hm
      subst hm
      refine codeAny_builtin F.entry_set_update_loop ?_
      rw [Around.under_plainId F.plain_set_update_loop _]
      refine wpAny_bind (W.done s _ _ hst fun s' mv => wpAny_pure (hR s' (mv.mono fun b hb => List.mem_cons_of_mem _ hb) ⟨D, mv.heap S _ Sw hD, ?_⟩))
      rwa [List.take_of_length_le (by omega)] at hT
    | succ m ih =>
      intro i s hm hst ⟨D, hD, hT⟩ hR
      have hlt : i < items.size := by omega
      refine codeAny_builtin F.entry_set_update_loop ?_
      rw [Around.under_plainId F.plain_set_update_loop _]
      refine wpAny_bind (W.item i s _ _ hlt hst fun v s' hP hst' mv => ?_)
      have hix : i < xs.length := by omega
      obtain ⟨t, rfl⟩ : ∃ t, v = .str xs[i] t := by
        obtain ⟨t, e⟩ := SS.strs_at hi i v (by rw [Array.getElem?_toList]; exact hP)
        exact ⟨t, by rw [e, List.getD_eq_getElem?_getD, List.getElem?_eq_getElem hix]; rfl⟩
      refine wpAny_bind (wpAny_holding ?_)
      unfold setAdd
      refine wpAny_holding (wpAny_bind ((strKind P w).pyHash (k := xs[i]) (is_str _ _) ?_))
      refine add_text (s := { s' with toks := s'.toks + 1 }) (mv.heap S _ Sw hD) hT (by rw [List.length_take]; omega) fun b h' D' sb hD' hT' => ?_
      have et : xs.take i ++ [xs[i]] = xs.take (i + 1) := by rw [List.take_add_one, List.getElem?_eq_getElem hix]; rfl
      rw [et] at hT'
      refine wpAny_pure ⟨plainId_quiet F.plain_set_update_loop _, ih (i + 1) _ (by omega) (W.frame _ s' _ _ hst' (Nat.le_succ _) fun c hc o e => ?_) ⟨D', hD', hT'⟩ fun s'' mv2 z => hR s'' (Moved.trans W.gtrans ((mv.mono fun c hc => List.mem_cons_of_mem _ hc).then_heap (Nat.le_succ _) fun c o hc e => ?_) mv2) z⟩
      · rw [sb.2 c fun z => hS (z ▸ hc)]; exact e
      · rw [sb.2 c fun z => hc (z ▸ List.mem_cons_self)]; exact e
  exact gen items.size 0 s (Nat.zero_add _) hst ⟨(#[], 0, .fresh 0 0 (!w.params.followText "set-order")), hget, TxS.new⟩ hR
/-- set(xs): a new set, filled by the loop -/
theorem set_made {l : Addr} {items : Array Value} {Z : Heap → Addr → Prop} {Q : Value → Shared → Prop} (hh : A.handled = none) (hl : s.heap.IsList l items) (L : LoopZ P w items Z)
    (h : ∀ (h' : Heap) (tk : Nat) (S : Addr), s.heap.objs.size ≤ S → Z h' S → (∀ b o, s.heap.get? b = some o → h'.get? b = some o) → Q (.ref S) { s with heap := h', toks := tk }) :
    wpAny (model P w) A (call (.type "set") [.ref l]) Q E s := by
  obtain ⟨c, tl, hmro⟩ := F.called_set.mro
  have made := F.called_set.made
  have sub0 := F.called_set.sub
  have nty := F.called_set.notType
  have cre := F.called_set.canCreate
  have tyc := F.typeCall_set_1 (.ref l)
  refine wpAny_call (codeAny_of_tree (wpAny_pure ⟨Code.quiet_builtin _ (by decide +kernel), codeAny_builtin F.entry_type_call ?_⟩))
  rw [Around.under_plain (weight_type_call_type "set" [.ref l] []) rfl]
  repeat (any_goals (first | assumption | wp_step))
  have hN : (s.heap.push (freshS w)).get? s.heap.objs.size = some (freshS w) := Heap.get?_push_size _ rfl
  refine codeAny_mono (code_set_led1 (.ref l) (E := E) (Q₁ := fun o t => o = .ref s.heap.objs.size ∧ t = { s with heap := s.heap.push (freshS w) }) ⟨rfl, rfl⟩) fun r t hr => ?_
  match r, hr with
  | .error e, hr => exact hr
  | .ok (.ret o), ⟨e1, e2⟩ =>
    subst e1
    subst e2
    have hT : Shared.TypeIs { s with heap := s.heap.push (freshS w) } (.ref s.heap.objs.size) "set" := ⟨_, hN, rfl⟩
    have ili := F.called_set.init.lookup
    have ibi := F.called_set.init.bind (.ref s.heap.objs.size)
    repeat (any_goals (first | assumption | wp_step))
    refine codeAny_mono (codeAny_call_builtin (R := wants (fun r t => r = .none ∧ ∃ h' tk, t = { s with heap := h', toks := tk } ∧ Z h' s.heap.objs.size ∧ ∀ b o, s.heap.get? b = some o → h'.get? b = some o) E)
      F.called_set.init.plain F.entry_set_init (check_set_init_1 hT ?_)) fun r2 t2 hr2 => ?_
    · obtain ⟨ol, hol, hcl, nl, hdl⟩ := hl
      obtain ⟨ocls, odict, odata, oslots⟩ := ol
      simp only at hcl hdl
      subst hcl; subst hdl
      have hol' : (s.heap.push (freshS w)).get? l = some { cls := .type "list", dict := odict, data := .seq items nl, slots := oslots } := Heap.get?_push_of_some _ hol
      have sls := F.sub_list_set
      have slf := F.sub_list_frozenset
      have ned : (Value.type "list" == Value.type "dict") = false := by decide
      have hl1 : (s.heap.push (freshS w)).IsList l items := ⟨_, hol', rfl, nl, rfl⟩
      unfold Builtin.«set.__init__» noKeywords Builtin.Frozenset.updateFrom
      generalize hPI : pyIter = PI
      wp_walk
      subst hPI
      refine wpAny_pyIter_list hl1 (wpAny_bind (wpAny_runValue ?_))
      have hlS : l < s.heap.objs.size := Heap.lt_size hol
      have z1 : (s.heap.push (freshS w)).objs.size = s.heap.objs.size + 1 := Heap.size_push ..
      have nI : l ≠ (s.heap.push (freshS w)).objs.size := by rw [z1]; exact Nat.ne_of_lt (Nat.lt_succ_of_lt hlS)
      refine L.run ((Walks.list (A := A.in1.in1.in1) (by simp [hh]) _ l nI items).toS) s.heap.objs.size ?_ _ ⟨⟨_, Heap.get?_push_size _ rfl, rfl, rfl⟩, (hl1.push _)⟩ (Heap.get?_push_of_some _ hN) fun s' mv hz => ?_
      · rw [z1]; simp only [List.mem_cons, List.not_mem_nil, or_false, not_or]; exact ⟨Nat.ne_of_lt (Nat.lt_succ_self _), Nat.ne_of_gt hlS⟩
      · obtain ⟨h', g2, d', tk', os'⟩ := s'
        have eg : g2 = s.gens := mv.gens
        have ed : d' = s.drawn := mv.drawn
        have eo : os' = s.os := mv.os
        subst eg; subst ed; subst eo
        refine wpAny_pure (wpAny_pure ⟨rfl, h', tk', rfl, hz, fun b o e => mv.heap b o ?_ (Heap.get?_push_of_some _ (Heap.get?_push_of_some _ e))⟩)
        have lt := Heap.lt_size e
        rw [z1]; simp only [List.mem_cons, List.not_mem_nil, or_false, not_or]; exact ⟨Nat.ne_of_lt lt, Nat.ne_of_lt (Nat.lt_succ_of_lt lt)⟩
    · match r2, hr2 with
      | .error e, hr2 => exact hr2
      | .ok (.ret r), ⟨e1, h', tk, e2, hz, hk⟩ =>
        subst e1
        subst e2
        repeat (any_goals (first | assumption | wp_step))
        exact h _ _ _ (Nat.le_refl _) hz hk
      | .ok .next, hr2 => exact hr2.elim
      | .ok .brk, hr2 => exact hr2.elim
      | .ok .cont, hr2 => exact hr2.elim
  | .ok .next, hr => exact hr.elim
  | .ok .brk, hr => exact hr.elim
  | .ok .cont, hr => exact hr.elim
end
end MT
namespace MT
open PySem PySem.Spec PyProof.Rows L2 PySem.Froz
theorem nodup_le {α : Type} [DecidableEq α] : ∀ {a b : List α}, b.Nodup → (∀ k ∈ b, k ∈ a) → b.length ≤ a.length
  | [], b, _, h => by
    cases b with
    | nil => exact Nat.le_refl _
    | cons x r => exact absurd (h x List.mem_cons_self) (by simp)
  | x :: a, b, nd, h => by
    by_cases hx : x ∈ b
    · have e := List.length_erase_of_mem hx
      have p : 0 < b.length := List.length_pos_of_mem hx
      have := nodup_le (a := a) (nd.erase x) fun k hk => by
        have hb := List.mem_of_mem_erase hk
        have ne : k ≠ x := fun z => by subst z; exact (List.Nodup.not_mem_erase nd) hk
        exact (List.mem_cons.mp (h k hb)).resolve_left ne
      simp only [List.length_cons]; omega
    · have := nodup_le (a := a) nd fun k hk => (List.mem_cons.mp (h k hk)).resolve_left fun z => hx (z ▸ hk)
      simp only [List.length_cons]; omega
theorem nodup_of_le {α : Type} [DecidableEq α] : ∀ {a b : List α}, b.Nodup → (∀ k ∈ b, k ∈ a) → a.length ≤ b.length → a.Nodup
  | [], _, _, _, _ => List.nodup_nil
  | x :: a, b, nd, h, hl => by
    by_cases hx : x ∈ a
    · have := nodup_le (a := a) nd fun k hk => (List.mem_cons.mp (h k hk)).elim (fun z => z ▸ hx) id
      simp only [List.length_cons] at hl; omega
    · refine List.nodup_cons.mpr ⟨hx, nodup_of_le (b := b.erase x) (nd.erase x) (fun k hk => ?_) ?_⟩
      · have ne : k ≠ x := fun z => by subst z; exact (List.Nodup.not_mem_erase nd) hk
        exact (List.mem_cons.mp (h k (List.mem_of_mem_erase hk))).resolve_left ne
      · have := List.length_erase (l := b) (a := x)
        rw [this]
        simp only [List.length_cons] at hl
        split <;> omega
section
variable {P : Program} {w : World} {A : Around} {E : Value → Shared → Prop} {s : Shared}
/-- the texts that a walk of the set gives -/
theorem TxS.strs {D : SD} {l : List Str} (T : TxS P w D l) : ∃ l' : List Str, StrsAre (D.1.toList.map (·.2)) l' ∧ l'.Nodup ∧ (∀ k, k ∈ l' ↔ k ∈ l) := by
  obtain ⟨l1, F, nd, me, le⟩ := T.ex
  have all : ∀ e ∈ D.1.toList, ∃ x t, e.2 = Value.str x t := fun e he => by
    obtain ⟨⟨k, hk, _⟩, _⟩ := F.el e he
    obtain ⟨t, q⟩ := Value.isStrOf_shape (x := k) (v := e.2) hk
    exact ⟨k, t, q⟩
  have hS : StrsAre (D.1.toList.map (·.2)) ((D.1.toList.map (·.2)).map strOf) := strsAre_map _ fun v hv => by
    obtain ⟨e, he, rfl⟩ := List.mem_map.mp hv
    exact all e he
  have sub : ∀ k, k ∈ (D.1.toList.map (·.2)).map strOf ↔ k ∈ l1 := fun k => by
    rw [F.mem k]
    simp only [List.mem_map]
    constructor
    · rintro ⟨v, ⟨e, he, rfl⟩, rfl⟩
      obtain ⟨x, t, q⟩ := all e he
      exact ⟨e, he, by rw [q]; exact is_str x t⟩
    · rintro ⟨e, he, hk⟩
      obtain ⟨t, q⟩ := Value.isStrOf_shape (x := k) (v := e.2) hk
      exact ⟨e.2, ⟨e, he, rfl⟩, by rw [q]; rfl⟩
  refine ⟨_, hS, ?_, fun k => (sub k).trans (me k)⟩
  have len : ((D.1.toList.map (·.2)).map strOf).length = l1.length := by
    rw [List.length_map, List.length_map, Array.length_toList]; exact F.sz
  exact nodup_of_le nd (fun k hk => (sub k).mpr hk) (by omega)
theorem sorted_texts {a : Addr} {D : SD} {xs : List Str} {Q : Value → Shared → Prop} (ho : s.heap.get? a = some (sObj "set" D)) (T : TxS P w D xs) (hh : A.handled = none) (h64 : D.1.size < 64) (hb : D.1.size < scanBound)
    (hQ : ∀ s' p (out : Array Value) (c : Nat) (ys : List Str), (∀ b o, s.heap.get? b = some o → s'.heap.get? b = some o) → s'.gens = s.gens → s'.os = s.os → s.heap.objs.size ≤ p →
      s'.heap.get? p = some (seqObj "list" out c) → StrsAre out.toList ys → sortedS ys = true → ys.Nodup → (∀ k, k ∈ ys ↔ k ∈ xs) → Q (.ref p) s') :
    wpAny (model P w) A (call (.builtin "sorted") [.ref a]) Q E s := by
  obtain ⟨l1, F, nd, me, le⟩ := T.ex
  obtain ⟨l', hS, nd', me'⟩ := T.strs
  obtain ⟨es, ep, t⟩ := D
  have h64 : es.size < 64 := h64
  refine Calls.call_function_entry kind_sorted plain_sorted entry_sorted (args_sorted1 _) ?_
  unfold Builtin.«sorted»
  refine wpAny_bind (m := checkCount "sorted" 1 1 _) (wpAny_pure ?_)
  refine wpAny_bind (collect_set (A := A.in1) (es := es) (ep := ep) (t := t) hh ⟨_, ho, rfl, rfl⟩ F.fit hb T.ris T.led fun s1 vs k1 hz g1 o1 pm => ?_)
  have hvl : vs.length = es.size := by rw [pm.length_eq, List.length_map, Array.length_toList]
  have hV : StrsAre vs (vs.map strOf) := strsAre_map _ fun v hv => hS.all v (pm.mem_iff.mp hv)
  have pv : (vs.map strOf).Perm l' := by
    have := pm.map strOf
    rwa [hS.strs] at this
  refine wpAny_bind (wpAny_newList ?_ (by rw [hvl, sizeLine_eq]; omega))
  have hoL : (s1.heap.push (seqObj "list" vs.toArray 0)).get? s1.heap.objs.size = some (seqObj "list" vs.toArray 0) := Heap.get?_push_size _ rfl
  refine wpAny_bind (wpAny_holding (wpAny_call_entry slot_list_sort ⟨_, hoL, rfl⟩ entry_list_sort
    (list_sort_treeK strKind_oneLt (s := { s1 with heap := s1.heap.push (seqObj "list" vs.toArray 0) }) hoL hV.keysOf (fun v₁ v₂ rest e => keyKind_strs (by rw [← e]; exact hV)) (by rw [hvl]; exact h64) fun st' hp hs => ⟨_, rfl, ?_⟩) (args_list_sort _)))
  obtain ⟨ys, b1, b2, b3⟩ := sorted_out_str hV hp hs
  obtain ⟨c, hc⟩ := sortedHeap_at (vs := vs) (out := (arrOf st').map (·.2)) hoL
  have py := b2.trans pv
  refine wpAny_pure ⟨_, rfl, hQ _ s1.heap.objs.size _ c ys (fun b u e => ?_) g1 o1 hz hc b1 b3 (py.nodup_iff.mpr nd') fun k => py.mem_iff.trans (me' k)⟩
  have q := k1 b u e
  have lt := Heap.lt_size q
  show (sortedHeap (s1.heap.push (seqObj "list" vs.toArray 0)) s1.heap.objs.size vs _).get? b = some u
  rw [sortedHeap_old (Nat.ne_of_lt lt) (by rw [size_push']; exact Nat.lt_succ_of_lt lt)]
  exact Heap.get?_push_of_some _ q
end
end MT
namespace MT
open PySem PySem.Spec PyProof.Rows L2 PySem.Froz
theorem insS_mem (x : Str) : ∀ (l : List Str) (k : Str), k ∈ insS x l ↔ k = x ∨ k ∈ l
  | [], k => by simp [insS]
  | y :: ys, k => by
    unfold insS
    split
    · simp
    · split
      · rename_i _ e; subst e; simp
      · simp [insS_mem x ys k]; constructor <;> (intro h; rcases h with h | h | h <;> simp [h])
theorem insS_rise (x : Str) : ∀ {l : List Str}, l.Pairwise LtS → (insS x l).Pairwise LtS
  | [], _ => List.pairwise_singleton _ _
  | y :: ys, h => by
    obtain ⟨h1, h2⟩ := List.pairwise_cons.mp h
    unfold insS
    split
    · rename_i c
      exact List.pairwise_cons.mpr ⟨fun z hz => (List.mem_cons.mp hz).elim (fun e => e ▸ c) fun e => LtS.tr _ _ _ c (h1 z e), h⟩
    · split
      · exact h
      · rename_i c ne
        refine List.pairwise_cons.mpr ⟨fun z hz => ?_, insS_rise x h2⟩
        rcases (insS_mem x ys z).mp hz with e | e
        · subst e
          by_cases hh : LtS y z
          · exact hh
          · exact absurd (LtS.tot c hh) ne
        · exact h1 z e
theorem ssetS_mem : ∀ (l : List Str) (k : Str), k ∈ ssetS l ↔ k ∈ l
  | [], k => by simp [ssetS]
  | x :: xs, k => by unfold ssetS; rw [insS_mem, ssetS_mem xs, List.mem_cons]
theorem ssetS_rise : ∀ l : List Str, (ssetS l).Pairwise LtS
  | [] => List.Pairwise.nil
  | x :: xs => insS_rise x (ssetS_rise xs)
theorem ssetS_one {l ys : List Str} (h : ys.Pairwise LtS) (m : ∀ k, k ∈ ys ↔ k ∈ l) : ys = ssetS l := rise_one LtS.irr LtS.tr h (ssetS_rise l) fun k => (m k).trans (ssetS_mem l k).symm
theorem rising_le : ∀ (p : Str) (l : List Str), risingS p l = true → ∀ k ∈ l, ¬ LtS k p
  | _, [], _, k, hk => by cases hk
  | p, x :: r, h, k, hk => by
    unfold risingS at h
    rw [Bool.and_eq_true, Bool.not_eq_true', ← strLt_cps] at h
    have hx : ¬ LtS x p := by unfold LtS; rw [h.1]; exact Bool.false_ne_true
    rcases List.mem_cons.mp hk with e | e
    · subst e; exact hx
    · intro hkp
      have h2 := rising_le x r h.2 k e
      by_cases hpx : LtS p x
      · exact h2 (LtS.tr _ _ _ hkp hpx)
      · exact h2 (LtS.tot hx hpx ▸ hkp)
theorem rising_rise : ∀ (p : Str) (l : List Str), risingS p l = true → (p :: l).Nodup → (p :: l).Pairwise LtS
  | p, [], _, _ => List.pairwise_singleton _ _
  | p, x :: r, h, nd => by
    obtain ⟨n1, n2⟩ := List.nodup_cons.mp nd
    have hle := rising_le p (x :: r) h
    unfold risingS at h
    rw [Bool.and_eq_true] at h
    refine List.pairwise_cons.mpr ⟨fun k hk => ?_, rising_rise x r h.2 n2⟩
    by_cases hh : LtS p k
    · exact hh
    · exact absurd (LtS.tot (hle k hk) hh ▸ hk) n1
theorem sortedS_rise : ∀ {l : List Str}, sortedS l = true → l.Nodup → l.Pairwise LtS
  | [], _, _ => List.Pairwise.nil
  | p :: l, h, nd => rising_rise p l h nd
theorem insU_mem (x : Int) : ∀ (l : List Int) (k : Int), k ∈ insU x l ↔ k = x ∨ k ∈ l
  | [], k => by simp [insU]
  | y :: ys, k => by
    unfold insU
    split
    · simp
    · split
      · rename_i _ e; subst e; simp
      · simp [insU_mem x ys k]; constructor <;> (intro h; rcases h with h | h | h <;> simp [h])
theorem insU_rise (x : Int) : ∀ {l : List Int}, l.Pairwise (· < ·) → (insU x l).Pairwise (· < ·)
  | [], _ => List.pairwise_singleton _ _
  | y :: ys, h => by
    obtain ⟨h1, h2⟩ := List.pairwise_cons.mp h
    unfold insU
    split
    · rename_i c
      exact List.pairwise_cons.mpr ⟨fun z hz => (List.mem_cons.mp hz).elim (fun e => e ▸ c) fun e => Int.lt_trans c (h1 z e), h⟩
    · split
      · exact h
      · refine List.pairwise_cons.mpr ⟨fun z hz => ?_, insU_rise x h2⟩
        rcases (insU_mem x ys z).mp hz with e | e
        · subst e; omega
        · exact h1 z e
theorem ssetI_mem : ∀ (l : List Int) (k : Int), k ∈ ssetI l ↔ k ∈ l
  | [], k => by simp [ssetI]
  | x :: xs, k => by unfold ssetI; rw [insU_mem, ssetI_mem xs, List.mem_cons]
theorem ssetI_rise : ∀ l : List Int, (ssetI l).Pairwise (· < ·)
  | [] => List.Pairwise.nil
  | x :: xs => insU_rise x (ssetI_rise xs)
theorem ssetI_one {l ys : List Int} (h : ys.Pairwise (· < ·)) (m : ∀ k, k ∈ ys ↔ k ∈ l) : ys = ssetI l := rise_one (fun x => Int.lt_irrefl x) (fun _ _ _ => Int.lt_trans) h (ssetI_rise l) fun k => (m k).trans (ssetI_mem l k).symm
end MT
namespace MT
open PySem PySem.Spec PyProof.Rows L2 PySem.Froz
section
variable {X : Cx} {c : Sx} {e a b o : Expr} {es : List Expr} {ia ib ic ik : IE} {as : IEs} {pos apos p p2 q : Pos} {σ : St} {F H F1 H1 : Hp} {env env1 : Env}
/-- one operand, what is done with it -/
theorem opn1 {o : ON} {Q : VK} (h : tE c (.opn o (.cons ia .nil)) σ H Q) : tO c ia σ H fun v H1 => ∃ F1 d z, Le F1 H1 ∧ DataR c.nm F1 H1 v d ∧ onD o [d] = some z ∧ Fin c.nm F1 H1 z Q := by
  obtain ⟨F, env, E, q⟩ := h
  have q : Res c σ F H env (rlV c.nm σ) (((mkO ia (ev c.Φ c.io ia) env).bind fun x e => R.ok [x] e).bind fun os e => R.opt ((getsO os e).bind (onD o)) e) Q := q
  refine ⟨F, env, E, ?_⟩
  show Res c σ F H env (rlO c.nm σ) (mkO ia (ev c.Φ c.io ia) env) _
  cases hm : mkO ia (ev c.Φ c.io ia) env with
  | stuck => rw [hm] at q; exact q
  | exc x e => rw [hm] at q; exact q
  | ok y env1 =>
    rw [hm] at q
    have q : Res c σ F H env (rlV c.nm σ) (R.opt ((getsO [y] env1).bind (onD o)) env1) Q := q
    intro F1 H1 v E1 S1 r1
    obtain ⟨z, hz, h1⟩ := opt_ok q
    unfold getsO at hz
    cases hg : y.get env1 with
    | none => rw [hg] at hz; cases hz
    | some d =>
      rw [hg] at hz
      exact ⟨F1, d, z, E1.le, rO.data r1 E1 hg, hz, Res.fin E1 (Res.shift h1 S1)⟩
/-- the new sorted list is laid -/
theorem laid_list {pins : List (Addr × Obj)} {s s' : Shared} {Q : VK} {ws : List V} {l : Addr} {out : Array Value} {n : Nat} (I : Inv X pins σ H s) (k : ∀ b u, s.heap.get? b = some u → s'.heap.get? b = some u) (hg : s'.gens = s.gens) (ho : s'.os = s.os)
    (hp : s.heap.objs.size ≤ l) (hl : ws.length ≤ sizeLine) (rv : Vals ws out.toList) (hc : s'.heap.get? l = some (seqObj "list" out n)) (h : H l = none → Q (.ref l) (upd H l (.lst ws))) : EP X pins σ Q (.ref l) s' := by
  have hn : H l = none := I.hok.fresh hp
  exact ⟨.ref l, upd H l (.lst ws), I.call' (ch := []) ho (Un.laid k hp hn) (I.hok.laid k hp ⟨hl, out.toList, n, rv, hc⟩) (by rw [hg]; exact I.bare) (fun _ z => nomatch z), rfl, h hn⟩
theorem strsV : ∀ {xs : List Str} {us : List Value}, Vals (xs.map V.str) us → StrsAre us xs
  | [], _, .nil => .nil
  | n :: ns, _, .cons r t => by
    obtain ⟨k, rfl⟩ := r
    exact .cons n k (strsV t)
theorem intsV : ∀ {xs : List Int} {us : List Value}, Vals (xs.map V.int) us → IntsAre us xs
  | [], _, .nil => .nil
  | n :: ns, _, .cons r t => by
    obtain ⟨k, rfl⟩ := r
    exact .cons n k (intsV t)
/-- set(a): run, its list handed on -/
theorem set_run {Y : VK} {ta : TE} (hc : X.calm = true) (hg2 : Gl X "set") (hm2 : X.mg "set" = none) (ha : PE X a ta) (na : starEach [a] X.env = (false, eval a X.env) :: starEach [] X.env) {pins : List (Addr × Obj)} {s : Shared} {Q : Value → Shared → Prop}
    (I : Inv X pins σ H s) (h : ta σ H fun v H1 => ∃ l ws, v = .ref l ∧ SqL X.K H1 l ws ∧ ws.length < 4000 ∧
      ((∃ ns : List Int, ws = ns.map V.int ∧ ∀ (s1 : Shared) (S : Addr) (n : Nat), Inv X pins σ H1 s1 → SetR X.w s1.heap S (fun j => decide (j ∈ ns)) n → Q (.ref S) s1) ∨
       (∃ xs : List Str, ws = xs.map V.str ∧ ∀ (s1 : Shared) (S : Addr) (D : SD), Inv X pins σ H1 s1 → s1.heap.get? S = some (sObj "set" D) → TxS X.prog X.w D xs → Q (.ref S) s1) ∨
       ∃ ks : List (Addr × List Int), ws = ks.map (fun p => V.ref p.1) ∧ ks.length < 64 ∧ (∀ p ∈ ks, SqT X.K H1 p.1 (p.2.map V.int)) ∧ X.A.units + 64 < cLine ∧
         ∀ (s1 : Shared) (S : Addr) (L : List (Addr × List Int)) es ep t, Inv X pins σ H1 s1 → SetTR X.prog X.w s1.heap S L es ep t → (∀ p ∈ L, p ∈ ks) → (∀ p ∈ ks, p.2 ∈ L.map (·.2)) → Q (.ref S) s1)) :
    wpAny (model X.prog X.w) X.A (eval (.Call (.Name "set" p2) [a] [] q) X.env) Q X.xe s := by
  refine Call_ (ld_blt I hg2 hm2 boot_set ?_)
  refine PyProof.Rows.callWith_type1 (PyProof.Rows.args_cons (thn (ha.run pins s σ H _ I h) fun v s1 ⟨x, H1, I1, r1, q1⟩ => PyProof.Rows.args_nil ?_) na) na rfl
  obtain ⟨l, ws, rfl, hq, hl, q1⟩ := q1
  cases r1
  obtain ⟨its, r, pl, hz⟩ := I1.list hq
  rcases q1 with ⟨ns, rfl, q1⟩ | ⟨xs, rfl, q1⟩ | ⟨ks, rfl, h64, hk, hu, q1⟩
  · have L := loop_ints (P := X.prog) (w := X.w) (items := its.toArray) (ns := ns) (by simpa using intsV r) (by rw [List.length_map] at hl; unfold scanBound; omega)
    exact set_made (I1.ok.hd hc) pl.isList L fun h' tk S hS hz hk => hz.elim fun n hz => q1 _ S n (I1.kept hk) hz.2
  · have L := loop_strs (P := X.prog) (w := X.w) (items := its.toArray) (xs := xs) (by simpa using strsV r) (by rw [List.length_map] at hl; unfold scanBound; omega)
    exact set_made (I1.ok.hd hc) pl.isList L fun h' tk S hS hz hk => hz.elim fun D hz => q1 _ S D (I1.kept hk) hz.1 hz.2
  · refine call_set_tups (P := X.prog) (w := X.w) ks (I1.ok.hd hc) pl.isList (by simpa using refs_of_vals r) (fun p hp => I1.isT (hk p hp)) h64 (by omega) fun h' tk L es ep t R g k => q1 _ _ L es ep t (I1.kept k) R (fun p hp => List.mem_of_mem_take (g.sub p hp)) fun p hp => g.all p (by rw [List.take_length]; exact hp)
theorem onD_sset {d : D} {z : Val} (h : onD .sset [d] = some z) : (∃ ns : List Int, d = .lst (ns.map D.int) ∧ ns.length < 4000 ∧ (ssetI ns).length < 64 ∧ z = ⟨.lst ((ssetI ns).map D.int), true⟩) ∨ (∃ xs : List Str, d = .lst (xs.map D.str) ∧ xs.length < 4000 ∧ (ssetS xs).length < 64 ∧ z = ⟨.lst ((ssetS xs).map D.str), true⟩) ∨
    ∃ ls : List (List Int), d = rowsL ls ∧ ls.length < 64 ∧ evenT ls = true ∧ z = ⟨rowsL (ssetT ls), true⟩ := by
  cases d with
  | lst ds =>
    unfold onD at h
    cases e1 : intsD ds with
    | some ns =>
      simp only [e1] at h
      split at h
      · rename_i hl; cases h; rw [intsD_eq e1]; exact .inl ⟨ns, rfl, hl.1, hl.2, rfl⟩
      · cases h
    | none =>
      simp only [e1] at h
      cases e2 : strsD ds with
      | none =>
        simp only [e2] at h
        cases e3 : tupsD ds with
        | none => rw [e3] at h; cases h
        | some ls =>
          rw [e3] at h
          simp only [Option.bind_some] at h
          split at h
          · rename_i hl; cases h; rw [tupsD_eq e3]; exact .inr (.inr ⟨ls, rfl, hl.1, hl.2, rfl⟩)
          · cases h
      | some xs =>
        simp only [e2] at h
        split at h
        · rename_i hl; cases h; rw [strsD_eq e2]; exact .inr (.inl ⟨xs, rfl, hl.1, hl.2, rfl⟩)
        · cases h
  | _ => cases h
/-- a set's rows, sorted, are the sorted set -/
theorem set_rows {ks L M : List (Addr × List Int)} (nd : (L.map (·.2)).Nodup) (h1 : ∀ p ∈ L, p ∈ ks) (h2 : ∀ p ∈ ks, p.2 ∈ L.map (·.2)) (h : M.map (·.2) = sortT (L.map (·.2))) : M.map (·.2) = ssetT (ks.map (·.2)) := by
  rw [h]
  have p := sortT_perm (L.map (·.2))
  refine ssetT_one ?_ fun k => ?_
  · refine List.Pairwise.imp₂ (fun x y a b => ?_) (sortT_ord _) (p.nodup_iff.mpr nd)
    by_cases c : lexLt x y = true
    · exact c
    · exact absurd (lexLt_tot x y c a) b
  · rw [p.mem_iff]
    constructor
    · intro hk
      obtain ⟨q, hq, rfl⟩ := List.mem_map.mp hk
      exact List.mem_map.mpr ⟨q, h1 q hq, rfl⟩
    · intro hk
      obtain ⟨q, hq, rfl⟩ := List.mem_map.mp hk
      exact h2 q hq
/-- few rows of no width -/
theorem few_rows {ks L : List (Addr × List Int)} {d : Nat} (nd : (L.map (·.2)).Nodup) (h1 : ∀ p ∈ L, p ∈ ks) (hl : ∀ p ∈ ks, p.2.length = d) (h2 : 2 ≤ L.length) : 1 ≤ d := by
  rcases Nat.eq_zero_or_pos d with z | z
  · match L, h2, nd, h1 with
    | x :: y :: L, _, nd, h1 =>
      have a := hl x (h1 x (by simp))
      have b := hl y (h1 y (by simp))
      rw [z, List.length_eq_zero_iff] at a b
      simp [a, b] at nd
  · exact z
theorem s_sset (hK : X.K = c.nm.K) (hu : X.A.units + 64 < cLine) (hc : X.calm = true) (hg : Gl X "sorted") (hm : X.mg "sorted" = none) (hg2 : Gl X "set") (hm2 : X.mg "set" = none) (ha : PE X a (tO c ia)) (na : starEach [a] X.env = (false, eval a X.env) :: starEach [] X.env)
    (nb : starEach [.Call (.Name "set" p2) [a] [] q] X.env = (false, eval (.Call (.Name "set" p2) [a] [] q) X.env) :: starEach [] X.env) :
    PE X (.Call (.Name "sorted" p) [.Call (.Name "set" p2) [a] [] q] [] pos) (tE c (.opn .sset (.cons ia .nil))) := by
  refine ⟨fun pins s σ H Q I h => ?_⟩
  refine Call_ (ld_blt I hg hm (by decide +kernel : bootBuiltins "sorted" = some (.builtin "sorted")) ?_)
  refine PyProof.Rows.callWith_builtin1 (PyProof.Rows.args_cons ?_ nb) nb rfl
  refine set_run (Y := Q) hc hg2 hm2 ha na I (tR_one (opn1 h) fun v H1 ⟨F1, d, z, l, r, hz, fin⟩ => ?_)
  rcases onD_sset hz with ⟨ns, rfl, l1, l2, rfl⟩ | ⟨xs, rfl, l1, l2, rfl⟩ | ⟨ls, rfl, l1, l2, rfl⟩
  · obtain ⟨a, vs, rfl, hv, rr⟩ := r.lst l
    have ev := RepL.ints rr
    subst ev
    refine ⟨a, _, rfl, SqL.of hv, by simpa using l1, .inl ⟨ns, rfl, fun s1 S n I1 hS => PyProof.Rows.args_nil ?_⟩⟩
    have key : ∀ ys : List Int, ys.Pairwise (· < ·) → (∀ k, k ∈ ys ↔ decide (k ∈ ns) = true) → ys = ssetI ns := fun ys h1 h2 => ssetI_one h1 fun k => by rw [h2 k, decide_eq_true_eq]
    have hn : n < 64 := by
      obtain ⟨o, es, ep, t, ho, hex, hd, g, nd, hm', hb, hf, hn, _⟩ := hS
      have e1 : (es.toList.map keyOf).length = n := by rw [List.length_map, Array.length_toList]; exact hn
      have := nodup_le (a := ssetI ns) nd fun k hk => (ssetI_mem ns k).mpr (of_decide_eq_true ((hm' k).mpr hk))
      omega
    refine sorted_set hS (I1.ok.hd hc) hn fun s' la out cc ys k g o hp hg hi hs hm hl => ?_
    have ey := key ys hs hm
    subst ey
    exact laid_list I1 k g o hp (by rw [List.length_map, sizeLine_eq]; omega) (vals_of_ints hi) hg fun hn => fin.newL l (RepL.of_ints _) _ hn
  · obtain ⟨a, vs, rfl, hv, rr⟩ := r.lst l
    have ev := RepL.strs rr
    subst ev
    refine ⟨a, _, rfl, SqL.of hv, by simpa using l1, .inr (.inl ⟨xs, rfl, fun s1 S D I1 hS hT => PyProof.Rows.args_nil ?_⟩)⟩
    have hsz : D.1.size < 64 := by
      obtain ⟨l', F', nd, me, le⟩ := hT.ex
      have := nodup_le (a := ssetS xs) nd fun k hk => (ssetS_mem xs k).mpr ((me k).mp hk)
      have := F'.sz
      omega
    refine sorted_texts hS hT (I1.ok.hd hc) hsz (by unfold scanBound; omega) fun s' la out cc ys k g o hp hg hi hs nd hm => ?_
    have ey := ssetS_one (sortedS_rise hs nd) hm
    subst ey
    exact laid_list I1 k g o hp (by rw [List.length_map, sizeLine_eq]; omega) (vals_of_strs hi) hg fun hn => fin.newL l (RepL.of_strs _) _ hn
  · obtain ⟨a, vs, rfl, hv, rr⟩ := r.lst l
    obtain ⟨ks, f1, f2, f3⟩ := rows_ks rr
    subst f1 f2
    obtain ⟨d, g1, _⟩ := evenT_len l2
    have gk : ∀ p ∈ ks, p.2.length = d := fun p hp => g1 _ (List.mem_map.mpr ⟨p, hp, rfl⟩)
    have l1 : ks.length < 64 := by simpa using l1
    refine ⟨a, _, rfl, SqL.of hv, by rw [List.length_map]; omega, .inr (.inr ⟨ks, rfl, l1, fun p hp => SqT.of (l.tup (f3 p hp)), hu, fun s1 S L es ep t I1 R h1 h2 => PyProof.Rows.args_nil ?_⟩)⟩
    refine rows_sset R (I1.ok.hd hc) (few_rows R.nd h1 gk) (fun p hp => gk p (h1 p hp)) fun s' la out cc M k g o hp hg ho hM hs => ?_
    have hsM := set_rows R.nd h1 h2 hs
    have hMl : M.length ≤ sizeLine := by
      have e := congrArg List.length hs
      rw [List.length_map, (sortT_perm _).length_eq, List.length_map] at e
      have := R.few
      rw [sizeLine_eq]; omega
    refine laid_list (ws := M.map fun q => V.ref q.1) I1 k g o hp (by rw [List.length_map]; exact hMl) (by rw [ho]; exact vals_of_refs M) hg fun hn => fin.newL l ?_ _ hn
    rw [← hsM]
    exact rep_rows fun p hp => f3 p (h1 p (hM p hp))
theorem s_lset (hK : X.K = c.nm.K) (hc : X.calm = true) (hg : Gl X "len") (hm : X.mg "len" = none) (hg2 : Gl X "set") (hm2 : X.mg "set" = none) (ha : PE X a (tO c ia)) (na : starEach [a] X.env = (false, eval a X.env) :: starEach [] X.env)
    (nb : starEach [.Call (.Name "set" p2) [a] [] q] X.env = (false, eval (.Call (.Name "set" p2) [a] [] q) X.env) :: starEach [] X.env) :
    PE X (.Call (.Name "len" p) [.Call (.Name "set" p2) [a] [] q] [] pos) (tE c (.opn .lset (.cons ia .nil))) := by
  refine ⟨fun pins s σ H Q I h => ?_⟩
  refine Call_ (ld_blt I hg hm boot_len ?_)
  refine PyProof.Rows.callWith_builtin1 (PyProof.Rows.args_cons ?_ nb) nb rfl
  refine set_run (Y := Q) hc hg2 hm2 ha na I (tR_one (opn1 h) fun v H1 ⟨F1, d, z, l, r, hz, fin⟩ => ?_)
  have hz2 : (∃ ns : List Int, d = .lst (ns.map D.int) ∧ ns.length < 4000 ∧ (ssetI ns).length < 64 ∧ z = ⟨.int (ssetI ns).length, false⟩) ∨ ∃ xs : List Str, d = .lst (xs.map D.str) ∧ xs.length < 4000 ∧ (ssetS xs).length < 64 ∧ z = ⟨.int (ssetS xs).length, false⟩ := by
    cases d with
    | lst ds =>
      unfold onD at hz
      cases e1 : intsD ds with
      | some ns =>
        simp only [e1] at hz
        split at hz
        · rename_i hl; cases hz; rw [intsD_eq e1]; exact .inl ⟨ns, rfl, hl.1, hl.2, rfl⟩
        · cases hz
      | none =>
        simp only [e1] at hz
        cases e2 : strsD ds with
        | none => simp only [e2] at hz; cases hz
        | some xs =>
          simp only [e2] at hz
          split at hz
          · rename_i hl; cases hz; rw [strsD_eq e2]; exact .inr ⟨xs, rfl, hl.1, hl.2, rfl⟩
          · cases hz
    | _ => cases hz
  rcases hz2 with ⟨ns, rfl, l1, l2, rfl⟩ | ⟨xs, rfl, l1, l2, rfl⟩
  · obtain ⟨a, vs, rfl, hv, rr⟩ := r.lst l
    have ev := RepL.ints rr
    subst ev
    refine ⟨a, _, rfl, SqL.of hv, by simpa using l1, .inl ⟨ns, rfl, fun s1 S n I1 hS => PyProof.Rows.args_nil ?_⟩⟩
    obtain ⟨o, es, ep, t, ho, hex, hd, g, nd, hm', hb, hf, hn, _⟩ := hS
    have e1 : (es.toList.map keyOf).length = n := by rw [List.length_map, Array.length_toList]; exact hn
    have le1 := nodup_le (a := ssetI ns) nd fun k hk => (ssetI_mem ns k).mpr (of_decide_eq_true ((hm' k).mpr hk))
    have nd2 : (ssetI ns).Nodup := (ssetI_rise ns).imp fun h z => by subst z; exact Int.lt_irrefl _ h
    have le2 := nodup_le (a := es.toList.map keyOf) nd2 fun k hk => (hm' k).mp (decide_eq_true ((ssetI_mem ns k).mp hk))
    have en : n = (ssetI ns).length := by omega
    exact call_len_set ho hex hd hf (by rw [hn]; omega) ⟨.int (ssetI ns).length, H1, I1.tok _, ⟨_, by rw [hn, en]⟩, fin.flat l .int⟩
  · obtain ⟨a, vs, rfl, hv, rr⟩ := r.lst l
    have ev := RepL.strs rr
    subst ev
    refine ⟨a, _, rfl, SqL.of hv, by simpa using l1, .inr (.inl ⟨xs, rfl, fun s1 S D I1 hS hT => PyProof.Rows.args_nil ?_⟩)⟩
    obtain ⟨l', F', nd, me, le⟩ := hT.ex
    have le1 := nodup_le (a := ssetS xs) nd fun k hk => (ssetS_mem xs k).mpr ((me k).mp hk)
    have nd2 : (ssetS xs).Nodup := (ssetS_rise xs).imp fun h z => by subst z; exact LtS.irr _ h
    have le2 := nodup_le (a := l') nd2 fun k hk => (me k).mpr ((ssetS_mem xs k).mp hk)
    have en : D.1.size = (ssetS xs).length := by have := F'.sz; omega
    exact call_len_set (es := D.1) hS ⟨rfl, rfl, rfl⟩ rfl F'.fit (by omega) ⟨.int (ssetS xs).length, H1, I1.tok _, ⟨_, by rw [en]⟩, fin.flat l .int⟩
end
end MT
namespace MT
open PySem PySem.Spec PyProof.Rows L2
end MT
namespace MT
open PySem PySem.Spec PyProof.Rows L2 He
structure CTab where
  /-- the classes that stand there, by number -/
  names : List (Nat × Str) := []
  isa : List ((Nat × Nat) × Bool) := []
  flds : List (Nat × List Nat) := []
  fns : List Str := []
  /-- class, method's name, the class that holds it -/
  meths : List (Nat × Str × Str) := []
  /-- class, the class that holds its __init__ -/
  mks : List (Nat × Str) := []
  /-- classes that things of built-in sorts are asked for -/
  bino : List Nat := []
  /-- the exception classes, by number -/
  xnames : List (Nat × Str) := []
  /-- what else is looked at -/
  extra : PySem.W.Frag → Bool := fun _ => true
def lookN {β : Type} : List (Nat × β) → Nat → Option β
  | [], _ => none
  | (k, v) :: r, n => if k = n then some v else lookN r n
def look2 {β : Type} : List ((Nat × Nat) × β) → Nat → Nat → Option β
  | [], _, _ => none
  | ((k, k'), v) :: r, n, m => if k = n ∧ k' = m then some v else look2 r n m
theorem look2_mem {β : Type} : ∀ {l : List ((Nat × Nat) × β)} {n m : Nat} {v : β}, look2 l n m = some v → ((n, m), v) ∈ l
  | [], _, _, _, h => by cases h
  | ((k, k'), u) :: r, n, m, v, h => by
    unfold look2 at h
    split at h
    · rename_i e; obtain ⟨e1, e2⟩ := e; subst e1 e2; cases h; exact List.mem_cons_self
    · exact List.mem_cons_of_mem _ (look2_mem h)
namespace CTab
variable (T : CTab) (K : PySem.W.Frag)
def isaF (c c' : Nat) : Option Bool := look2 T.isa c c'
def fldF (c f : Nat) : Bool := match lookN T.flds c with
  | some l => l.contains f
  | none => false
def nam (c : Nat) : Str := (lookN T.names c).getD ((lookN T.xnames c).getD "")
def adr (c : Nat) : Addr := ga K (T.nam c)
def fn (f : Nat) : Str := T.fns.getD f ""
def nm : Nm := ⟨K, T.adr K, T.fn, fun _ => none⟩
def tyNs : List String := ["str", "int", "bool", "list", "tuple", "dict"]
def biNs : List String := ["NoneType", "bool", "int", "str", "list", "tuple", "dict"]
def okCls (c : Nat) : Bool := (Fa.cls (T.nam c)).ok K && (eqO (PySem.W.findIn K (.ref (T.adr K c)) "__class__") (some (some (.builtin "object.__class__"))) && (decide (PySem.W.mroIn K (T.adr K c) (.type "object") = some true) &&
  tyNs.all fun t => decide (PySem.W.kitOne K (.ref (T.adr K c)) (.type t) = some false)))
def okIsa : Bool := T.isa.all fun e => decide (PySem.W.kitOne K (.ref (T.adr K e.1.1)) (.ref (T.adr K e.1.2)) = some e.2)
def okFld : Bool := T.flds.all fun e => e.2.all fun f => (Fa.noat (T.nam e.1) (T.fn f)).ok K
def okGet : Bool := T.names.isEmpty || (decide (PySem.W.specialIn K (.builtin "object.__class__") "__get__" = some (some (.builtin "getset_descriptor.__get__"))) && decide (PySem.W.takesIn K (.builtin "object.__class__") = some true))
def okM (q : Nat × Str × Str) : Bool := (Fa.meth (T.nam q.1) q.2.1).ok K && decide (ma K (T.adr K q.1) q.2.1 = fAd K (q.2.2, some q.2.1))
def okK (q : Nat × Str) : Bool := (Fa.mkr (T.nam q.1)).ok K && decide (ma K (T.adr K q.1) "__init__" = fAd K (q.2, some "__init__"))
def okB (c : Nat) : Bool := biNs.all fun t => decide (PySem.W.kitOne K (.type t) (.ref (T.adr K c)) = some false)
def ok : Bool := (T.names.all fun e => T.okCls K e.1) && (T.okIsa K && (T.okFld K && (T.okGet K && (T.meths.all (fun q => T.okM K q) && (T.mks.all (fun q => T.okK K q) && (T.bino.all (fun c => T.okB K c) && T.extra K))))))
/-- of the table itself -/
def fit : Bool := (T.isa.all fun e => (T.names.any fun n => decide (n.1 = e.1.1))) && ((T.flds.all fun e => (T.names.any fun n => decide (n.1 = e.1)) && e.2.all fun f => decide (f < T.fns.length)) && decide T.fns.Nodup)
end CTab
section
variable {T : CTab} {K : PySem.W.Frag} {Φ : CT}
structure TabOk (T : CTab) (K : PySem.W.Frag) : Prop where
  cls : ∀ c, (T.names.any fun n => decide (n.1 = c)) = true → T.okCls K c = true
  isa : T.okIsa K = true
  fld : T.okFld K = true
  get : T.okGet K = true
  mth : ∀ q ∈ T.meths, T.okM K q = true
  mks : ∀ q ∈ T.mks, T.okK K q = true
  bin : ∀ c ∈ T.bino, T.okB K c = true
  ext : T.extra K = true
theorem TabOk.of (h : T.ok K = true) : TabOk T K := by
  obtain ⟨h1, h⟩ := ba h
  obtain ⟨h2, h⟩ := ba h
  obtain ⟨h3, h⟩ := ba h
  obtain ⟨h4, h⟩ := ba h
  obtain ⟨h5, h⟩ := ba h
  obtain ⟨h6, h⟩ := ba h
  obtain ⟨h7, h8⟩ := ba h
  refine ⟨fun c hc => ?_, h2, h3, h4, List.all_eq_true.mp h5, List.all_eq_true.mp h6, List.all_eq_true.mp h7, h8⟩
  obtain ⟨e, he, hd⟩ := List.any_eq_true.mp hc
  have := List.all_eq_true.mp h1 e he
  rw [of_decide_eq_true hd] at this
  exact this
theorem clsK_of (O : TabOk T K) (hf : T.fit = true) (h : Φ.isa = T.isaF) : ClsK K (T.nm K) Φ where
  isa := fun c c' b e => by
    rw [h] at e
    exact of_decide_eq_true (List.all_eq_true.mp O.isa _ (look2_mem e))
  own := fun c b e => by
    rw [h] at e
    have l1 := List.all_eq_true.mp (ba hf).1 _ (look2_mem e)
    obtain ⟨h1, h2⟩ := ba (O.cls c l1)
    obtain ⟨h2, h3⟩ := ba h2
    obtain ⟨h3, h4⟩ := ba h3
    refine ⟨cls_ok h1, eqO_ok h2, of_decide_eq_true h3, fun t ht => of_decide_eq_true (List.all_eq_true.mp h4 (tyN t) ?_)⟩
    cases t <;> first | (cases ht; done) | (unfold tyN CTab.tyNs; simp)
  get := fun ⟨c, b, e⟩ => by
    rw [h] at e
    have l1 := List.all_eq_true.mp (ba hf).1 _ (look2_mem e)
    have g := O.get
    unfold CTab.okGet at g
    have ne : T.names.isEmpty = false := by
      cases q : T.names with
      | nil => rw [q] at l1; cases l1
      | cons _ _ => rfl
    rw [ne, Bool.false_or] at g
    obtain ⟨g1, g2⟩ := ba g
    exact ⟨of_decide_eq_true g1, of_decide_eq_true g2⟩
end
section
variable (n : Nat) (T : CTab) (fa : List Fa) (fn : List DefD)
abbrev AlM : Type := Bool × AlD
def obsM (K : PySem.W.Frag) : AlM := (T.ok K, obsD fa fn K)
def SaysM (K : PySem.W.Frag) : Prop := obsM T fa fn K = (true, valD fn)
def obsMG (g : Addr → Option Obj) : AlM := obsM T fa fn (frG g (asD g n ++ [cStatics]))
def hookM : PySem.W.Hook where
  α := AlM
  obs := fun s => obsMG n T fa fn s.heap.get?
  val := fun _ => (true, valD fn)
  says := fun _ h => ∃ K : PySem.W.Frag, K.In h ∧ SaysM T fa fn K
  of := fun _ _ e => ⟨_, frG_in, e⟩
  keeps := fun _ _ _ ⟨K, hK, c⟩ k => ⟨K, PySem.W.Frag.In.keeps hK k, c⟩
theorem obsMG_eq {g : Addr → Option Obj} {s : Shared} (h : ∀ a, g a = s.heap.get? a) : obsMG n T fa fn g = (hookM n T fa fn).obs s := by
  rw [show g = s.heap.get? from funext h]; rfl
end
theorem SaysM.tab {T : CTab} {fa : List Fa} {fn : List DefD} {K : PySem.W.Frag} (c : SaysM T fa fn K) : TabOk T K := TabOk.of (congrArg (fun z : AlM => z.1) c)
theorem SaysM.rest {T : CTab} {fa : List Fa} {fn : List DefD} {K : PySem.W.Frag} (c : SaysM T fa fn K) : SaysD fa fn K := congrArg (fun z : AlM => z.2) c
end MT
namespace MT
open PySem PySem.Spec PyProof.Rows L2
section
variable {X : Cx} {c : Sx} {e a b o : Expr} {es : List Expr} {ia ib ic ik : IE} {as : IEs} {pos apos p p2 q kp vp : Pos} {σ : St} {F H F1 H1 : Hp} {env env1 : Env}
/-- the method by its rule, on data -/
structure MuR (X : Cx) (nm : Nm) (m : MI) (id : String) (r : V → List V → Hp → VK → Prop) : Prop where
  mt : MtR X id r
  go : ∀ {F H : Hp} {p : Addr} {d0 d' rr : D} {ds : List D} {ws : List V}, Le F H → At nm F H p d0 → RepL nm F ws ds → muD m d0 ds = some (d', rr) → ∃ o w, At nm F (upd H p o) p d' ∧ Rep nm F w rr ∧ ∀ Q : VK, Q w (upd H p o) → r (.ref p) ws H Q
def MI.isL : MI → Bool
  | .put | .dclear | .dpop | .dsetd => false
  | _ => true
theorem muD_lst {m : MI} {d0 : D} {ds : List D} {z : D × D} (hm : MI.isL m = true) (h : muD m d0 ds = some z) : ∃ xs, d0 = .lst xs ∧ muL m xs ds = some z := by
  unfold muD at h
  cases m <;> first | (cases hm; done) | (
    dsimp only at h
    cases d0 with
    | lst xs => exact ⟨xs, rfl, h⟩
    | _ => cases h)
theorem mu_append : MuR X c.nm .append "list.append" rAppend := ⟨mt_append, fun {F H p d0 d' rr ds ws} l at0 rl hm => by
  obtain ⟨xs, e0, hq⟩ := muD_lst rfl hm
  clear hm
  subst e0
  have hm := hq
  clear hq
  unfold muL at hm
  dsimp only at hm
  split at hm <;> first | contradiction | skip
  rename_i d
  split at hm
  · rename_i hl
    cases hm
    obtain ⟨vs, hv, rr⟩ := at0
    cases rl with
    | cons r1 rn =>
      cases rn
      exact ⟨.lst (vs ++ [_]), .non, ⟨_, upd_same, rr.append (.cons r1 .nil)⟩, .non, fun Q q => ⟨p, vs, _, rfl, rfl, hv, by rw [line_eq, rr.length]; exact hl, q⟩⟩
  · cases hm⟩
theorem mu_popAt : MuR X c.nm .popAt "list.pop" rPopAt := ⟨mt_popAt, fun {F H p d0 d' rr ds ws} l at0 rl hm => by
  obtain ⟨xs, e0, hq⟩ := muD_lst rfl hm
  clear hm
  subst e0
  have hm := hq
  clear hq
  unfold muL at hm
  dsimp only at hm
  split at hm <;> first | contradiction | skip
  rename_i i
  split at hm
  · rename_i hl
    cases e : xs[i.toNat]? with
    | none => rw [e] at hm; cases hm
    | some d =>
      rw [e] at hm
      cases hm
      obtain ⟨vs, hv, rr⟩ := at0
      cases rl with
      | cons r1 rn =>
        cases rn
        cases r1
        obtain ⟨w, hw, rw'⟩ := rr.get e
        have hlt := (List.getElem?_eq_some_iff.mp hw).1
        refine ⟨.lst (vs.eraseIdx i.toNat), w, ⟨_, upd_same, rr.eraseIdx _⟩, rw', fun Q q => ⟨p, vs, i, i.toNat, w, rfl, rfl, hv, by omega, hl.2, ?_, hw, q⟩⟩
        have e1 : (if i < 0 then i + (vs.length : Int) else i) = i := if_neg (by omega)
        have e2 : (decide (0 ≤ i) && decide (i < (vs.length : Int))) = true := by rw [Bool.and_eq_true]; exact ⟨decide_eq_true hl.1, decide_eq_true (by omega)⟩
        show (if (decide (0 ≤ (if i < 0 then i + (vs.length : Int) else i)) && decide ((if i < 0 then i + (vs.length : Int) else i) < (vs.length : Int))) = true then some (if i < 0 then i + (vs.length : Int) else i).toNat else none) = some i.toNat
        rw [e1, if_pos e2]
  · cases hm⟩
theorem mu_dclear : MuR X c.nm .dclear "dict.clear" rDClear := ⟨mtd_clear, fun {F H p d0 d' rr ds ws} l at0 rl hm => by
  unfold muD at hm
  dsimp only at hm
  split at hm <;> first | contradiction | skip
  split at hm <;> first | contradiction | skip
  cases hm
  obtain ⟨kvs, hv, kk, rr⟩ := at0
  cases rl
  exact ⟨.dK [], .non, ⟨[], upd_same, rfl, .nil⟩, .non, fun Q q => ⟨p, kvs, rfl, rfl, hv, q⟩⟩⟩
def MI.ty : MI → String
  | .dclear => "dict"
  | .dpop => "dict"
  | .dsetd => "dict"
  | _ => "list"
theorem mu_ty {nm : Nm} {m : MI} {d : D} {p : Addr} (h : preM m d = true) (at0 : At nm F H p d) : L2.tyV X.K m.ty (.ref p) H := by
  unfold preM at h
  cases m <;> first | (cases h; done) | (
    dsimp only at h
    cases d with
    | lst xs =>
      first
        | (cases h; done)
        | (obtain ⟨vs, hv, _⟩ := at0; exact .inl ⟨rfl, vs, .inl (.inl hv)⟩)
    | dK kvs =>
      first
        | (cases h; done)
        | (obtain ⟨kv, hv, _⟩ := at0; exact .inr (.inr (.inl ⟨rfl, .inl ⟨kv, hv⟩⟩)))
    | _ => cases h)
theorem mu_core {m : MI} {id : String} {r : V → List V → Hp → VK → Prop} {i : Nat} {x1 : Val} {p : Addr} {ds : List D} {ws : List V} {Q : VK} (R : MuR X c.nm m id r) (E1 : EnvR c.nm F1 H1 σ env1) (S1 : Step (Ow σ env) F H (Ow σ env1) F1 H1) (hv : σ[i]? = some (some (.ref p))) (h2 : slot env1 i = some x1) (r1 : RepL c.nm F1 ws ds)
    (h1 : Res c σ F H env (rlV c.nm σ) (if x1.own = true then (match muD m x1.d ds with
      | some (d', r) => .ok ⟨r, false⟩ (env1.set i (some ⟨d', true⟩))
      | none => .stuck) else .stuck) Q) : r (.ref p) ws H1 Q := by
  split at h1
  · rename_i ho1
    cases hm : muD m x1.d ds with
    | none => rw [hm] at h1; exact h1.elim
    | some z =>
      obtain ⟨d', rr⟩ := z
      rw [hm] at h1
      obtain ⟨p1, hv1, fp1, at1, ow1⟩ := E1.own_at h2 ho1
      rw [hv] at hv1; cases hv1
      obtain ⟨o, w, a1, a2, a3⟩ := R.go E1.le at1 r1 hm
      have hx1 : x1 = ⟨x1.d, true⟩ := by cases x1; simp only at ho1; rw [ho1]
      obtain ⟨E2, S2⟩ := E1.mutate (d' := d') (o := o) (by rw [h2]; exact congrArg some hx1) hv a1
      exact a3 Q (h1 F1 _ w E2 (S1.trans S2) ⟨a2, fun z => nomatch z⟩)
  · exact h1.elim
theorem s_mu {m : MI} {i : Nat} {name : Str} {id : String} {r : V → List V → Hp → VK → Prop} (R : MuR X c.nm m id r) (pa : PlainAttrs m.ty) (sl : Slot m.ty name id) (hty : typeOf (.builtin id) = pure (.type "method_descriptor")) (ho : PE X o (tVar i)) (ha : PA X (e :: es) (tVs c as))
    (hbase : attributeBase o name X.env (eval o X.env) = eval o X.env)
    (hfew : ((backTo pos (starEach (e :: es) X.env)).all (fun x => !x.1) && (backToKw pos (keywordEach [] X.env)).all (fun x => x.1.isSome)
      && decide ((e :: es).length + ([] : List Keyword).length + (if ([] : List Keyword).isEmpty then 0 else 1) < 30)) = true)
    (hline : (apos.endLine == pos.line) = true) (hs : starEach (e :: es) X.env = (false, eval e X.env) :: starEach es X.env) (hplain : (backTo pos (starEach es X.env)).any (·.1) = false) :
    PE X (.Call (.Attribute o name apos) (e :: es) [] pos) (tE c (.mu i m as)) := by
  refine (pe_bm pa sl hty R.mt ho ha hbase hfew hline hs hplain).imp fun σ H Q ⟨F, env, E, q⟩ => ?_
  unfold ev at q
  cases h0 : slot env i with
  | none => rw [h0] at q; exact q.elim
  | some x0 =>
    rw [h0] at q
    simp only at q
    split at q
    · rename_i hp
      obtain ⟨p, hv, fp, at0, ow⟩ := E.own_at h0 hp.1
      refine ⟨.ref p, hv, mu_ty hp.2 at0, F, env, E, Res_bind q fun ds ws F1 H1 env1 E1 S1 r1 h1 => ?_⟩
      cases h2 : slot env1 i with
      | none => rw [h2] at h1; exact h1.elim
      | some x1 => rw [h2] at h1; exact mu_core R E1 S1 hv h2 r1 h1
    · exact q.elim
theorem s_mu0 {m : MI} {i : Nat} {name : Str} {id : String} {r : V → List V → Hp → VK → Prop} (R : MuR X c.nm m id r) (pa : PlainAttrs m.ty) (sl : Slot m.ty name id) (hty : typeOf (.builtin id) = pure (.type "method_descriptor")) (ho : PE X o (tVar i))
    (hbase : attributeBase o name X.env (eval o X.env) = eval o X.env) (hline : (apos.endLine == pos.line) = true) :
    PE X (.Call (.Attribute o name apos) [] [] pos) (tE c (.mu i m .nil)) := by
  refine (pe_bm0 pa sl hty R.mt ho hbase hline).imp fun σ H Q ⟨F, env, E, q⟩ => ?_
  unfold ev at q
  cases h0 : slot env i with
  | none => rw [h0] at q; exact q.elim
  | some x0 =>
    rw [h0] at q
    simp only at q
    split at q
    · rename_i hp
      obtain ⟨p, hv, fp, at0, ow⟩ := E.own_at h0 hp.1
      refine ⟨.ref p, hv, mu_ty hp.2 at0, ?_⟩
      have q : Res c σ F H env (rlV c.nm σ) (match slot env i with
        | some v => if v.own = true then (match muD m v.d [] with
          | some (d', r) => .ok ⟨r, false⟩ (env.set i (some ⟨d', true⟩))
          | none => .stuck) else .stuck
        | none => .stuck) Q := q
      rw [h0] at q
      exact mu_core R E Step.refl hv h0 .nil q
    · exact q.elim
end
end MT
namespace MT
open PySem PySem.Spec PyProof.Rows L2
section
variable {X : Cx} {c : Sx} {e a b o tg : Expr} {es : List Expr} {ia ib ic ik : IE} {as : IEs} {pos apos p p2 q kp vp : Pos} {σ : St} {F H F1 H1 : Hp} {env env1 : Env}
theorem put_core {nm : Nm} {p : Addr} {d0 kd vd d' : D} {kv v : V} (l : Le F H) (at0 : At nm F H p d0) (rk : DataR nm F H kv kd) (rv : Rep nm F v vd) (hm : muPut d0 [kd, vd] = some d') : ∃ o, At nm F (upd H p o) p d' ∧ ∀ Q : Hp → Prop, Q (upd H p o) → rPut (.ref p) kv v H Q := by
  unfold muPut at hm
  cases d0 with
  | dK kvs =>
    dsimp only at hm
    cases hk : keyD kd with
    | none => rw [hk] at hm; cases hm
    | some key =>
      rw [hk] at hm
      have hm : (if kvs.length < lineD then some (D.dK (putA kvs key vd)) else none) = some d' := hm
      split at hm
      · rename_i hl
        cases hm
        obtain ⟨kv1, hp1, hkeys, rr⟩ := at0
        obtain ⟨a1, a2⟩ := putA_rep hkeys rr (k := key) rv
        have hu := key_rep rk hk
        subst hu
        have hl1 : kv1.length = kvs.length := by simpa using congrArg List.length hkeys
        exact ⟨.dK (putK kv1 key v), ⟨_, upd_same, a1, a2⟩, fun Q q => .inr ⟨p, _, rfl, DPut.k hp1 (by rw [line_eq, hl1]; exact hl), q⟩⟩
      · cases hm
  | dT kvs =>
    dsimp only at hm
    split at hm
    · rename_i ks v' ek
      cases ek
      cases hk : keysD ks with
      | none => rw [hk] at hm; cases hm
      | some key =>
        rw [hk] at hm
        have hm : (if kvs.length < lineD then some (D.dT (putA kvs key vd)) else none) = some d' := hm
        split at hm
        · rename_i hl
          cases hm
          obtain ⟨kv1, hp1, hkeys, rr⟩ := at0
          obtain ⟨a1, a2⟩ := putA_rep hkeys rr (k := key) rv
          obtain ⟨b, ws, rfl, _, hb, rk⟩ := rk.tup l
          have hu := keysD_rep rk hk
          subst hu
          have hl1 : kv1.length = kvs.length := by simpa using congrArg List.length hkeys
          exact ⟨.dT (putK kv1 key v), ⟨_, upd_same, a1, a2⟩, fun Q q => .inr ⟨p, _, rfl, DPut.t hp1 hb (by rw [line_eq, hl1]; exact hl), q⟩⟩
        · cases hm
    · cases hm
  | lst xs =>
    dsimp only at hm
    split at hm
    · rename_i k v' ek
      cases ek
      cases hj : ixN xs.length k with
      | none => rw [hj] at hm; cases hm
      | some j =>
        rw [hj] at hm
        cases hm
        obtain ⟨vs1, hp1, rr⟩ := at0
        exact ⟨.lst (vs1.set j v), ⟨_, upd_same, rr.set rv j⟩, fun Q q => .inl ⟨p, vs1, k, j, rfl, rk.int, hp1, by rw [rr.length]; exact hj, q⟩⟩
    · cases hm
  | _ => cases hm
theorem ss_put {i : Nat} {p : Pos} (hu : X.A.units + 1 < cLine) (he : PE X e (tE c ia)) (ho : PE X o (tVar i)) (hk : PE X a (tE c ik))
    (ha : ∀ v, assign (.Subscript o a p) X.env v = (do
      let ov ← holding [v] (eval o X.env)
      let iv ← holding [v, ov] (eval a X.env)
      standAt p
      holding [v, ov, iv] (setItem ov iv v)
      release [v, ov, iv] []))
    (hs : swapsWithSole [.Subscript o a p] e pos.line X.env = pure false) (hw : swappedStores [.Subscript o a p] e X.env = pure none) (h1 : (assignEach [.Subscript o a p] X.env).map (·.2) = [assign (.Subscript o a p) X.env]) :
    PS X (.Assign [.Subscript o a p] e pos) (tS c (.put i ik ia)) := by
  refine (ps_asg he (pg_sub ho hk (set_any hu) ha) hs hw h1).imp fun D σ H ⟨F, env, E, q⟩ => ⟨F, env, E, ?_⟩
  unfold ex at q
  refine X_bind q fun x v F1 H1 env1 E1 S1 r1 h1 => ?_
  obtain ⟨F2, E2, rep, sb, le, nw⟩ := E1.shareV r1.1 fun o p e => (r1.2 o p e).2
  have S2 := S1.shared sb fun b hb => (nw b hb).imp id fun z => (r1.2 z.1 b z.2).1
  have h2 := XRes.shift h1 (Aft.of E2 S2)
  split at h1
  · rename_i hsome
    rw [if_pos hsome] at h2
    cases h0 : slot env1 i with
    | none => rw [h0] at hsome; cases hsome
    | some x0 =>
      obtain ⟨w, hw, _⟩ := E2.val i x0 h0
      refine ⟨w, hw, F2, env1, E2, X_bind h2 fun y u F3 H3 env3 E3 S3 r3 h3 => ?_⟩
      cases h4 : slot env3 i with
      | none => rw [h4] at h3; exact h3.elim
      | some s =>
        rw [h4] at h3
        simp only at h3
        split at h3
        · rename_i ho
          obtain ⟨p, hv, fp, at1, ow1⟩ := E3.own_at h4 ho
          rw [hw] at hv; cases hv
          have hs : slot env3 i = some ⟨s.d, true⟩ := by rw [h4]; cases s; simp only at ho; rw [ho]
          have hm0 : muD .put s.d [y.d, x.d] = (muPut s.d [y.d, x.d]).map fun d => (d, .non) := rfl
          rw [hm0] at h3
          cases hm : muPut s.d [y.d, x.d] with
          | none => rw [hm] at h3; exact h3.elim
          | some d' =>
            rw [hm] at h3
            obtain ⟨oo, a1, a2⟩ := put_core E3.le at1 r3.1.data (rep.mono S3.sub) hm
            obtain ⟨E4, S4⟩ := E3.mutate (d' := d') (o := oo) hs hw a1
            exact a2 _ (h3 σ F3 _ (Aft.of E4 (S3.trans S4)))
        · exact h3.elim
  · exact h1.elim
theorem Le.lock {d : Addr} {u : HO} {od : Obj} (l : Le F H) (hd : H d = some u) (hF : F d = some u) (hu : (∃ kvs, u = .dK kvs) ∨ ∃ kvs, u = .dT kvs) : Le F (upd H d (.frz od u)) := fun a o h => by
  by_cases e : a = d
  · subst e; rw [hF] at h; cases h; rw [upd_same]; exact .inr (.inl ⟨hu, od, rfl⟩)
  · rw [upd_ne e]; exact l a o h
theorem At.off {nm : Nm} {a d : Addr} {x : D} {o : HO} (h : At nm F H a x) (ne : a ≠ d) : At nm F (upd H d o) a x := h.free ne
theorem EnvR.relock {nm : Nm} {d : Addr} {o : HO} (E : EnvR nm F H σ env) (l : Le F (upd H d o)) {u : HO} (hF : F d = some u) (hu : ∀ n, u ≠ .own n) : EnvR nm F (upd H d o) σ env where
  len := E.len
  le := l
  val := fun i x hx => by
    obtain ⟨v, hv, r⟩ := E.val i x hx
    refine ⟨v, hv, ?_⟩
    unfold ValR at r ⊢
    split
    · rename_i ho
      rw [if_pos ho] at r
      obtain ⟨a, rfl, fa, q⟩ := r
      exact ⟨a, rfl, fa, q.off fun z => by subst z; rw [hF] at fa; cases fa⟩
    · rename_i ho
      rw [if_neg ho] at r
      exact r
  sep := E.sep
  cel := ⟨fun n x h => let ⟨a, h1, h2⟩ := E.cel.at_ n x h; ⟨a, h1, h2.off fun z => by subst z; rw [hF] at h1; cases h1; exact hu n rfl⟩, E.cel.lt, E.cel.inj⟩
  base := E.base
/-- a step within the lock, seen from without -/
theorem Aft.unlock {d : Addr} {u : HO} {od : Obj} {σ' : St} {F' H' : Hp} {e : Env} (E : EnvR c.nm F H σ env) (hd : H d = some u) (hF : F d = some u) (hu : (∃ kvs, u = .dK kvs) ∨ ∃ kvs, u = .dT kvs) (A : Aft c σ F (upd H d (.frz od u)) env σ' F' H' e) :
    H' d = some (.frz od u) ∧ Aft c σ F H env σ' F' (upd H' d u) e := by
  have hF' := A.step.sub d u hF
  have no : ∀ n, u ≠ .own n := fun n z => by subst z; rcases hu with ⟨_, z⟩ | ⟨_, z⟩ <;> cases z
  have nd : ¬ Ow σ env d := fun ⟨i, x, hx, ho, hs⟩ => by
    obtain ⟨v, hv, r⟩ := E.val i x hx
    rw [hs] at hv; cases hv
    unfold ValR at r
    rw [if_pos ho] at r
    obtain ⟨a, q, fa, _⟩ := r
    cases q
    rw [hF] at fa; cases fa
  have h1 := A.step.keep d _ upd_same nd fun ⟨n, z⟩ => by rw [hF] at z; cases z; exact no n rfl
  have lk : ∀ a, upd H d (.frz od u) a = none → H a = none := fun a h => by
    by_cases e : a = d
    · subst e; rw [upd_same] at h; cases h
    · rw [upd_ne e] at h; exact h
  refine ⟨h1, A.er.relock (fun a o h => ?_) hF' no, ⟨A.step.sub, fun a h => ?_, fun a o h ns nm => ?_, fun a h => ?_, fun a h => ?_, fun a h => (A.step.mrk a h).imp id (.imp (lk a) id)⟩, A.io⟩
  · by_cases e : a = d
    · subst e; rw [hF'] at h; cases h; rw [upd_same]; exact .inl rfl
    · rw [upd_ne e]; exact A.er.le a o h
  · rcases A.step.new a h with z | z | z
    · exact .inl z
    · rcases z with z | ⟨ws, z⟩
      · exact .inr (.inl (.inl (lk a z)))
      · by_cases e : a = d
        · subst e; rw [upd_same] at z; cases z
        · rw [upd_ne e] at z; exact .inr (.inl (.inr ⟨ws, z⟩))
    · exact .inr (.inr z)
  · by_cases e : a = d
    · subst e; rw [upd_same, ← hd]; exact h
    · rw [upd_ne e]; exact A.step.keep a o (by rw [upd_ne e]; exact h) ns nm
  · exact (A.step.les a h).imp id (lk a)
  · by_cases e : a = d
    · subst e; rw [upd_same] at h; cases h
    · rw [upd_ne e] at h; exact lk a (A.step.there a h)
/-- what walks the locked dict at d -/
structure WkD (nm : Nm) (items : List D) (d : Addr) (od : Obj) (kvs : List (Key × V)) (J : It) : Prop where
  go : ∀ i H', H' d = some (.frz od (.dK kvs)) → i < items.length → J.go i H'
  stop : ∀ i H', H' d = some (.frz od (.dK kvs)) → items.length ≤ i → J.stop i H'
  yld : ∀ i H' x H'', J.yld i H' x H'' → H'' = H' ∧ ∀ (F : Hp) (kds : List (Key × D)), kvs.map (·.1) = kds.map (·.1) → RepL nm F (kvs.map (·.2)) (kds.map (·.2)) → ∀ y, items[i]? = some y → (∀ k v, kvs[i]? = some (k, v) → ∃ z, kds[i]? = some (k, z)) → Rep nm F x y
theorem XRes.unlock {d : Addr} {u : HO} {od : Obj} {r : Xr} {D : Ends} (E : EnvR c.nm F H σ env) (hd : H d = some u) (hF : F d = some u) (hu : (∃ kvs, u = .dK kvs) ∨ ∃ kvs, u = .dT kvs) (ne : ∀ x e, r ≠ .exc x e) (h : XRes c σ F H env r D) :
    XRes c σ F (upd H d (.frz od u)) env r ⟨fun σ' H' => H' d = some (.frz od u) ∧ D.nx σ' (upd H' d u), fun v H' => H' d = some (.frz od u) ∧ D.rt v (upd H' d u), fun σ' H' => H' d = some (.frz od u) ∧ D.bk σ' (upd H' d u), fun σ' H' => H' d = some (.frz od u) ∧ D.ct σ' (upd H' d u)⟩ := by
  cases r with
  | nx e => exact fun σ' F' H' A => let ⟨a, b⟩ := A.unlock E hd hF hu; ⟨a, h σ' F' _ b⟩
  | bk e => exact fun σ' F' H' A => let ⟨a, b⟩ := A.unlock E hd hF hu; ⟨a, h σ' F' _ b⟩
  | ct e => exact fun σ' F' H' A => let ⟨a, b⟩ := A.unlock E hd hF hu; ⟨a, h σ' F' _ b⟩
  | exc x e => exact absurd rfl (ne x e)
  | stuck => exact h
  | rt x e =>
    intro σ' F' H' w A R
    obtain ⟨a, b⟩ := A.unlock E hd hF hu
    have hF' := A.step.sub d u hF
    refine ⟨a, h σ' F' _ w b ⟨?_, fun o p q => ⟨?_, (R.2 o p q).2⟩⟩⟩
    · have r1 := R.1
      unfold ValR at r1 ⊢
      split
      · rename_i ho
        rw [if_pos ho] at r1
        obtain ⟨g, rfl, fg, z⟩ := r1
        exact ⟨g, rfl, fg, z.off fun y => by subst y; rw [hF'] at fg; cases fg⟩
      · rename_i ho
        rw [if_neg ho] at r1
        exact r1
    · rcases (R.2 o p q).1 with z | z
      · left
        by_cases e2 : p = d
        · subst e2; rw [upd_same] at z; cases z
        · rw [upd_ne e2] at z; exact z
      · exact .inr z
/-- for over a dict that stands unlocked -/
theorem forL_core {iter : Expr} {body : List Stmt} {ib : ISs} {t : IT} {k : ItK} {i : Nat} {ti : TI} (hp : PassesOwn (model X.prog X.w) X.A X.env X.xe) (hc : X.calm = true) (hi : PI X tg iter ti) (hg : PG X tg (gT c t)) (hb : PSs X body (tSs c ib)) (hs : ∀ x, foldedSetIterable iter X.env x = pure x)
    (hR : ∀ σ H R d od (kvs : List (Key × V)) (kds : List (Key × D)) items, σ[i]? = some (some (.ref d)) → H d = some (.frz od (.dK kvs)) → kvs.length = kds.length → kvs.map (·.1) = kds.map (·.1) → itemsL k (.dK kds) = some items → (∀ J, WkD c.nm items d od kvs J → R J H) → ti σ H R) : PS X (.For tg iter body [] pos) (tS c (.loopL t k i ib)) := by
  have loop := ps_for (pos := pos) hp hc hi hg hb hs
  refine ⟨fun pins s σ H D I hq => ?_⟩
  obtain ⟨F, env, E, q⟩ := hq
  unfold ex at q
  cases h0 : slot env i with
  | none => rw [h0] at q; exact q.elim
  | some v0 =>
    rw [h0] at q
    dsimp only at q
    cases hit : itemsL k v0.d with
    | none => rw [hit] at q; exact q.elim
    | some items =>
      rw [hit] at q
      dsimp only at q
      obtain ⟨d0, o0⟩ := v0
      cases d0 with
      | dK kds =>
        obtain ⟨F1, E1, S1⟩ := E.share i
        have hsl : slot (share env i) i = some ⟨.dK kds, false⟩ := by rw [slot_share, if_pos rfl, h0]; rfl
        obtain ⟨v, hv, rv⟩ := E1.val i _ hsl
        have rv : Rep c.nm F1 v (.dK kds) := rv
        cases rv with
        | @dK d kvs _ hF hk rr =>
          have hlen : kvs.length = kds.length := by simpa using congrArg List.length hk
          generalize ht : (fun d e => match asgT c.io t d e with
                | some e => exs c.Φ c.io ib e
                | none => Xr.stuck) = tn at q
          have hne : ∀ x e, forL tn items (share env i) ≠ .exc x e := fun x e z => by rw [z] at q; exact q
          have h1 : XRes c σ F H env (forL tn items (share env i)) D := by
            cases z : forL tn items (share env i) with
            | exc x e => exact absurd z (hne x e)
            | _ => rw [z] at q; exact q
          have h1 : XRes c σ F1 H (share env i) (forL tn items (share env i)) D := XRes.shift h1 (Aft.of E1 S1)
          have ilen : ∀ j (hj : j < items.length), ∃ k v z, kvs[j]? = some (k, v) ∧ kds[j]? = some (k, z) := fun j hj => by
            have l2 : items.length = kds.length := by unfold itemsL at hit; dsimp only at hit; split at hit <;> first | (cases hit; simp) | (cases hit; done)
            have e1 : j < kvs.length := by omega
            have e2 : j < kds.length := by omega
            have := congrArg (fun l => l[j]?) hk
            simp only [List.getElem?_map, List.getElem?_eq_getElem e1, List.getElem?_eq_getElem e2, Option.map_some, Option.some.injEq] at this
            exact ⟨kvs[j].1, kvs[j].2, kds[j].2, List.getElem?_eq_getElem e1, by rw [List.getElem?_eq_getElem e2, this]⟩
          -- the loop, under the lock
          have run : ∀ (Hl : Hp) (od : Obj) (D' : Ends), Hl d = some (.frz od (.dK kvs)) → EnvR c.nm F1 Hl σ (share env i) → XRes c σ F1 Hl (share env i) (forL tn items (share env i)) D' → tFor ti (gT c t) (tSs c ib) D' σ Hl := by
            intro Hl od D' hl El hX
            refine hR σ Hl _ d od kvs kds items hv hl hlen hk hit fun J wk => ?_
            refine ⟨fun j m σ H => j + m = items.length ∧ ∃ F env, Sub F1 F ∧ EnvR c.nm F H σ env ∧ H d = some (.frz od (.dK kvs)) ∧ XRes c σ F H env (forL tn (items.drop j) env) D', ⟨items.length, by omega, F1, share env i, Sub.refl _, El, hl, by rw [List.drop_zero]; exact hX⟩, fun j m σ2 H2 ⟨hm, F2, env2, sb, E2, hl2, h2⟩ => ?_⟩
            have no : ¬ Mrk F2 d := fun ⟨n, z⟩ => by rw [sb _ _ hF] at z; cases z
            have nd : ∀ {σ env}, EnvR c.nm F2 H2 σ env → ¬ Ow σ env d := fun {σ env} E ⟨i, x, hx, ho, hs⟩ => by
              obtain ⟨v, hv, r⟩ := E.val i x hx
              rw [hs] at hv; cases hv
              unfold ValR at r
              rw [if_pos ho] at r
              obtain ⟨a, q, fa, _⟩ := r
              cases q
              rw [sb _ _ hF] at fa; cases fa
            by_cases hle : items.length ≤ j
            · refine .inl ⟨wk.stop j H2 hl2 hle, ?_⟩
              rw [List.drop_eq_nil_of_le hle] at h2
              exact h2 σ2 F2 H2 (Aft.refl E2)
            · have hlt : j < items.length := by omega
              refine .inr ⟨wk.go j H2 hl2 hlt, fun σ3 H3 => (j + 1) + (m - 1) = items.length ∧ ∃ F env, Sub F1 F ∧ EnvR c.nm F H3 σ3 env ∧ H3 d = some (.frz od (.dK kvs)) ∧ XRes c σ3 F H3 env (forL tn (items.drop (j + 1)) env) D', fun σ' H' n => ⟨m - 1, by omega, n⟩, fun x H3 y => ?_⟩
              rw [List.drop_eq_getElem_cons hlt] at h2
              obtain ⟨e3, rep⟩ := wk.yld j H2 x H3 y
              subst e3
              have rep := rep F2 kds hk (rr.mono sb) items[j] (List.getElem?_eq_getElem hlt) fun k v hkv => by
                obtain ⟨k', v', z, g1, g2⟩ := ilen j hlt
                rw [hkv] at g1; cases g1; exact ⟨z, g2⟩
              unfold forL at h2
              rw [← ht] at h2
              simp only at h2
              cases h4 : asgT c.io t items[j] env2 with
              | none => rw [h4] at h2; exact h2.elim
              | some env4 =>
                rw [h4] at h2
                refine ⟨F2, env2, items[j], env4, E2, rep, h4, fun σ4 ⟨E4, a1, a2, a3, _⟩ => ⟨F2, env4, E4, ?_⟩⟩
                have A4 : Aft c σ2 F2 H3 env2 σ4 F2 H3 env4 := ⟨E4, ⟨Sub.refl _, fun _ h => .inl h, fun _ _ h _ _ => h, fun a h => .inl (a2 a h), fun _ h => h, fun _ h => .inl h⟩, a3⟩
                simp only at h2
                have nxt : ∀ e σ5 F5 H5, XRes c σ2 F2 H3 env2 (forL tn (items.drop (j + 1)) e) D' → Aft c σ4 F2 H3 env4 σ5 F5 H5 e → (j + 1) + (m - 1) = items.length ∧ ∃ F env, Sub F1 F ∧ EnvR c.nm F H5 σ5 env ∧ H5 d = some (.frz od (.dK kvs)) ∧ XRes c σ5 F H5 env (forL tn (items.drop (j + 1)) env) D' := fun e σ5 F5 H5 h a5 =>
                  ⟨by omega, F5, e, sb.trans a5.step.sub, a5.er, a5.step.keep d _ hl2 (nd E4) no, XRes.shift h (A4.trans a5)⟩
                cases h5 : exs c.Φ c.io ib env4 with
                | nx e => rw [h5, ht] at h2; exact fun σ5 F5 H5 a5 => nxt e σ5 F5 H5 h2 a5
                | ct e => rw [h5, ht] at h2; exact fun σ5 F5 H5 a5 => nxt e σ5 F5 H5 h2 a5
                | bk e => rw [h5] at h2; exact fun σ5 F5 H5 a5 => h2 σ5 F5 H5 (A4.trans a5)
                | rt x e => rw [h5] at h2; exact XRes.shift (D := D') h2 A4
                | exc x e => rw [h5] at h2; exact XRes.shift (D := D') h2 A4
                | stuck => rw [h5] at h2; exact h2
          have hu : (∃ kvs', (HO.dK kvs) = .dK kvs') ∨ ∃ kvs', (HO.dK kvs) = .dT kvs' := .inl ⟨kvs, rfl⟩
          rcases E1.le d _ hF with z | ⟨_, od, z⟩ | ⟨⟨_, z⟩, _⟩
          · refine (ps_lock loop).run pins s σ H D I ⟨d, .dK kvs, z, True.intro, fun od => ?_⟩
            exact run (upd H d (.frz od (.dK kvs))) od _ upd_same (E1.relock (E1.le.lock z hF hu) hF (fun n q => by cases q)) (XRes.unlock E1 z hF hu hne h1)
          · exact loop.run pins s σ H D I (run H od D z E1 h1)
          · cases z
      | _ => unfold itemsL at hit; cases hit
theorem ss_forK {x : Expr} {body : List Stmt} {ib : ISs} {t : IT} {i : Nat} (hp : PassesOwn (model X.prog X.w) X.A X.env X.xe) (hc : X.calm = true) (hx : PE X x (tVar i)) (hg : PG X tg (gT c t)) (hb : PSs X body (tSs c ib)) (hs : ∀ y, foldedSetIterable x X.env y = pure y) :
    PS X (.For tg x body [] pos) (tS c (.loopL t .keys i ib)) :=
  forL_core hp hc (pi_keys hx) hg hb hs fun σ H R d od kvs kds items hv hl hlen hk hit k => ⟨.ref d, hv, d, od, rfl, .inl ⟨kvs, hl, k _ ⟨fun i H' h hi => ⟨h, by cases hit; simpa [hlen] using hi⟩, fun i H' h hi => ⟨h, by cases hit; simpa [hlen] using hi⟩, fun i H' x H'' ⟨e, kk, v, h1, h2⟩ => ⟨e, fun F kds' hk' rr' y hy hz => by
    obtain ⟨z, hz⟩ := hz kk v h1
    cases hit
    rw [List.getElem?_map] at hy
    have hk2 : (kvs.map (·.1))[i]? = (kds.map (·.1))[i]? := by rw [hk]
    rw [List.getElem?_map, List.getElem?_map, h1] at hk2
    cases e2 : kds[i]? with
    | none => rw [e2] at hk2; cases hk2
    | some q =>
      rw [e2] at hk2 hy
      cases hy
      have : kk = q.1 := by simpa using hk2
      subst this
      subst h2
      obtain ⟨qk, qd⟩ := q
      cases qk
      · exact .int
      · exact .str⟩⟩⟩⟩
end
end MT
namespace MT
open PySem PySem.Spec PyProof.Rows L2
end MT
namespace MT
open PySem PySem.Spec PyProof.Rows L2
theorem joinS_eq (a : Str) : ∀ ys : List Str, joinS a ys = Txt.join a ys := by
  intro ys
  rw [show Txt.join a ys = Str.join a ys from TL.join_eq a ys]
  induction ys with
  | nil => rfl
  | cons x xs ih =>
    cases xs with
    | nil => rfl
    | cons y ys =>
      show x ++ a ++ joinS a (y :: ys) = x ++ a ++ Str.join a (y :: ys)
      rw [ih]
section
variable {X : Cx} {c : Sx} {a : Expr} {ia : IE} {p pos apos : Pos} {σ : St} {F H F1 H1 : Hp} {env env1 : Env}
/-- a text's join -/
theorem s_join {z : Str} {j : Nat} (hK : X.K = c.nm.K) (ha : PE X a (tO c ia)) (hs : starEach [a] X.env = [(false, eval a X.env)]) (hbase : attributeBase (.Constant (.str z) j p) "join" X.env (eval (.Constant (.str z) j p) X.env) = eval (.Constant (.str z) j p) X.env) (hline : (apos.endLine == pos.line) = true) :
    PE X (.Call (.Attribute (.Constant (.str z) j p) "join" apos) [a] [] pos) (tE c (.opn .join (.cons (.cst (.str z)) (.cons ia .nil)))) := by
  refine (pe_join pe_str ha hs hbase hline).imp fun σ H Q ⟨F, env, E, q⟩ => ?_
  have q : Res c σ F H env (rlV c.nm σ) (((mkO ia (ev c.Φ c.io ia) env).bind fun x e => R.ok [.tmp ⟨.str z, false⟩, x] e).bind fun os e => R.opt ((getsO os e).bind (onD .join)) e) Q := by
    have e : ev c.Φ c.io (.opn .join (.cons (.cst (.str z)) (.cons ia .nil))) env = (((mkO ia (ev c.Φ c.io ia) env).bind fun x e => R.ok [.tmp ⟨.str z, false⟩, x] e).bind fun os e => R.opt ((getsO os e).bind (onD .join)) e) := by
      show (((mkO ia (ev c.Φ c.io ia) env).bind fun x e => R.ok [x] e).bind fun os e => R.ok (.tmp ⟨.str z, false⟩ :: os) e).bind _ = _
      cases mkO ia (ev c.Φ c.io ia) env <;> rfl
    rw [← e]
    exact q
  refine ⟨⟨z, rfl⟩, F, env, E, ?_⟩
  show Res c σ F H env (rlO c.nm σ) (mkO ia (ev c.Φ c.io ia) env) _
  cases hm : mkO ia (ev c.Φ c.io ia) env with
  | stuck => rw [hm] at q; exact q
  | exc x e => rw [hm] at q; exact q
  | ok y env1 =>
    rw [hm] at q
    have q : Res c σ F H env (rlV c.nm σ) (R.opt ((getsO [.tmp ⟨.str z, false⟩, y] env1).bind (onD .join)) env1) Q := q
    intro F1 H1 v E1 S1 r1
    obtain ⟨w, hw, h1⟩ := opt_ok q
    unfold getsO getsO at hw
    cases hg : y.get env1 with
    | none => rw [hg] at hw; cases hw
    | some d =>
      rw [hg] at hw
      have hw : onD .join [.str z, d] = some w := hw
      cases d with
      | lst ds =>
        have hw : ((strsD ds).bind fun ys => if (ys.map (·.length)).sum + ys.length * z.length ≤ lineD then some (⟨.str (joinS z ys), false⟩ : Val) else none) = some w := hw
        cases hd : strsD ds with
        | none => rw [hd] at hw; cases hw
        | some ys =>
          rw [hd] at hw
          simp only [Option.bind_some] at hw
          split at hw
          · rename_i hz
            cases hw
            have e := strsD_eq hd
            subst e
            obtain ⟨b, vs, rfl, hb, rl⟩ := (rO.data r1 E1 hg).lst E1.le
            have := rl.strs
            subst this
            refine ⟨z, b, ys, rfl, rfl, .inl (SqL.of hb), hz, ?_⟩
            rw [← joinS_eq]
            exact h1 F1 H1 (.str (joinS z ys)) E1 S1 ⟨.str, fun z => nomatch z⟩
          · cases hw
      | _ => cases hw
end
end MT
namespace MT
open PySem PySem.Spec PyProof.Rows L2
end MT
namespace MT
open PySem PySem.Spec PyProof.Rows L2
end MT
namespace MT
open PySem PySem.Spec PyProof.Rows L2
open PySem.Sem (wp)
theorem SqH.here {b : Bool} {h h' : Heap} {l : Addr} {xs : Array Value} (x : SqH b h l xs) (e : ∀ o, h.get? l = some o → h'.get? l = some o) : SqH b h' l xs := by
  cases b
  · exact Heap.IsList.at x e
  · exact Heap.IsTuple.at x e
theorem SqH.obj {b : Bool} {h : Heap} {l : Addr} {xs : Array Value} (x : SqH b h l xs) : ∃ o, h.get? l = some o := by
  cases b
  · obtain ⟨o, e, _⟩ := x; exact ⟨o, e⟩
  · obtain ⟨o, e, _⟩ := x; exact ⟨o, e⟩
end MT
namespace MT
open PySem PySem.Spec PyProof.Rows L2
end MT
namespace MT
open PySem PySem.Spec PyProof.Rows L2
open PySem.Sem (wp)
end MT
namespace MT
open PySem PySem.Spec PyProof.Rows L2
end MT
namespace MT
open PySem PySem.Spec PyProof.Rows L2
end MT
namespace MT
open PySem PySem.Spec PyProof.Rows L2
end MT
namespace MT
open PySem PySem.Spec PyProof.Rows L2
section
variable {X : Cx} {c : Sx} {e a b o : Expr} {es : List Expr} {ia ib ic : IE} {as : IEs} {pos apos : Pos} {σ : St} {F H F1 H1 F2 : Hp} {env env1 : Env}
/-- behind such a call: what was F stays F -/
theorem free_env {nm : Nm} {S S' : AS} {F' H' : Hp} {st' : List D} (E1 : EnvR nm F1 H1 σ env1) (sb : Sub F1 F2) (C2 : CelR nm F2 H1 env1.st) (l' : Le F' H') (C' : CelR nm F' H' st') (S' : Step S F2 H1 S' F' H') (ns : ∀ a, ¬ S a) (hf : freeS env1.st st' = true) :
    EnvR nm F1 H' σ (env1.withSt (st'.take env1.st.length)) ∧ Step (Ow σ env1) F1 H1 (Ow σ (env1.withSt (st'.take env1.st.length))) F1 H' := by
  unfold freeS at hf
  rw [Bool.and_eq_true] at hf
  have hle : env1.st.length ≤ st'.length := of_decide_eq_true hf.1
  have hlen : (st'.take env1.st.length).length = env1.st.length := by rw [List.length_take]; omega
  have hpl := hf.2
  have htk : ∀ {n : Nat} {d : MT.D}, (st'.take env1.st.length)[n]? = some d → st'[n]? = some d := fun {n d} h => by
    rw [List.getElem?_take] at h
    split at h
    · exact h
    · cases h
  have mk : ∀ a, Mrk F2 a → Mrk F1 a := fun a ⟨k, hk⟩ => by
    have hlt := C2.lt a k hk
    obtain ⟨b, hb, _⟩ := E1.cel.at_ k _ (List.getElem?_eq_getElem hlt)
    rw [C2.inj a b k hk (sb _ _ hb)]
    exact ⟨k, hb⟩
  have le1 : Le F1 H' := fun a o ha => l' a o (S'.sub a o (sb a o ha))
  refine ⟨⟨E1.len, le1, fun i y hy => ?_, E1.sep, ⟨fun n d h => ?_, fun a n h => ?_, E1.cel.inj⟩, E1.base⟩, ⟨Sub.refl _, fun a h => .inl h, fun a o ha na nm => S'.keep a o ha (ns a) fun z => nm (mk a z), fun a ha => .inl ha, S'.there, fun a h => .inl h⟩⟩
  · obtain ⟨v, hv, r⟩ := E1.val i y hy
    refine ⟨v, hv, ?_⟩
    unfold ValR at r ⊢
    split
    · rename_i oy
      rw [if_pos oy] at r
      obtain ⟨a, rfl, fa, q⟩ := r
      obtain ⟨o, qo⟩ := q.some
      have nm2 : ¬ Mrk F2 a := fun z => by
        obtain ⟨k, hk⟩ := mk a z
        rw [fa] at hk; cases hk
      exact ⟨a, rfl, fa, q.mono (Sub.refl _) (by rw [qo]; exact S'.keep a o qo (ns a) nm2)⟩
    · rename_i oy; rw [if_neg oy] at r; exact r
  · have hn : n < env1.st.length := by rw [← hlen]; exact (List.getElem?_eq_some_iff.mp h).1
    obtain ⟨a, ha, _⟩ := E1.cel.at_ n _ (List.getElem?_eq_getElem hn)
    exact ⟨a, ha, plain_at (List.all_eq_true.mp hpl d (List.mem_of_getElem? h)) (C'.data (S'.sub _ _ (sb _ _ ha)) (htk h))⟩
  · show n < (st'.take env1.st.length).length
    rw [hlen]
    exact E1.cel.lt a n h
/-- what F1 knows, and of what became known the tuples and objects that are not O's -/
noncomputable def joinF (F1 : Hp) (O : AS) (F2 : Hp) : Hp := fun a => match F1 a with
  | some u => some u
  | none => open Classical in if O a then none else match F2 a with
    | some (.tup xs) => some (.tup xs)
    | some (.ins c d f) => some (.ins c d f)
    | _ => none
theorem joinF_old {F1 : Hp} {O : AS} {F2 : Hp} {a : Addr} {u : HO} (h : F1 a = some u) : joinF F1 O F2 a = some u := by unfold joinF; rw [h]
theorem joinF_O {F1 : Hp} {O : AS} {F2 : Hp} {a : Addr} (h : F1 a = none) (o : O a) : joinF F1 O F2 a = none := by unfold joinF; rw [h]; exact if_pos o
theorem joinF_new {F1 : Hp} {O : AS} {F2 : Hp} {a : Addr} {u : HO} (h : F1 a = none) (q : joinF F1 O F2 a = some u) : ¬ O a ∧ F2 a = some u ∧ ((∃ xs, u = .tup xs) ∨ ∃ c d f, u = .ins c d f) := by
  unfold joinF at q
  rw [h] at q
  dsimp only at q
  split at q
  · cases q
  · rename_i no
    refine ⟨no, ?_⟩
    split at q
    · rename_i xs e; cases q; exact ⟨e, .inl ⟨_, rfl⟩⟩
    · rename_i c d f e; cases q; exact ⟨e, .inr ⟨_, _, _, rfl⟩⟩
    · cases q
theorem joinF_tup {F1 : Hp} {O : AS} {F2 : Hp} {a : Addr} {xs : List V} (s : Sub F1 F2) (h : F2 a = some (.tup xs)) (no : F1 a = none → ¬ O a) : joinF F1 O F2 a = some (.tup xs) := by
  cases e : F1 a with
  | some u => have := s a u e; rw [h] at this; cases this; exact joinF_old e
  | none => unfold joinF; rw [e]; dsimp only; rw [if_neg (no e), h]
theorem joinF_ins {F1 : Hp} {O : AS} {F2 : Hp} {a : Addr} {c d f} (s : Sub F1 F2) (h : F2 a = some (.ins c d f)) (no : F1 a = none → ¬ O a) : joinF F1 O F2 a = some (.ins c d f) := by
  cases e : F1 a with
  | some u => have := s a u e; rw [h] at this; cases this; exact joinF_old e
  | none => unfold joinF; rw [e]; dsimp only; rw [if_neg (no e), h]
theorem joinF_sub {F1 : Hp} {O : AS} {F2 : Hp} (s : Sub F1 F2) : Sub (joinF F1 O F2) F2 := fun a u h => by
  cases e : F1 a with
  | some w => rw [joinF_old e] at h; cases h; exact s a _ e
  | none => exact (joinF_new e h).2.1
theorem lend_rep {nm : Nm} {F' F3 : Hp} {ls : List Nat} (ht : ∀ a xs, F' a = some (.tup xs) → F3 a = some (.tup xs)) (hi : ∀ a c d f, F' a = some (.ins c d f) → ls.contains f.length = false → F3 a = some (.ins c d f)) :
    ∀ (k : Nat) (v : V) (d : D), lendN ls k d = true → Rep nm F' v d → Rep nm F3 v d
  | 0, _, _, h, _ => by cases h
  | k + 1, v, d, h, r => by
    have many : ∀ (vs : List V) (ds : List D), ds.all (lendN ls k) = true → RepL nm F' vs ds → RepL nm F3 vs ds := by
      intro vs ds
      induction ds generalizing vs with
      | nil => intro _ r; cases r; exact .nil
      | cons d ds ih =>
        intro hd r
        cases r with
        | cons r1 r2 =>
          rw [List.all_cons, Bool.and_eq_true] at hd
          exact .cons (lend_rep ht hi k _ _ hd.1 r1) (ih _ hd.2 r2)
    cases r with
    | non => exact .non
    | bl => exact .bl
    | int => exact .int
    | str => exact .str
    | tup h1 h2 => exact .tup (ht _ _ h1) (many _ _ h h2)
    | @obj a dx c fvs fds h1 h2 h3 =>
      have h : (!(ls.contains fds.length) && fds.all fun p => lendN ls k p.2) = true := h
      rw [Bool.and_eq_true, Bool.not_eq_true'] at h
      have hl : fvs.length = fds.length := by have := congrArg List.length h2; simpa using this
      exact .obj (hi _ _ _ _ h1 (by rw [hl]; exact h.1)) h2 (many _ _ (by rw [List.all_map]; exact h.2) h3)
    | scr _ => cases h
    | lst _ _ => cases h
    | dK _ _ _ => cases h
    | dT _ _ _ => cases h
    | rf _ => cases h
    | exn0 _ _ _ _ => cases h
    | exnD _ _ _ _ _ _ _ => cases h
theorem lend_reps {nm : Nm} {F' F3 : Hp} {ls : List Nat} (k : Nat) (ht : ∀ a xs, F' a = some (.tup xs) → F3 a = some (.tup xs)) (hi : ∀ a c d f, F' a = some (.ins c d f) → ls.contains f.length = false → F3 a = some (.ins c d f)) :
    ∀ (vs : List V) (ds : List D), ds.all (lendN ls k) = true → RepL nm F' vs ds → RepL nm F3 vs ds := by
  intro vs ds
  induction ds generalizing vs with
  | nil => intro _ r; cases r; exact .nil
  | cons d ds ih =>
    intro hd r
    cases r with
    | cons r1 r2 =>
      rw [List.all_cons, Bool.and_eq_true] at hd
      exact .cons (lend_rep ht hi k _ _ hd.1 r1) (ih _ hd.2 r2)
theorem lend_val {nm : Nm} {F' F3 H' : Hp} {ls : List Nat} {v : V} {x : Val} (ht : ∀ a xs, F' a = some (.tup xs) → F3 a = some (.tup xs)) (hi : ∀ a c d f, F' a = some (.ins c d f) → ls.contains f.length = false → F3 a = some (.ins c d f))
    (hn : Sub F3 F') (h : lendV ls x = true) (r : ValR nm F' H' v x) : ValR nm F3 H' v x := by
  unfold lendV at h
  unfold ValR at r ⊢
  by_cases ho : x.own = true
  · rw [if_pos ho] at h r ⊢
    obtain ⟨a, rfl, fa, q⟩ := r
    refine ⟨a, rfl, ?_, ?_⟩
    · cases e : F3 a with
      | none => rfl
      | some u => rw [hn a u e] at fa; cases fa
    · obtain ⟨d, o⟩ := x
      cases d with
      | lst ds => obtain ⟨vs, h1, h2⟩ := q; exact ⟨vs, h1, lend_reps 64 ht hi _ _ h h2⟩
      | obj cl fs =>
        obtain ⟨dx, fvs, h1, h2, h3⟩ := q
        refine ⟨dx, fvs, h1, h2, lend_reps 64 ht hi _ _ ?_ h3⟩
        rw [List.all_map]
        exact h
      | _ => cases h
  · rw [if_neg ho] at h r ⊢
    exact lend_rep ht hi 64 _ _ h r
/-- behind a call that lends: of what became known the tuples and objects stay, the own slots stay own -/
theorem lend_env {nm : Nm} {F' H' : Hp} {st' : List D} (E1 : EnvR nm F1 H1 σ env1) (S1 : Step (Ow σ env) F H (Ow σ env1) F1 H1) (sb : Sub F1 F2) (nw : ∀ b, F2 b ≠ none → F1 b ≠ none ∨ Ow σ env1 b ∨ H b = none) (C2 : CelR nm F2 H1 env1.st)
    (l' : Le F' H') (C' : CelR nm F' H' st') (S' : Step (fun _ => False) F2 H1 (fun _ => False) F' H') (hf : freeS env1.st st' = true) :
    EnvR nm (joinF F1 (Ow σ env1) F') H' σ (env1.withSt (st'.take env1.st.length)) ∧ Step (Ow σ env) F H (Ow σ (env1.withSt (st'.take env1.st.length))) (joinF F1 (Ow σ env1) F') H' ∧
      (∀ a xs, F' a = some (.tup xs) → joinF F1 (Ow σ env1) F' a = some (.tup xs)) ∧ (∀ a c d f, F' a = some (.ins c d f) → (ownLens env1).contains f.length = false → joinF F1 (Ow σ env1) F' a = some (.ins c d f)) ∧ Sub (joinF F1 (Ow σ env1) F') F' := by
  unfold freeS at hf
  rw [Bool.and_eq_true] at hf
  have hle : env1.st.length ≤ st'.length := of_decide_eq_true hf.1
  have hlen : (st'.take env1.st.length).length = env1.st.length := by rw [List.length_take]; omega
  have hpl := hf.2
  have htk : ∀ {n : Nat} {d : MT.D}, (st'.take env1.st.length)[n]? = some d → st'[n]? = some d := fun {n d} h => by
    rw [List.getElem?_take] at h
    split at h
    · exact h
    · cases h
  have s1 : Sub F1 F' := sb.trans S'.sub
  have mk : ∀ a, Mrk F2 a → Mrk F1 a := fun a ⟨k, hk⟩ => by
    have hlt := C2.lt a k hk
    obtain ⟨b, hb, _⟩ := E1.cel.at_ k _ (List.getElem?_eq_getElem hlt)
    rw [C2.inj a b k hk (sb _ _ hb)]
    exact ⟨k, hb⟩
  have sub3 : Sub (joinF F1 (Ow σ env1) F') F' := joinF_sub s1
  -- own things stand as they stood
  have own : ∀ a, Ow σ env1 a → F1 a = none ∧ ∃ i x, slot env1 i = some x ∧ x.own = true ∧ At nm F1 H1 a x.d ∧ H' a = H1 a := fun a ⟨i, x, h1, h2, h3⟩ => by
    obtain ⟨v, hv, r⟩ := E1.val i x h1
    rw [h3] at hv; cases hv
    unfold ValR at r
    rw [if_pos h2] at r
    obtain ⟨b, e, fb, q⟩ := r
    cases e
    obtain ⟨o, qo⟩ := q.some
    have nm2 : ¬ Mrk F2 a := fun z => by
      obtain ⟨k, hk⟩ := mk a z
      rw [fb] at hk; cases hk
    exact ⟨fb, i, x, h1, h2, q, by rw [qo]; exact S'.keep a o qo id nm2⟩
  have not_tup : ∀ a xs, F' a = some (.tup xs) → ¬ Ow σ env1 a := fun a xs h o => by
    obtain ⟨_, i, x, _, _, q, e⟩ := own a o
    have hh : H' a = some (.tup xs) := by
      rcases l' a _ h with z | ⟨z, _⟩ | ⟨⟨_, z⟩, _⟩
      · exact z
      · rcases z with ⟨_, z⟩ | ⟨_, z⟩ <;> cases z
      · cases z
    exact q.nw (.inr ⟨xs, by rw [← e]; exact hh⟩)
  have not_ins : ∀ a c d f, F' a = some (.ins c d f) → (ownLens env1).contains f.length = false → ¬ Ow σ env1 a := fun a c d f h hl o => by
    obtain ⟨_, i, x, h1, h2, q, e⟩ := own a o
    have hh : H' a = some (.ins c d f) := l'.ins h
    rw [e] at hh
    obtain ⟨xd, xo⟩ := x
    simp only at h2 q
    subst h2
    cases xd with
    | obj cl fds =>
      obtain ⟨dx, fvs, g1, g2, _⟩ := q
      rw [hh] at g1
      cases g1
      have e2 : f.length = fds.length := by have := congrArg List.length g2; simpa using this
      have : f.length ∈ ownLens env1 := by
        unfold ownLens
        refine List.mem_filterMap.mpr ⟨some ⟨.obj cl fds, true⟩, ?_, by rw [e2]⟩
        unfold slot at h1
        cases g : env1.sl[i]? with
        | none => rw [g] at h1; cases h1
        | some y =>
          rw [g] at h1
          simp only at h1
          rw [← h1]
          exact List.mem_of_getElem? g
      rw [List.contains_iff_mem.mpr this] at hl
      cases hl
    | lst _ => obtain ⟨_, g, _⟩ := q; rw [hh] at g; cases g
    | dK _ => obtain ⟨_, g, _⟩ := q; rw [hh] at g; cases g
    | dT _ => obtain ⟨_, g, _⟩ := q; rw [hh] at g; cases g
    | _ => exact q.elim
  have old : Sub F1 (joinF F1 (Ow σ env1) F') := fun a u h => joinF_old h
  have mk3 : ∀ a k, joinF F1 (Ow σ env1) F' a = some (.own k) → F1 a = some (.own k) := fun a k h => by
    cases e : F1 a with
    | some u => rw [joinF_old e] at h; cases h; rfl
    | none =>
      rcases (joinF_new e h).2.2 with ⟨_, z⟩ | ⟨_, _, _, z⟩ <;> cases z
  refine ⟨⟨E1.len, fun a u h => l' a u (sub3 a u h), fun i y hy => ?_, E1.sep, ⟨fun n d h => ?_, fun a n h => ?_, fun a b n h1 h2 => E1.cel.inj a b n (mk3 a n h1) (mk3 b n h2)⟩, E1.base.trans old⟩, ?_, fun a xs h => joinF_tup s1 h fun _ => not_tup a xs h, fun a c d f h hl => joinF_ins s1 h fun _ => not_ins a c d f h hl, sub3⟩
  · obtain ⟨v, hv, r⟩ := E1.val i y hy
    refine ⟨v, hv, ?_⟩
    unfold ValR at r ⊢
    split
    · rename_i oy
      rw [if_pos oy] at r
      obtain ⟨a, rfl, fa, q⟩ := r
      have o : Ow σ env1 a := ⟨i, y, hy, oy, hv⟩
      obtain ⟨_, _, _, _, _, _, e⟩ := own a o
      exact ⟨a, rfl, joinF_O fa o, q.mono old e⟩
    · rename_i oy; rw [if_neg oy] at r; exact r.mono old
  · have hn : n < env1.st.length := by rw [← hlen]; exact (List.getElem?_eq_some_iff.mp h).1
    obtain ⟨a, ha, _⟩ := E1.cel.at_ n _ (List.getElem?_eq_getElem hn)
    exact ⟨a, old _ _ ha, plain_at (List.all_eq_true.mp hpl d (List.mem_of_getElem? h)) (C'.data (s1 _ _ ha) (htk h))⟩
  · show n < (st'.take env1.st.length).length
    rw [hlen]
    exact E1.cel.lt a n (mk3 a n h)
  · have sm : Step (Ow σ env) F H (Ow σ env1) (joinF F1 (Ow σ env1) F2) H1 := S1.more (fun a u h => joinF_old h) (fun b hb => by
      cases e : joinF F1 (Ow σ env1) F2 b with
      | none => exact absurd e hb
      | some u => exact nw b (by rw [joinF_sub sb b u e]; exact fun z => nomatch z)) fun _ z => z
    refine sm.trans ⟨fun a u h => ?_, fun a h => ?_, fun a o ha na nmk => S'.keep a o ha id fun z => nmk ?_, fun a z => .inl z, S'.there, fun a ⟨k, h⟩ => .inl ⟨k, joinF_old (mk3 a k h)⟩⟩
    · cases e : F1 a with
      | some w => rw [joinF_old e] at h ⊢; exact h
      | none =>
        obtain ⟨n1, n2, n3⟩ := joinF_new e h
        rcases n3 with ⟨xs, rfl⟩ | ⟨c, d, f, rfl⟩
        · exact joinF_tup s1 (S'.sub _ _ n2) fun _ => n1
        · exact joinF_ins s1 (S'.sub _ _ n2) fun _ => n1
    · cases e : F1 a with
      | some w => left; rw [joinF_old e]; exact fun z => nomatch z
      | none =>
        cases g : joinF F1 (Ow σ env1) F' a with
        | none => exact absurd g h
        | some u =>
          obtain ⟨n1, n2, n3⟩ := joinF_new e g
          rcases S'.new a (by rw [n2]; exact fun z => nomatch z) with z | z | z
          · left
            cases g2 : F2 a with
            | none => exact absurd g2 z
            | some w =>
              have := S'.sub _ _ g2
              rw [n2] at this; cases this
              rcases n3 with ⟨xs, rfl⟩ | ⟨c, d, f, rfl⟩
              · rw [joinF_tup sb g2 fun _ => n1]; exact fun z => nomatch z
              · rw [joinF_ins sb g2 fun _ => n1]; exact fun z => nomatch z
          · exact .inr (.inl z)
          · exact z.elim
    · obtain ⟨k, hk⟩ := mk a z
      exact ⟨k, joinF_old hk⟩
theorem call_coreF {j nps : Nat} {os : List Opd} {vs : List V} {Q : VK} (E1 : EnvR c.nm F1 H1 σ env1) (S1 : Step (Ow σ env) F H (Ow σ env1) F1 H1) (p : Paired (rO c.nm σ H F1 H1 env1) os vs) (hl : vs.length = nps)
    (h : Res c σ F H env (rlV c.nm σ) (callFO c.Φ j os env1) Q) : spD c.nm c.Φ nps j vs H1 Q (fun cls dd H' => c.W cls dd σ H') := by
  unfold callFO at h
  cases hio : c.Φ.io j with
  | cons b bs => rw [hio] at h; exact h.elim
  | nil =>
    rw [hio] at h
    dsimp only at h
    cases hg : rawsO os env1 with
    | none => rw [hg] at h; exact h.elim
    | some ds =>
      rw [hg] at h
      dsimp only at h
      obtain ⟨F2, E2, sb, nw, ow2, rep2⟩ := ops_share (c.Φ.io j) os vs E1 p
      have C2 : CelR c.nm F2 H1 env1.st := (shares_st (noSlots (c.Φ.io j) os) (env := env1)) ▸ E2.cel
      have noio : ∀ a, ¬ ioS (c.Φ.io j) vs a := fun a ha => by
        unfold ioS at ha
        rw [hio] at ha
        cases vs <;> simp [ioVs] at ha
      refine ⟨F2, env1.st, ds, hl, E2.le, C2, E2.base, argR_of _ _ _ ?_ fun k v d hv hd => ?_, ?_, ?_⟩
      · have e1 := Paired.length p
        have e2 := rawsO_len hg
        omega
      · have hb : (c.Φ.io j)[k]?.getD false = false := by rw [hio]; rfl
        rw [hb]
        exact rep2 ds hg k v d hb hv hd
      · rw [hio]; cases vs <;> simp [ioVs]
      · cases hcall : c.Φ.call j env1.st ds with
        | stuck => rw [hcall] at h; exact h.elim
        | exc x st' => rw [hcall] at h; exact h.elim
        | ok x outs st' =>
          rw [hcall] at h
          cases outs with
          | cons _ _ => exact h.elim
          | nil =>
            dsimp only at h ⊢
            split at h
            · rename_i hf
              intro F' H' w l' C' S' rw' fr outR
              by_cases hln : lendV (ownLens env1) x = true
              · have S0 : Step (fun _ => False) F2 H1 (fun _ => False) F' H' := ⟨S'.sub, fun b hb => (S'.new b hb).imp id (.imp id (noio b)), fun b o hb _ nm => S'.keep b o hb (noio b) nm, fun b hb => hb.elim, S'.there, fun b hb => (S'.mrk b hb).imp id (.imp id (noio b))⟩
                obtain ⟨E', S3, ht, hi, hs⟩ := lend_env E1 S1 sb nw C2 l' C' S0 hf.2
                exact h _ H' w E' S3 ⟨lend_val ht hi hs hln rw', fun o p e => ⟨S1.there p (fr o p e), fun z => E1.ow_some z (fr o p e)⟩⟩
              obtain ⟨E', S3⟩ := free_env E1 sb C2 l' C' S' noio hf.2
              have hfv : freeV x = true := by
                have := hf.1
                rw [Bool.or_eq_true] at this
                exact this.resolve_right hln
              unfold freeV at hfv
              refine h F1 H' w E' (S1.trans S3) ⟨?_, fun o p e => ⟨S1.there p (fr o p e), fun z => E1.ow_some z (fr o p e)⟩⟩
              split at hfv
              · rename_i ho
                unfold ValR at rw' ⊢
                rw [if_pos ho] at rw' ⊢
                obtain ⟨a, rfl, fa, q⟩ := rw'
                refine ⟨a, rfl, ?_, plain_at hfv q⟩
                cases h1 : F1 a with
                | none => rfl
                | some u => rw [S'.sub _ _ (sb _ _ h1)] at fa; cases fa
              · rename_i ho
                have hd := rw'.data
                have e : x = ⟨x.d, false⟩ := by
                  cases x with
                  | mk d o => cases o with
                    | true => exact absurd rfl ho
                    | false => rfl
                rw [e]
                exact flat_any (flat_rep hd hfv).2 hfv
            · exact h.elim
theorem s_callF {j k nps : Nat} {x : Str} {p : Pos} (hK : X.K = c.nm.K) (C : Cal X.prog X.w c.nm X.mg X.base k c.Φ x j nps) (hr : Room k X.A) (hg : Gl X x) (tk : Takes X c.W) (hn : as.len = nps) (ha : PA X (e :: es) (tOs c as)) (hl : (x == ("__debug__" : Str)) = false)
    (he : starEach (e :: es) X.env = (false, eval e X.env) :: starEach es X.env) (hpl : (backTo pos (starEach es X.env)).any (·.1) = false) : PE X (.Call (.Name x p) (e :: es) [] pos) (tE c (.callF j as)) := by
  obtain ⟨f, fd, ps, F, hm, hk, hb⟩ := C.ex
  rw [← hK] at F hk hb
  refine (pe_callS F hr hg hm hk hb (passAt tk) ha hl he hpl).imp fun σ H Q ⟨F, env, E, q⟩ => ?_
  refine ⟨F, env, E, Res_bindE q fun os vs F1 H1 env1 eq E1 S1 r1 h1 => ?_⟩
  exact call_coreF E1 S1 r1 (by rw [← hn, ← evo_len as eq]; exact (Paired.length r1).symm) h1
end
end MT
namespace L2
open PySem PySem.Spec PyProof.Rows MT
end L2
namespace MT
open PySem PySem.Spec PyProof.Rows L2
end MT
namespace PySem.W
open PySem PySem.Spec PySem.Calls PyProof.Rows
end PySem.W
namespace L2
open PySem PySem.Spec PyProof.Rows
end L2
namespace MT
open PySem PySem.Spec PyProof.Rows L2
def oexB (K : PySem.W.Frag) (C : Addr) : Bool := match K.lookup C with
  | some ⟨.type "type", _, .cls cd, sl⟩ => (match cd.mro, sl.toList with
    | .ref C' :: bm, [_, _, _, _, some (.builtin n), _] => C' == C && (n == "ValueError.__new__" && (!cd.hasDel && (cd.hasDict && PySem.HandSPX.refsVE bm)))
    | _, _ => false)
  | _ => false
theorem oexB_ok {K : PySem.W.Frag} {C : Addr} (q : oexB K C = true) : ∃ nm q N bs bm sn sub ab col dd k0 k1 k2 k3 k5, K.lookup C = some (excClassObj nm q C N bs bm true sn sub ab col dd k0 k1 k2 k3 k5 "ValueError.__new__") ∧ PySem.HandSPX.refsVE bm = true := by
  unfold oexB at q
  split at q
  · rename_i dd cd sl ho
    split at q
    · rename_i C' bm k0 k1 k2 k3 n k5 hm hs
      simp only [Bool.and_eq_true, beq_iff_eq, Bool.not_eq_true'] at q
      obtain ⟨rfl, rfl, hdel, hdc, hok⟩ := q
      obtain ⟨nm, bs, mro, ns, qn, hd, sn, sub, ab, col, del⟩ := cd
      dsimp only at hm hdel hok hdc
      subst hm hdel hdc
      have hsl : sl = #[k0, k1, k2, k3, some (.builtin "ValueError.__new__"), k5] := by
        obtain ⟨l⟩ := sl
        simp only at hs
        rw [hs]
      subst hsl
      exact ⟨nm, qn, ns, bs, bm, sn, sub, ab, col, dd, k0, k1, k2, k3, k5, ho, hok⟩
    · cases q
  · cases q
end MT
namespace MT
open PySem PySem.Spec PyProof.Rows L2
/-- a caught exception, as it stands -/
structure ExAt (nm : Nm) (H : Hp) (v : V) (cl : Nat) (fs : List (Nat × D)) (F : Hp) : Prop where
  ex : ∃ a oe, v = .ref a ∧ H a = some (exz a oe) ∧ oe.cls = .ref (nm.ca cl) ∧ (∃ vs, oe.data = .fields vs) ∧ ((fs = [] ∧ oe.dict = none) ∨ ∃ dd fvs, oe.dict = some dd ∧ H dd = some (.xd fvs) ∧ fvs.map (·.1) = fs.map (fun p => nm.fn p.1) ∧ RepL nm F (fvs.map (·.2)) (fs.map (·.2)))
theorem DataR.exn {nm : Nm} {F H : Hp} {v : V} {cl : Nat} {fs : List (Nat × D)} (h : DataR nm F H v (.exn cl fs)) (l : Le F H) : ExAt nm H v cl fs F := by
  rcases h with ⟨a, _, q⟩ | h
  · exact q.elim
  · cases h with
    | exn0 h k d e => exact ⟨_, _, rfl, l.exz h, k, d, .inl ⟨rfl, e⟩⟩
    | exnD h k d e f g r => exact ⟨_, _, rfl, l.exz h, k, d, .inr ⟨_, _, e, l.xd f, g, r⟩⟩
end MT
namespace MT
open PySem PySem.Spec PyProof.Rows L2
end MT
namespace MT
open PySem PySem.Spec PyProof.Rows L2 He
structure XCls where
  c : Nat
  x : Str
  /-- the field that its __init__ sets -/
  f : Option (Nat × Str)
  isas : List (Nat × Str × Bool)
def xval (K : PySem.W.Frag) (t : Nat) (y : Str) : Value := if t = 900 then .type "ValueError" else .ref (ga K y)
def XCls.okF (e : XCls) (K : PySem.W.Frag) : Bool := match e.f with
  | none => PySem.W.excIn K (ga K e.x) veBase "ValueError.__new__"
  | some (_, f) => oexB K (ga K e.x) && (eqO (PySem.W.findIn K (.ref (ga K e.x)) "__setattr__") (some (some (.builtin "object.__setattr__"))) && (eqO (PySem.W.findIn K (.ref (ga K e.x)) f) (some none) &&
      (eqO (PySem.W.findIn K (.ref (ga K e.x)) "__init__") (some (some (.ref (fAd K (e.x, some "__init__"))))) && decide (PySem.W.typeIn K (.ref (fAd K (e.x, some "__init__"))) = some (.type "function")))))
def XCls.okC (e : XCls) (K : PySem.W.Frag) : Bool := eqO (PySem.W.findIn K (.ref (ga K e.x)) "__getattribute__") (some (some (.builtin "BaseException.__getattribute__"))) && (eqO (PySem.W.findIn K (.ref (ga K e.x)) "__getattr__") (some none) && (PySem.W.hasDictIn K (ga K e.x) &&
  (eqO (PySem.W.findIn K (.ref (ga K e.x)) "__class__") (some (some (.builtin "object.__class__"))) && (decide (PySem.W.mroIn K (ga K e.x) (.type "object") = some true) && (decide (PySem.W.specialIn K (.builtin "object.__class__") "__get__" = some (some (.builtin "getset_descriptor.__get__"))) &&
    decide (PySem.W.takesIn K (.builtin "object.__class__") = some true))))))
def XCls.ok (e : XCls) (K : PySem.W.Frag) : Bool := (decide (PySem.W.subIn K (.ref (ga K e.x)) (.type "BaseException") = some true) && (decide (PySem.W.typeIn K (.ref (ga K e.x)) = some (.type "type")) && PySem.W.keepIn K (.ref (ga K e.x)))) && (e.okF K && (e.okC K &&
  e.isas.all fun q => decide (PySem.W.kitOne K (.ref (ga K e.x)) (xval K q.1 q.2.1) = some q.2.2) && decide (PySem.W.exmOne K (.ref (ga K e.x)) (xval K q.1 q.2.1) = some q.2.2)))
section
variable {K : PySem.W.Frag} {l : List XCls} {m : Option Str} {e : XCls}
theorem XCls.excC (h : e.ok K = true) : ExcC K (ga K e.x) := by
  obtain ⟨h1, h⟩ := ba h
  obtain ⟨h2, h⟩ := ba h
  obtain ⟨h3, h4⟩ := ba h
  obtain ⟨g1, g⟩ := ba h3
  obtain ⟨g2, g⟩ := ba g
  obtain ⟨g3, g⟩ := ba g
  obtain ⟨g4, g⟩ := ba g
  obtain ⟨g5, g⟩ := ba g
  obtain ⟨g6, g7⟩ := ba g
  exact ⟨eqO_ok g1, eqO_ok g2, of_decide_eq_true (ba h1).1, g3, eqO_ok g4, of_decide_eq_true g6, of_decide_eq_true g7, of_decide_eq_true g5⟩
theorem XCls.isa (h : e.ok K = true) {q : Nat × Str × Bool} (hq : q ∈ e.isas) : PySem.W.kitOne K (.ref (ga K e.x)) (xval K q.1 q.2.1) = some q.2.2 ∧ PySem.W.exmOne K (.ref (ga K e.x)) (xval K q.1 q.2.1) = some q.2.2 := by
  obtain ⟨h1, h⟩ := ba h
  obtain ⟨h2, h⟩ := ba h
  obtain ⟨h3, h4⟩ := ba h
  have := List.all_eq_true.mp h4 q hq
  obtain ⟨k1, k2⟩ := ba this
  exact ⟨of_decide_eq_true k1, of_decide_eq_true k2⟩
theorem XCls.fld (h : e.ok K = true) {f : Nat} {n : Str} (hf : e.f = some (f, n)) : OexC K (ga K e.x) ∧ PySem.W.findIn K (.ref (ga K e.x)) "__init__" = some (some (.ref (fAd K (e.x, some "__init__")))) ∧ PySem.W.typeIn K (.ref (fAd K (e.x, some "__init__"))) = some (.type "function") ∧
    PySem.W.findIn K (.ref (ga K e.x)) n = some none ∧ XfC K (ga K e.x) := by
  have C := XCls.excC h
  obtain ⟨h1, h⟩ := ba h
  obtain ⟨h1, h1'⟩ := ba h1
  obtain ⟨h1', h1''⟩ := ba h1'
  obtain ⟨h2, h⟩ := ba h
  unfold XCls.okF at h2
  rw [hf] at h2
  dsimp only at h2
  obtain ⟨g1, g⟩ := ba h2
  obtain ⟨g2, g⟩ := ba g
  obtain ⟨g3, g⟩ := ba g
  obtain ⟨g4, g5⟩ := ba g
  exact ⟨⟨oexB_ok g1, eqO_ok g2, of_decide_eq_true h1, of_decide_eq_true h1', h1''⟩, eqO_ok g4, of_decide_eq_true g5, eqO_ok g3, ⟨C.hg, C.hk, C.hs, C.hd⟩⟩
theorem XCls.bare (h : e.ok K = true) (hf : e.f = none) : PySem.W.excIn K (ga K e.x) veBase "ValueError.__new__" = true ∧ PySem.W.keepIn K (.ref (ga K e.x)) = true ∧ PySem.W.subIn K (.ref (ga K e.x)) (.type "BaseException") = some true ∧ PySem.W.typeIn K (.ref (ga K e.x)) = some (.type "type") := by
  obtain ⟨h1, h⟩ := ba h
  obtain ⟨h1, h1'⟩ := ba h1
  obtain ⟨h1', h1''⟩ := ba h1'
  obtain ⟨h2, h⟩ := ba h
  unfold XCls.okF at h2
  rw [hf] at h2
  exact ⟨h2, h1'', of_decide_eq_true h1, of_decide_eq_true h1'⟩
end
end MT
namespace MT
open PySem PySem.Spec PyProof.Rows L2
section
variable {X : Cx} {c : Sx} {pos : Pos} {σ : St} {F H : Hp} {env : Env} {tg elt iter : Expr} {ifsE : List Expr} {scope : Scope} {own : List (Str × Nat)} {t : IT} {ifs : IEs} {ie : IE}
theorem Res.unlock {d : Addr} {u : HO} {od : Obj} {r : MT.R Val} {Q : VK} (E : EnvR c.nm F H σ env) (hd : H d = some u) (hF : F d = some u) (hu : (∃ kvs, u = .dK kvs) ∨ ∃ kvs, u = .dT kvs) (ne : ∀ x e, r ≠ .exc x e) (h : Res c σ F H env (rlV c.nm σ) r Q) :
    Res c σ F (upd H d (.frz od u)) env (rlV c.nm σ) r fun v H' => H' d = some (.frz od u) ∧ Q v (upd H' d u) := by
  cases r with
  | exc x e => exact absurd rfl (ne x e)
  | stuck => exact h
  | ok x e =>
    intro F' H' b E' S' rl
    have A : Aft c σ F (upd H d (.frz od u)) env σ F' H' e := ⟨E', S', fun _ _ => rfl⟩
    obtain ⟨g, A'⟩ := A.unlock E hd hF hu
    have hF' := S'.sub d u hF
    refine ⟨g, h F' _ b A'.er A'.step ⟨?_, fun o p q => ⟨?_, (rl.2 o p q).2⟩⟩⟩
    · have r1 := rl.1
      unfold ValR at r1 ⊢
      split
      · rename_i ho
        rw [if_pos ho] at r1
        obtain ⟨g, rfl, fg, z⟩ := r1
        exact ⟨g, rfl, fg, z.off fun y => by subst y; rw [hF'] at fg; cases fg⟩
      · rename_i ho
        rw [if_neg ho] at r1
        exact r1
    · have z := (rl.2 o p q).1
      by_cases e2 : p = d
      · subst e2; rw [upd_same] at z; cases z
      · rw [upd_ne e2] at z; exact z
theorem wk_keys {nm : Nm} {d : Addr} {od : Obj} {kvs : List (Key × V)} {kds : List (Key × D)} (hl : H d = some (.frz od (.dK kvs))) (hk : kvs.map (·.1) = kds.map (·.1)) : WkL nm F H (kds.map fun p => dKey p.1) (Itk d od kvs) := by
  have hlen : kvs.length = kds.length := by simpa using congrArg List.length hk
  refine ⟨fun i F' H' _ _ kp hi => ⟨kp _ _ _ hl, by simpa [hlen] using hi⟩, fun i F' H' _ _ kp hi => ⟨kp _ _ _ hl, by simpa [hlen] using hi⟩, fun i y F' H' x H'' _ l _ hy ⟨e, kk, v, h1, h2⟩ => ?_⟩
  subst e
  refine ⟨F', Ext.refl l, ?_⟩
  rw [List.getElem?_map] at hy
  have hk2 : (kvs.map (·.1))[i]? = (kds.map (·.1))[i]? := by rw [hk]
  rw [List.getElem?_map, List.getElem?_map, h1] at hk2
  cases e2 : kds[i]? with
  | none => rw [e2] at hk2; cases hk2
  | some q =>
    rw [e2] at hk2 hy
    cases hy
    have : kk = q.1 := by simpa using hk2
    subst this
    subst h2
    obtain ⟨qk, qd⟩ := q
    cases qk
    · exact .int
    · exact .str
theorem s_lcK {i : Nat} (hK : X.K = c.nm.K) (hc : X.calm = true) (hN : X.N.Nodup) (hx : PE X iter (tVar i)) (ok : blkC X.N X.env.scope scope own = true)
    (hg : ∀ (s : Shared) (H : Hp) (C : Addr) (cl : List (Str × Addr)) (fp : List Addr), PG (X.blk s H scope (compEnvC scope cl C X.env) fp) tg (gT c.blk t)) (ht : ∀ (s : Shared) (H : Hp) (C : Addr) (cl : List (Str × Addr)) (fp : List Addr), PTs (X.blk s H scope (compEnvC scope cl C X.env) fp) ifsE (tTs c.blk ifs))
    (he : ∀ (s : Shared) (H : Hp) (C : Addr) (cl : List (Str × Addr)) (fp : List Addr), PE (X.blk s H scope (compEnvC scope cl C X.env) fp) elt (tE c.blk ie)) (hs : ∀ x, foldedSetIterable iter X.env x = pure x) (hv : ∀ j ∈ t.vars, j ∈ own.map (·.2)) :
    PE X (.ListComp elt [⟨tg, iter, ifsE, 0⟩] scope pos) (tE c (.lc (own.map (·.2)) t .seqK (.cons (.var i) .nil) ifs ie)) := by
  have base := s_lc (pos := pos) (k := .seq) (as := .cons (.var i) .nil) hc hN (si_seq hK (s_varO hx)) ok hg ht he hs hv
  have keys := pe_lc (pos := pos) hc hN (pi_keys hx) (blkOk_by ok) hg ht he hs
  refine ⟨fun pins s σ H Q I h => ?_⟩
  obtain ⟨F, env, E, q⟩ := h
  have step : ∀ k, ev c.Φ c.io (.lc (own.map (fun x : Str × Nat => x.2)) t k (.cons (.var i) .nil) ifs ie) env = (match slot env i with
      | some v => (match itemsD k [v.d] with
        | some items => if items.length < lineD ∧ (∀ j ∈ own.map (fun x : Str × Nat => x.2), j ∉ c.io ∧ j < (share env i).length) then
            (lcL (own.map (fun x : Str × Nat => x.2)) (turnE c t ifs ie) items (wipeE (share env i) (own.map (fun x : Str × Nat => x.2)))).bind fun ds e2 => .ok ⟨.lst ds, true⟩ (backE e2 (share env i) (own.map (fun x : Str × Nat => x.2))) else .stuck
        | none => .stuck)
      | none => .stuck) := fun k => by
    unfold ev evo evo mkO
    cases h0 : slot env i with
    | none => simp [R.bind, h0]
    | some v =>
      simp only [R.bind, itR, rawsO, Opd.raw, h0, noSlots, shares, List.foldl_cons, List.foldl_nil, Option.map_some, Option.bind_some, Option.bind]
      cases itemsD k [v.d] with
      | none => rfl
      | some items => rfl
  have q : Res c σ F H env (rlV c.nm σ) (ev c.Φ c.io (.lc (own.map (fun x : Str × Nat => x.2)) t .seqK (.cons (.var i) .nil) ifs ie) env) Q := q
  rw [step] at q
  cases h0 : slot env i with
  | none => rw [h0] at q; exact q.elim
  | some v0 =>
    rw [h0] at q
    dsimp only at q
    obtain ⟨d0, o0⟩ := v0
    have other : itemsD .seqK [d0] = itemsD .seq [d0] → wpAny (model X.prog X.w) X.A (eval (.ListComp elt [⟨tg, iter, ifsE, 0⟩] scope pos) X.env) (EP X pins σ Q) X.xe s := fun e => by
      refine base.run pins s σ H Q I ⟨F, env, E, ?_⟩
      rw [step, h0]
      dsimp only
      rw [← e]
      exact q
    cases d0 with
    | dK kds =>
      have q : Res c σ F H env (rlV c.nm σ) (if (kds.map fun p => dKey p.1).length < lineD ∧ (∀ j ∈ own.map (fun x : Str × Nat => x.2), j ∉ c.io ∧ j < (share env i).length) then
            (lcL (own.map (fun x : Str × Nat => x.2)) (turnE c t ifs ie) (kds.map fun p => dKey p.1) (wipeE (share env i) (own.map (fun x : Str × Nat => x.2)))).bind fun ds e2 => .ok ⟨.lst ds, true⟩ (backE e2 (share env i) (own.map (fun x : Str × Nat => x.2))) else .stuck) Q := q
      obtain ⟨F1, E1, S1⟩ := E.share i
      have hsl : slot (share env i) i = some ⟨.dK kds, false⟩ := by rw [slot_share, if_pos rfl, h0]; rfl
      obtain ⟨v, hv0, rv⟩ := E1.val i _ hsl
      have rv : Rep c.nm F1 v (.dK kds) := rv
      have q := Res.shift q S1
      cases rv with
      | @dK d kvs _ hF hk rr =>
        have run : ∀ (Hl : Hp) (od : Obj) (Q' : VK), Hl d = some (.frz od (.dK kvs)) → EnvR c.nm F1 Hl σ (share env i) → Res c σ F1 Hl (share env i) (rlV c.nm σ) (if (kds.map fun p => dKey p.1).length < lineD ∧ (∀ j ∈ own.map (fun x : Str × Nat => x.2), j ∉ c.io ∧ j < (share env i).length) then
            (lcL (own.map (fun x : Str × Nat => x.2)) (turnE c t ifs ie) (kds.map fun p => dKey p.1) (wipeE (share env i) (own.map (fun x : Str × Nat => x.2)))).bind fun ds e2 => .ok ⟨.lst ds, true⟩ (backE e2 (share env i) (own.map (fun x : Str × Nat => x.2))) else .stuck) Q' →
            tLc (iKeys (tVar i)) (gT c.blk t) (tTs c.blk ifs) (tE c.blk ie) (own.map (fun x : Str × Nat => x.2)) σ Hl Q' := fun Hl od Q' hl El hX =>
          ⟨.ref d, hv0, d, od, rfl, .inl ⟨kvs, hl, lc_go hv El Step.refl (wk_keys hl hk) hX⟩⟩
        have hu : (∃ kvs', (HO.dK kvs) = .dK kvs') ∨ ∃ kvs', (HO.dK kvs) = .dT kvs' := .inl ⟨kvs, rfl⟩
        have hne : ∀ x e, (if (kds.map fun p => dKey p.1).length < lineD ∧ (∀ j ∈ own.map (fun x : Str × Nat => x.2), j ∉ c.io ∧ j < (share env i).length) then
            (lcL (own.map (fun x : Str × Nat => x.2)) (turnE c t ifs ie) (kds.map fun p => dKey p.1) (wipeE (share env i) (own.map (fun x : Str × Nat => x.2)))).bind fun ds e2 => .ok ⟨.lst ds, true⟩ (backE e2 (share env i) (own.map (fun x : Str × Nat => x.2))) else .stuck) ≠ (.exc x e : MT.R Val) := fun x e z => by
          split at z
          · rcases lcL_ok (own := own.map (fun x : Str × Nat => x.2)) (t := turnE c t ifs ie) (kds.map fun p => dKey p.1) (wipeE (share env i) (own.map (fun x : Str × Nat => x.2))) with ⟨a, b, h⟩ | h
            · rw [h] at z; cases z
            · rw [h] at z; cases z
          · cases z
        rcases E1.le d _ hF with z | ⟨_, od, z⟩ | ⟨⟨_, z⟩, _⟩
        · refine (pe_lock keys).run pins s σ H Q I ⟨d, .dK kvs, z, True.intro, fun od => ?_⟩
          exact run (upd H d (.frz od (.dK kvs))) od _ upd_same (E1.relock (E1.le.lock z hF hu) hF (fun n q => by cases q)) (Res.unlock E1 z hF hu hne q)
        · exact keys.run pins s σ H Q I (run H od Q z E1 q)
        · cases z
    | lst xs => exact other rfl
    | tup xs => exact other rfl
    | scr xs => exact other rfl
    | str xs => exact other rfl
    | _ => exact q.elim
end
end MT
namespace Pgm
open PySem MT
/-- conds.is_gap -/
def ir6 : ISs := (.cons (.ret (.isi (.var 0) [.str]))
  .nil)
def fi6 : DefI := ⟨1, 1, [], ir6⟩
/-- conds.come_to -/
def ir7 : ISs := (.cons (.ite (.call 6 (.cons (.var 0) .nil)) (.cons (.ret (.ix (.var 1) (.var 0)))
  .nil) .nil)
  (.cons (.ret (.var 0))
  .nil))
def fi7 : DefI := ⟨2, 2, [], ir7⟩
/-- conds.Truth.holds -/
def ir16 : ISs := (.cons (.ret (.fld (.var 0) 4))
  .nil)
def fi16 : DefI := ⟨2, 2, [], ir16⟩
/-- conds.Same.holds -/
def ir19 : ISs := (.cons (.ret (.cmp .Eq (.call 7 (.cons (.fld (.var 0) 5) (.cons (.var 1) .nil))) (.call 7 (.cons (.fld (.var 0) 6) (.cons (.var 1) .nil)))))
  .nil)
def fi19 : DefI := ⟨2, 2, [], ir19⟩
/-- conds.AllOf.holds -/
def ir23 : ISs := (.cons (.ret (.bi .all (.cons (.lc [2] (.nm 2) .tupl (.cons (.fld (.var 0) 7) .nil) .nil (.meth (.var 2) 2 (.cons (.var 1) .nil))) .nil)))
  .nil)
def fi23 : DefI := ⟨2, 3, [], ir23⟩
/-- conds.OneOf.holds -/
def ir25 : ISs := (.cons (.ret (.bi .any (.cons (.lc [2] (.nm 2) .tupl (.cons (.fld (.var 0) 7) .nil) .nil (.meth (.var 2) 2 (.cons (.var 1) .nil))) .nil)))
  .nil)
def fi25 : DefI := ⟨2, 3, [], ir25⟩
/-- conds.Opposite.holds -/
def ir29 : ISs := (.cons (.ret (.not (.meth (.fld (.var 0) 8) 2 (.cons (.var 1) .nil))))
  .nil)
def fi29 : DefI := ⟨2, 2, [], ir29⟩
/-- knowing.values_in -/
def ir35 : ISs := (.cons (.ret (.lc [1] (.nm 1) .seqK (.cons (.var 0) .nil) (.cons (.not (.isi (.var 1) [.str])) .nil) (.var 1)))
  .nil)
def fi35 : DefI := ⟨1, 2, [], ir35⟩
/-- knowing.neighbours -/
def ir37 : ISs := (.cons (.asg (.nm 2) (.lst .nil))
  (.cons (.loop (.tp (.cons (.nm 3) (.cons (.nm 4) (.cons (.nm 5) .nil)))) .seq (.cons (.var 0) .nil) (.cons (.ite (.and (.var 5) (.cmp .Eq (.var 3) (.var 1))) (.cons (.expr (.mu 2 .append (.cons (.var 4) .nil)))
  .nil) .nil)
  (.cons (.ite (.and (.var 5) (.cmp .Eq (.var 4) (.var 1))) (.cons (.expr (.mu 2 .append (.cons (.var 3) .nil)))
  .nil) .nil)
  .nil)))
  (.cons (.ret (.var 2))
  .nil)))
def fi37 : DefI := ⟨2, 6, [], ir37⟩
/-- knowing.chains_from -/
def ir38 : ISs := (.cons (.asg (.nm 2) (.dct (.cons (.var 1) (.cons (.tup (.cons (.var 1) .nil)) .nil))))
  (.cons (.asg (.nm 3) (.lst (.cons (.var 1) .nil)))
  (.cons (.whl (.cmp .NotEq (.var 3) (.lst .nil)) (.cons (.asg (.nm 4) (.mu 3 .popAt (.cons (.cst (.int 0)) .nil)))
  (.cons (.loop (.nm 5) .seq (.cons (.call 37 (.cons (.var 0) (.cons (.var 4) .nil))) .nil) (.cons (.ite (.cmp .NotIn (.var 5) (.var 2)) (.cons (.put 2 (.var 5) (.bin .Add (.ix (.var 2) (.var 4)) (.tup (.cons (.var 5) .nil))))
  (.cons (.expr (.mu 3 .append (.cons (.var 5) .nil)))
  .nil)) .nil)
  .nil))
  .nil)))
  (.cons (.ret (.var 2))
  .nil))))
def fi38 : DefI := ⟨2, 6, [], ir38⟩
/-- knowing.clash -/
def ir39 : ISs := (.cons (.loop (.tp (.cons (.nm 1) (.cons (.nm 2) (.cons (.nm 3) .nil)))) .seq (.cons (.var 0) .nil) (.cons (.asg (.nm 4) (.call 38 (.cons (.var 0) (.cons (.var 1) .nil))))
  (.cons (.ite (.and (.not (.var 3)) (.cmp .In (.var 2) (.var 4))) (.cons (.ret (.ix (.var 4) (.var 2)))
  .nil) .nil)
  (.cons (.asg (.nm 5) (.call 35 (.cons (.var 4) .nil)))
  (.cons (.ite (.cmp .Gt (.bi .len (.cons (.var 5) .nil)) (.cst (.int 1))) (.cons (.ret (.ix (.call 38 (.cons (.var 0) (.cons (.ix (.var 5) (.cst (.int 0))) .nil))) (.ix (.var 5) (.cst (.int 1)))))
  .nil) .nil)
  .nil)))))
  (.cons (.ret (.cst .non))
  .nil))
def fi39 : DefI := ⟨1, 6, [], ir39⟩
/-- knowing.fresh_beside -/
def ir40 : ISs := (.cons (.asg (.nm 1) (.cst (.int 0)))
  (.cons (.whl (.cmp .In (.var 1) (.var 0)) (.cons (.aug 1 .Add (.cst (.int 1)))
  .nil))
  (.cons (.ret (.var 1))
  .nil)))
def fi40 : DefI := ⟨1, 2, [], ir40⟩
/-- knowing.agreeing -/
def ir41 : ISs := (.cons (.ite (.cmp .IsNot (.call 39 (.cons (.var 0) .nil)) (.cst .non)) (.cons (.ret (.cst .non))
  .nil) .nil)
  (.cons (.asg (.nm 1) (.bin .Add (.lc [8] (.nm 8) .seq (.cons (.var 0) .nil) .nil (.ix (.var 8) (.cst (.int 0)))) (.lc [8] (.nm 8) .seq (.cons (.var 0) .nil) .nil (.ix (.var 8) (.cst (.int 1))))))
  (.cons (.asg (.nm 2) (.call 35 (.cons (.var 1) .nil)))
  (.cons (.asg (.nm 3) (.dct .nil))
  (.cons (.loop (.nm 4) .seq (.cons (.var 1) .nil) (.cons (.ite (.and (.isi (.var 4) [.str]) (.cmp .NotIn (.var 4) (.var 3))) (.cons (.asg (.nm 5) (.call 38 (.cons (.var 0) (.cons (.var 4) .nil))))
  (.cons (.asg (.nm 6) (.ix (.bin .Add (.call 35 (.cons (.var 5) .nil)) (.lst (.cons (.callF 40 (.cons (.var 2) .nil)) .nil))) (.cst (.int 0))))
  (.cons (.expr (.mu 2 .append (.cons (.var 6) .nil)))
  (.cons (.loopL (.nm 7) .keys 5 (.cons (.ite (.isi (.var 7) [.str]) (.cons (.put 3 (.var 7) (.var 6))
  .nil) .nil)
  .nil))
  .nil)))) .nil)
  .nil))
  (.cons (.ret (.var 3))
  .nil))))))
def fi41 : DefI := ⟨1, 9, [], ir41⟩
end Pgm
namespace K21
open PySem PySem.Spec PyProof.Rows L2 MT Pgm
def top (i : Nat) : Stmt := PySem.Challenge.pw_maybetables_k21_clash_or_agreeing.main.body.getD i (.Pass ⟨0, 0, 0, 0⟩)
theorem d__law_agrees : (("_law_agrees" : Str) == ("__debug__" : Str)) = false := by decide +kernel
theorem d__law_at : (("_law_at" : Str) == ("__debug__" : Str)) = false := by decide +kernel
theorem e__law_at : (("_law_at" : Str) == ("__classdict__" : Str)) = false := by decide +kernel
theorem d__law_cell : (("_law_cell" : Str) == ("__debug__" : Str)) = false := by decide +kernel
theorem e__law_cell : (("_law_cell" : Str) == ("__classdict__" : Str)) = false := by decide +kernel
theorem d__law_cells : (("_law_cells" : Str) == ("__debug__" : Str)) = false := by decide +kernel
theorem e__law_cells : (("_law_cells" : Str) == ("__classdict__" : Str)) = false := by decide +kernel
theorem d__law_due : (("_law_due" : Str) == ("__debug__" : Str)) = false := by decide +kernel
theorem e__law_due : (("_law_due" : Str) == ("__classdict__" : Str)) = false := by decide +kernel
theorem d__law_fewer : (("_law_fewer" : Str) == ("__debug__" : Str)) = false := by decide +kernel
theorem e__law_fewer : (("_law_fewer" : Str) == ("__classdict__" : Str)) = false := by decide +kernel
theorem d__law_filling : (("_law_filling" : Str) == ("__debug__" : Str)) = false := by decide +kernel
theorem e__law_filling : (("_law_filling" : Str) == ("__classdict__" : Str)) = false := by decide +kernel
theorem d__law_found : (("_law_found" : Str) == ("__debug__" : Str)) = false := by decide +kernel
theorem e__law_found : (("_law_found" : Str) == ("__classdict__" : Str)) = false := by decide +kernel
theorem d__law_gap : (("_law_gap" : Str) == ("__debug__" : Str)) = false := by decide +kernel
theorem e__law_gap : (("_law_gap" : Str) == ("__classdict__" : Str)) = false := by decide +kernel
theorem d__law_gaps : (("_law_gaps" : Str) == ("__debug__" : Str)) = false := by decide +kernel
theorem d__law_gaps_here : (("_law_gaps_here" : Str) == ("__debug__" : Str)) = false := by decide +kernel
theorem e__law_gaps_here : (("_law_gaps_here" : Str) == ("__classdict__" : Str)) = false := by decide +kernel
theorem d__law_handed : (("_law_handed" : Str) == ("__debug__" : Str)) = false := by decide +kernel
theorem e__law_handed : (("_law_handed" : Str) == ("__classdict__" : Str)) = false := by decide +kernel
theorem d__law_is_clash : (("_law_is_clash" : Str) == ("__debug__" : Str)) = false := by decide +kernel
theorem d__law_k : (("_law_k" : Str) == ("__debug__" : Str)) = false := by decide +kernel
theorem e__law_k : (("_law_k" : Str) == ("__classdict__" : Str)) = false := by decide +kernel
theorem d__law_label : (("_law_label" : Str) == ("__debug__" : Str)) = false := by decide +kernel
theorem e__law_label : (("_law_label" : Str) == ("__classdict__" : Str)) = false := by decide +kernel
theorem d__law_labels : (("_law_labels" : Str) == ("__debug__" : Str)) = false := by decide +kernel
theorem d__law_letters : (("_law_letters" : Str) == ("__debug__" : Str)) = false := by decide +kernel
theorem e__law_letters : (("_law_letters" : Str) == ("__classdict__" : Str)) = false := by decide +kernel
theorem d__law_many : (("_law_many" : Str) == ("__debug__" : Str)) = false := by decide +kernel
theorem e__law_many : (("_law_many" : Str) == ("__classdict__" : Str)) = false := by decide +kernel
theorem d__law_nth : (("_law_nth" : Str) == ("__debug__" : Str)) = false := by decide +kernel
theorem d__law_number : (("_law_number" : Str) == ("__debug__" : Str)) = false := by decide +kernel
theorem d__law_number_here : (("_law_number_here" : Str) == ("__debug__" : Str)) = false := by decide +kernel
theorem e__law_number_here : (("_law_number_here" : Str) == ("__classdict__" : Str)) = false := by decide +kernel
theorem d__law_numbers : (("_law_numbers" : Str) == ("__debug__" : Str)) = false := by decide +kernel
theorem e__law_numbers : (("_law_numbers" : Str) == ("__classdict__" : Str)) = false := by decide +kernel
theorem d__law_old : (("_law_old" : Str) == ("__debug__" : Str)) = false := by decide +kernel
theorem e__law_old : (("_law_old" : Str) == ("__classdict__" : Str)) = false := by decide +kernel
theorem d__law_one : (("_law_one" : Str) == ("__debug__" : Str)) = false := by decide +kernel
theorem e__law_one : (("_law_one" : Str) == ("__classdict__" : Str)) = false := by decide +kernel
theorem d__law_other : (("_law_other" : Str) == ("__debug__" : Str)) = false := by decide +kernel
theorem e__law_other : (("_law_other" : Str) == ("__classdict__" : Str)) = false := by decide +kernel
theorem d__law_pool : (("_law_pool" : Str) == ("__debug__" : Str)) = false := by decide +kernel
theorem d__law_pool_here : (("_law_pool_here" : Str) == ("__debug__" : Str)) = false := by decide +kernel
theorem e__law_pool_here : (("_law_pool_here" : Str) == ("__classdict__" : Str)) = false := by decide +kernel
theorem d__law_right : (("_law_right" : Str) == ("__debug__" : Str)) = false := by decide +kernel
theorem d__law_said : (("_law_said" : Str) == ("__debug__" : Str)) = false := by decide +kernel
theorem e__law_said : (("_law_said" : Str) == ("__classdict__" : Str)) = false := by decide +kernel
theorem d__law_script : (("_law_script" : Str) == ("__debug__" : Str)) = false := by decide +kernel
theorem e__law_script : (("_law_script" : Str) == ("__classdict__" : Str)) = false := by decide +kernel
theorem d__law_stem : (("_law_stem" : Str) == ("__debug__" : Str)) = false := by decide +kernel
theorem e__law_stem : (("_law_stem" : Str) == ("__classdict__" : Str)) = false := by decide +kernel
theorem d__law_things : (("_law_things" : Str) == ("__debug__" : Str)) = false := by decide +kernel
theorem d__law_things_here : (("_law_things_here" : Str) == ("__debug__" : Str)) = false := by decide +kernel
theorem e__law_things_here : (("_law_things_here" : Str) == ("__classdict__" : Str)) = false := by decide +kernel
theorem d__law_told : (("_law_told" : Str) == ("__debug__" : Str)) = false := by decide +kernel
theorem e__law_told : (("_law_told" : Str) == ("__classdict__" : Str)) = false := by decide +kernel
theorem d__law_torn : (("_law_torn" : Str) == ("__debug__" : Str)) = false := by decide +kernel
theorem d__law_torn_here : (("_law_torn_here" : Str) == ("__debug__" : Str)) = false := by decide +kernel
theorem e__law_torn_here : (("_law_torn_here" : Str) == ("__classdict__" : Str)) = false := by decide +kernel
theorem d__law_unlike : (("_law_unlike" : Str) == ("__debug__" : Str)) = false := by decide +kernel
theorem d__law_values : (("_law_values" : Str) == ("__debug__" : Str)) = false := by decide +kernel
theorem e__law_values : (("_law_values" : Str) == ("__classdict__" : Str)) = false := by decide +kernel
theorem d__law_whole : (("_law_whole" : Str) == ("__debug__" : Str)) = false := by decide +kernel
theorem d__law_worth : (("_law_worth" : Str) == ("__debug__" : Str)) = false := by decide +kernel
theorem d_agreeing : (("agreeing" : Str) == ("__debug__" : Str)) = false := by decide +kernel
theorem d_assumed : (("assumed" : Str) == ("__debug__" : Str)) = false := by decide +kernel
theorem e_assumed : (("assumed" : Str) == ("__classdict__" : Str)) = false := by decide +kernel
theorem d_cell : (("cell" : Str) == ("__debug__" : Str)) = false := by decide +kernel
theorem e_cell : (("cell" : Str) == ("__classdict__" : Str)) = false := by decide +kernel
theorem d_cells : (("cells" : Str) == ("__debug__" : Str)) = false := by decide +kernel
theorem e_cells : (("cells" : Str) == ("__classdict__" : Str)) = false := by decide +kernel
theorem d_chains : (("chains" : Str) == ("__debug__" : Str)) = false := by decide +kernel
theorem e_chains : (("chains" : Str) == ("__classdict__" : Str)) = false := by decide +kernel
theorem d_chains_from : (("chains_from" : Str) == ("__debug__" : Str)) = false := by decide +kernel
theorem d_clash : (("clash" : Str) == ("__debug__" : Str)) = false := by decide +kernel
theorem d_filling : (("filling" : Str) == ("__debug__" : Str)) = false := by decide +kernel
theorem e_filling : (("filling" : Str) == ("__classdict__" : Str)) = false := by decide +kernel
theorem d_found : (("found" : Str) == ("__debug__" : Str)) = false := by decide +kernel
theorem e_found : (("found" : Str) == ("__classdict__" : Str)) = false := by decide +kernel
theorem d_fresh_beside : (("fresh_beside" : Str) == ("__debug__" : Str)) = false := by decide +kernel
theorem d_here : (("here" : Str) == ("__debug__" : Str)) = false := by decide +kernel
theorem e_here : (("here" : Str) == ("__classdict__" : Str)) = false := by decide +kernel
theorem d_neighbours : (("neighbours" : Str) == ("__debug__" : Str)) = false := by decide +kernel
theorem d_number : (("number" : Str) == ("__debug__" : Str)) = false := by decide +kernel
theorem e_number : (("number" : Str) == ("__classdict__" : Str)) = false := by decide +kernel
theorem d_one : (("one" : Str) == ("__debug__" : Str)) = false := by decide +kernel
theorem e_one : (("one" : Str) == ("__classdict__" : Str)) = false := by decide +kernel
theorem d_other : (("other" : Str) == ("__debug__" : Str)) = false := by decide +kernel
theorem e_other : (("other" : Str) == ("__classdict__" : Str)) = false := by decide +kernel
theorem d_said : (("said" : Str) == ("__debug__" : Str)) = false := by decide +kernel
theorem e_said : (("said" : Str) == ("__classdict__" : Str)) = false := by decide +kernel
theorem d_taken : (("taken" : Str) == ("__debug__" : Str)) = false := by decide +kernel
theorem e_taken : (("taken" : Str) == ("__classdict__" : Str)) = false := by decide +kernel
theorem d_thing : (("thing" : Str) == ("__debug__" : Str)) = false := by decide +kernel
theorem e_thing : (("thing" : Str) == ("__classdict__" : Str)) = false := by decide +kernel
theorem d_value : (("value" : Str) == ("__debug__" : Str)) = false := by decide +kernel
theorem e_value : (("value" : Str) == ("__classdict__" : Str)) = false := by decide +kernel
theorem d_values : (("values" : Str) == ("__debug__" : Str)) = false := by decide +kernel
theorem e_values : (("values" : Str) == ("__classdict__" : Str)) = false := by decide +kernel
theorem d_values_in : (("values_in" : Str) == ("__debug__" : Str)) = false := by decide +kernel
theorem d_waiting : (("waiting" : Str) == ("__debug__" : Str)) = false := by decide +kernel
theorem e_waiting : (("waiting" : Str) == ("__classdict__" : Str)) = false := by decide +kernel
def T : CTab where
  names := []
  isa := []
  flds := []
  fns := []
  meths := []
  mks := []
  bino := []
def PM : List ((Nat × Nat) × Nat) := []
def PI : List (Nat × Nat) := []
/-- what the top has left -/
structure GF (P : Program) (w : World) (nm : Nm) (mg : Str → Option Value) (base : Heap) (k : Nat) (Φ : CT) : Prop where
  n_all : mg "all" = none
  n_any : mg "any" = none
  n_bool : mg "bool" = none
  n_dict : mg "dict" = none
  n_enumerate : mg "enumerate" = none
  n_int : mg "int" = none
  n_isinstance : mg "isinstance" = none
  n_len : mg "len" = none
  n_list : mg "list" = none
  n_range : mg "range" = none
  n_set : mg "set" = none
  n_sorted : mg "sorted" = none
  n_str : mg "str" = none
  n_sum : mg "sum" = none
  n_tuple : mg "tuple" = none
  n_zip : mg "zip" = none
  c__law_agrees : Cal P w nm mg base k Φ "_law_agrees" 311 2
  c__law_gaps : Cal P w nm mg base k Φ "_law_gaps" 302 2
  c__law_is_clash : Cal P w nm mg base k Φ "_law_is_clash" 309 2
  c__law_labels : Cal P w nm mg base k Φ "_law_labels" 306 2
  c__law_nth : Cal P w nm mg base k Φ "_law_nth" 300 2
  c__law_number : Cal P w nm mg base k Φ "_law_number" 303 1
  c__law_pool : Cal P w nm mg base k Φ "_law_pool" 304 1
  c__law_right : Cal P w nm mg base k Φ "_law_right" 312 3
  c__law_things : Cal P w nm mg base k Φ "_law_things" 305 2
  c__law_torn : Cal P w nm mg base k Φ "_law_torn" 307 2
  c__law_unlike : Cal P w nm mg base k Φ "_law_unlike" 308 3
  c__law_whole : Cal P w nm mg base k Φ "_law_whole" 301 1
  c__law_worth : Cal P w nm mg base k Φ "_law_worth" 310 2
  c_agreeing : Cal P w nm mg base k Φ "agreeing" 41 1
  c_chains_from : Cal P w nm mg base k Φ "chains_from" 38 2
  c_clash : Cal P w nm mg base k Φ "clash" 39 1
  c_fresh_beside : Cal P w nm mg base k Φ "fresh_beside" 40 1
  c_neighbours : Cal P w nm mg base k Φ "neighbours" 37 2
  c_values_in : Cal P w nm mg base k Φ "values_in" 35 1
  CK : ClsK nm.K nm Φ
abbrev t35 : Stmt := (top 1)
abbrev N35 : List Str := ["cells", "cell"]
theorem nd35 : N35.Nodup := by decide +kernel
theorem sc35 : FnScope N35 ["cells"] (defScope t35) := ⟨rfl, rfl, rfl, by decide +kernel, rfl, by decide +kernel, by decide +kernel⟩
theorem v35_cells : (defScope t35).names.lookup ("cells" : Str) = some .local := by decide +kernel
theorem body35 {P : Program} {w : World} {nm : Nm} {mg : Str → Option Value} {base : Heap} {k : Nat} {Φ : CT} {f : Addr} (G : GF P w nm mg base k Φ) (cdv : Value) (A : Around) (outer : List PySem.Env) (s : Shared) (H : Hp) (E : XK) (hr : Room (k + 1) (A.deeper (envOfC "values_in" (defScope t35) s.heap.objs.size f cdv)))
    (tk : Takes (cxOf (L2.CX P w) P w nm.K mg base N35 "values_in" (defScope t35) f cdv A outer s H E) (fun cls d _ H => E cls d H))
    (hp : PassesOwn (model P w) (A.deeper (envOfC "values_in" (defScope t35) s.heap.objs.size f cdv)) (envOfC "values_in" (defScope t35) s.heap.objs.size f cdv) (cxOf (L2.CX P w) P w nm.K mg base N35 "values_in" (defScope t35) f cdv A outer s H E).xe) :
    PSs (cxOf (L2.CX P w) P w nm.K mg base N35 "values_in" (defScope t35) f cdv A outer s H E) (defBody t35) (tSs ⟨nm, Φ, ioIx 0 fi35.io, fun cls d _ H => E cls d H⟩ ir35) :=
  have hr0 := hr.mono (Nat.le_succ k)
  (sb_cons (ss_ret (fun _ z => nomatch z) (s_lcK (own := [("cell", 1)]) (hK := rfl) rfl nd35 (pv 0 rfl (.inl v35_cells) d_cells e_cells) (show blkC N35 (defScope t35) _ _ = true by decide +kernel) (fun _ _ _ _ _ => (sg_name nd35 rfl (by first | exact .inl rfl | exact .inr rfl) (by first | exact .inl rfl | exact .inr rfl))) (fun _ _ _ _ _ => (sts_one (st_not (st_val (fun _ => rfl) (s_isi (t := .str) (by rfl) G.n_isinstance rfl G.CK (fun _ z => nomatch z) (tyE_b rfl (by rfl) G.n_str) (s_varO (pv 1 rfl (by first | exact .inl rfl | exact .inr (.inl rfl) | exact .inr (.inr rfl)) d_cell e_cell)) rfl rfl rfl))))) (fun _ _ _ _ _ => (s_var (pv 1 rfl (by first | exact .inl rfl | exact .inr (.inl rfl) | exact .inr (.inr rfl)) d_cell e_cell))) (fun _ => rfl) (by decide)))
  sb_nil)
abbrev t37 : Stmt := (top 2)
abbrev N37 : List Str := ["assumed", "cell", "found", "one", "other", "said"]
theorem nd37 : N37.Nodup := by decide +kernel
theorem sc37 : FnScope N37 ["assumed", "cell"] (defScope t37) := ⟨rfl, rfl, rfl, by decide +kernel, rfl, by decide +kernel, by decide +kernel⟩
theorem v37_assumed : (defScope t37).names.lookup ("assumed" : Str) = some .local := by decide +kernel
theorem v37_cell : (defScope t37).names.lookup ("cell" : Str) = some .local := by decide +kernel
theorem v37_found : (defScope t37).names.lookup ("found" : Str) = some .local := by decide +kernel
theorem v37_one : (defScope t37).names.lookup ("one" : Str) = some .local := by decide +kernel
theorem v37_other : (defScope t37).names.lookup ("other" : Str) = some .local := by decide +kernel
theorem v37_said : (defScope t37).names.lookup ("said" : Str) = some .local := by decide +kernel
theorem body37 {P : Program} {w : World} {nm : Nm} {mg : Str → Option Value} {base : Heap} {k : Nat} {Φ : CT} {f : Addr} (G : GF P w nm mg base k Φ) (cdv : Value) (A : Around) (outer : List PySem.Env) (s : Shared) (H : Hp) (E : XK) (hr : Room (k + 1) (A.deeper (envOfC "neighbours" (defScope t37) s.heap.objs.size f cdv)))
    (tk : Takes (cxOf (L2.CX P w) P w nm.K mg base N37 "neighbours" (defScope t37) f cdv A outer s H E) (fun cls d _ H => E cls d H))
    (hp : PassesOwn (model P w) (A.deeper (envOfC "neighbours" (defScope t37) s.heap.objs.size f cdv)) (envOfC "neighbours" (defScope t37) s.heap.objs.size f cdv) (cxOf (L2.CX P w) P w nm.K mg base N37 "neighbours" (defScope t37) f cdv A outer s H E).xe) :
    PSs (cxOf (L2.CX P w) P w nm.K mg base N37 "neighbours" (defScope t37) f cdv A outer s H E) (defBody t37) (tSs ⟨nm, Φ, ioIx 0 fi37.io, fun cls d _ H => E cls d H⟩ ir37) :=
  have hr0 := hr.mono (Nat.le_succ k)
  (sb_cons (ss_set nd37 rfl (.inl v37_found) (s_lst s_vnil) rfl (.inl rfl))
  (sb_cons (ss_for hp rfl (si_seq rfl (s_varO (pv 0 rfl (.inl v37_assumed) d_assumed e_assumed))) (sg_tup rfl (sgs_cons (sg_name nd37 rfl (.inl v37_one) (.inl rfl)) (sgs_cons (sg_name nd37 rfl (.inl v37_other) (.inl rfl)) (sgs_cons (sg_name nd37 rfl (.inl v37_said) (.inl rfl)) sgs_nil rfl) rfl) rfl) rfl rfl (lenT3)) (sb_cons (ss_if (PW.pt (st_and (st_val (fun _ => rfl) (s_var (pv 5 rfl (.inl v37_said) d_said e_said))) (pw_and1 (st_cmp hr.units (nomark _) (s_varO (pv 3 rfl (.inl v37_one) d_one e_one)) (s_varO (pv 1 rfl (.inl v37_cell) d_cell e_cell)))))) (sb_cons (ss_expr (s_mu mu_append PySem.F.plainAttrs_list PySem.F.slot_list_append PySem.F.type_list_append (pv 2 rfl (.inl v37_found) d_found e_found) (s_vcons rfl (s_var (pv 4 rfl (.inl v37_other) d_other e_other)) s_vnil) rfl rfl rfl rfl rfl) rfl)
  sb_nil) sb_nil)
  (sb_cons (ss_if (PW.pt (st_and (st_val (fun _ => rfl) (s_var (pv 5 rfl (.inl v37_said) d_said e_said))) (pw_and1 (st_cmp hr.units (nomark _) (s_varO (pv 4 rfl (.inl v37_other) d_other e_other)) (s_varO (pv 1 rfl (.inl v37_cell) d_cell e_cell)))))) (sb_cons (ss_expr (s_mu mu_append PySem.F.plainAttrs_list PySem.F.slot_list_append PySem.F.type_list_append (pv 2 rfl (.inl v37_found) d_found e_found) (s_vcons rfl (s_var (pv 3 rfl (.inl v37_one) d_one e_one)) s_vnil) rfl rfl rfl rfl rfl) rfl)
  sb_nil) sb_nil)
  sb_nil)) (fun _ => rfl))
  (sb_cons (ss_retV (pv 2 rfl (.inl v37_found) d_found e_found))
  sb_nil)))
abbrev t38 : Stmt := (top 3)
abbrev N38 : List Str := ["assumed", "cell", "chains", "waiting", "here", "other"]
theorem nd38 : N38.Nodup := by decide +kernel
theorem sc38 : FnScope N38 ["assumed", "cell"] (defScope t38) := ⟨rfl, rfl, rfl, by decide +kernel, rfl, by decide +kernel, by decide +kernel⟩
theorem v38_assumed : (defScope t38).names.lookup ("assumed" : Str) = some .local := by decide +kernel
theorem v38_cell : (defScope t38).names.lookup ("cell" : Str) = some .local := by decide +kernel
theorem v38_chains : (defScope t38).names.lookup ("chains" : Str) = some .local := by decide +kernel
theorem v38_here : (defScope t38).names.lookup ("here" : Str) = some .local := by decide +kernel
theorem v38_other : (defScope t38).names.lookup ("other" : Str) = some .local := by decide +kernel
theorem v38_waiting : (defScope t38).names.lookup ("waiting" : Str) = some .local := by decide +kernel
theorem g38_neighbours : (defScope t38).names.lookup ("neighbours" : Str) = some .globalImplicit := by decide +kernel
theorem body38 {P : Program} {w : World} {nm : Nm} {mg : Str → Option Value} {base : Heap} {k : Nat} {Φ : CT} {f : Addr} (G : GF P w nm mg base k Φ) (cdv : Value) (A : Around) (outer : List PySem.Env) (s : Shared) (H : Hp) (E : XK) (hr : Room (k + 1) (A.deeper (envOfC "chains_from" (defScope t38) s.heap.objs.size f cdv)))
    (tk : Takes (cxOf (L2.CX P w) P w nm.K mg base N38 "chains_from" (defScope t38) f cdv A outer s H E) (fun cls d _ H => E cls d H))
    (hp : PassesOwn (model P w) (A.deeper (envOfC "chains_from" (defScope t38) s.heap.objs.size f cdv)) (envOfC "chains_from" (defScope t38) s.heap.objs.size f cdv) (cxOf (L2.CX P w) P w nm.K mg base N38 "chains_from" (defScope t38) f cdv A outer s H E).xe) :
    PSs (cxOf (L2.CX P w) P w nm.K mg base N38 "chains_from" (defScope t38) f cdv A outer s H E) (defBody t38) (tSs ⟨nm, Φ, ioIx 0 fi38.io, fun cls d _ H => E cls d H⟩ ir38) :=
  have hr0 := hr.mono (Nat.le_succ k)
  (sb_cons (ss_set nd38 rfl (.inl v38_chains) (s_dct (.cons (s_var (pv 1 rfl (.inl v38_cell) d_cell e_cell)) (s_tup (s_vcons rfl (s_var (pv 1 rfl (.inl v38_cell) d_cell e_cell)) s_vnil)) .nil) (by simp) (by decide)) rfl (.inl rfl))
  (sb_cons (ss_set nd38 rfl (.inl v38_waiting) (s_lst (s_vcons rfl (s_var (pv 1 rfl (.inl v38_cell) d_cell e_cell)) s_vnil)) rfl (.inl rfl))
  (sb_cons (ss_while hp (st_cmp hr.units (nomark _) (s_varO (pv 3 rfl (.inl v38_waiting) d_waiting e_waiting)) (s_opd (fun _ z => nomatch z) (s_lst s_vnil))) (sb_cons (ss_set nd38 rfl (.inl v38_here) (s_mu mu_popAt PySem.F.plainAttrs_list PySem.F.slot_list_pop PySem.F.type_list_pop (pv 3 rfl (.inl v38_waiting) d_waiting e_waiting) (s_vcons rfl s_int s_vnil) rfl rfl rfl rfl rfl) rfl (.inl rfl))
  (sb_cons (ss_for hp rfl (si_seq rfl (s_opd (fun _ z => nomatch z) (s_callC rfl G.c_neighbours hr0 g38_neighbours tk rfl (s_ocons rfl (s_varO (pv 0 rfl (.inl v38_assumed) d_assumed e_assumed)) (s_ocons rfl (s_varO (pv 4 rfl (.inl v38_here) d_here e_here)) s_onil)) d_neighbours rfl rfl))) (sg_name nd38 rfl (.inl v38_other) (.inl rfl)) (sb_cons (ss_if (st_cmp hr.units rfl (s_varO (pv 5 rfl (.inl v38_other) d_other e_other)) (s_varO (pv 2 rfl (.inl v38_chains) d_chains e_chains))) (sb_cons (ss_put (hu_of hr) (s_bin (s_opd (fun _ z => nomatch z) (s_ix rfl hr.units (fun _ _ => rfl) (s_varO (pv 2 rfl (.inl v38_chains) d_chains e_chains)) (s_varO (pv 4 rfl (.inl v38_here) d_here e_here)))) (s_opd (fun _ z => nomatch z) (s_tup (s_vcons rfl (s_var (pv 5 rfl (.inl v38_other) d_other e_other)) s_vnil)))) (pv 2 rfl (.inl v38_chains) d_chains e_chains) (s_var (pv 5 rfl (.inl v38_other) d_other e_other)) (fun _ => rfl) rfl rfl rfl)
  (sb_cons (ss_expr (s_mu mu_append PySem.F.plainAttrs_list PySem.F.slot_list_append PySem.F.type_list_append (pv 3 rfl (.inl v38_waiting) d_waiting e_waiting) (s_vcons rfl (s_var (pv 5 rfl (.inl v38_other) d_other e_other)) s_vnil) rfl rfl rfl rfl rfl) rfl)
  sb_nil)) sb_nil)
  sb_nil) (fun _ => rfl))
  sb_nil)))
  (sb_cons (ss_retV (pv 2 rfl (.inl v38_chains) d_chains e_chains))
  sb_nil))))
abbrev t39 : Stmt := (top 4)
abbrev N39 : List Str := ["assumed", "one", "other", "said", "chains", "values"]
theorem nd39 : N39.Nodup := by decide +kernel
theorem sc39 : FnScope N39 ["assumed"] (defScope t39) := ⟨rfl, rfl, rfl, by decide +kernel, rfl, by decide +kernel, by decide +kernel⟩
theorem v39_assumed : (defScope t39).names.lookup ("assumed" : Str) = some .local := by decide +kernel
theorem v39_chains : (defScope t39).names.lookup ("chains" : Str) = some .local := by decide +kernel
theorem v39_one : (defScope t39).names.lookup ("one" : Str) = some .local := by decide +kernel
theorem v39_other : (defScope t39).names.lookup ("other" : Str) = some .local := by decide +kernel
theorem v39_said : (defScope t39).names.lookup ("said" : Str) = some .local := by decide +kernel
theorem v39_values : (defScope t39).names.lookup ("values" : Str) = some .local := by decide +kernel
theorem g39_chains_from : (defScope t39).names.lookup ("chains_from" : Str) = some .globalImplicit := by decide +kernel
theorem g39_len : (defScope t39).names.lookup ("len" : Str) = some .globalImplicit := by decide +kernel
theorem g39_values_in : (defScope t39).names.lookup ("values_in" : Str) = some .globalImplicit := by decide +kernel
theorem body39 {P : Program} {w : World} {nm : Nm} {mg : Str → Option Value} {base : Heap} {k : Nat} {Φ : CT} {f : Addr} (G : GF P w nm mg base k Φ) (cdv : Value) (A : Around) (outer : List PySem.Env) (s : Shared) (H : Hp) (E : XK) (hr : Room (k + 1) (A.deeper (envOfC "clash" (defScope t39) s.heap.objs.size f cdv)))
    (tk : Takes (cxOf (L2.CX P w) P w nm.K mg base N39 "clash" (defScope t39) f cdv A outer s H E) (fun cls d _ H => E cls d H))
    (hp : PassesOwn (model P w) (A.deeper (envOfC "clash" (defScope t39) s.heap.objs.size f cdv)) (envOfC "clash" (defScope t39) s.heap.objs.size f cdv) (cxOf (L2.CX P w) P w nm.K mg base N39 "clash" (defScope t39) f cdv A outer s H E).xe) :
    PSs (cxOf (L2.CX P w) P w nm.K mg base N39 "clash" (defScope t39) f cdv A outer s H E) (defBody t39) (tSs ⟨nm, Φ, ioIx 0 fi39.io, fun cls d _ H => E cls d H⟩ ir39) :=
  have hr0 := hr.mono (Nat.le_succ k)
  (sb_cons (ss_for hp rfl (si_seq rfl (s_varO (pv 0 rfl (.inl v39_assumed) d_assumed e_assumed))) (sg_tup rfl (sgs_cons (sg_name nd39 rfl (.inl v39_one) (.inl rfl)) (sgs_cons (sg_name nd39 rfl (.inl v39_other) (.inl rfl)) (sgs_cons (sg_name nd39 rfl (.inl v39_said) (.inl rfl)) sgs_nil rfl) rfl) rfl) rfl rfl (lenT3)) (sb_cons (ss_set nd39 rfl (.inl v39_chains) (s_callC rfl G.c_chains_from hr0 g39_chains_from tk rfl (s_ocons rfl (s_varO (pv 0 rfl (.inl v39_assumed) d_assumed e_assumed)) (s_ocons rfl (s_varO (pv 1 rfl (.inl v39_one) d_one e_one)) s_onil)) d_chains_from rfl rfl) rfl (.inl rfl))
  (sb_cons (ss_if (PW.pt (st_and (st_not (st_val (fun _ => rfl) (s_var (pv 3 rfl (.inl v39_said) d_said e_said)))) (pw_and1 (st_cmp hr.units rfl (s_varO (pv 2 rfl (.inl v39_other) d_other e_other)) (s_varO (pv 4 rfl (.inl v39_chains) d_chains e_chains)))))) (sb_cons (ss_ret (fun _ z => nomatch z) (s_ix rfl hr.units (fun _ _ => rfl) (s_varO (pv 4 rfl (.inl v39_chains) d_chains e_chains)) (s_varO (pv 2 rfl (.inl v39_other) d_other e_other))))
  sb_nil) sb_nil)
  (sb_cons (ss_set nd39 rfl (.inl v39_values) (s_callC rfl G.c_values_in hr0 g39_values_in tk rfl (s_ocons rfl (s_varO (pv 4 rfl (.inl v39_chains) d_chains e_chains)) s_onil) d_values_in rfl rfl) rfl (.inl rfl))
  (sb_cons (ss_if (st_cmp hr.units (nomark _) (s_opd (fun _ z => nomatch z) (s_bi .len rfl rfl g39_len G.n_len (s_ocons rfl (s_varO (pv 5 rfl (.inl v39_values) d_values e_values)) s_onil) rfl rfl)) (s_opd (fun _ z => nomatch z) s_int)) (sb_cons (ss_ret (fun _ z => nomatch z) (s_ix rfl hr.units (fun _ _ => rfl) (s_opd (fun _ z => nomatch z) (s_callC rfl G.c_chains_from hr0 g39_chains_from tk rfl (s_ocons rfl (s_varO (pv 0 rfl (.inl v39_assumed) d_assumed e_assumed)) (s_ocons rfl (s_opd (fun _ z => nomatch z) (s_ix rfl hr.units (fun _ _ => rfl) (s_varO (pv 5 rfl (.inl v39_values) d_values e_values)) (s_opd (fun _ z => nomatch z) s_int))) s_onil)) d_chains_from rfl rfl)) (s_opd (fun _ z => nomatch z) (s_ix rfl hr.units (fun _ _ => rfl) (s_varO (pv 5 rfl (.inl v39_values) d_values e_values)) (s_opd (fun _ z => nomatch z) s_int)))))
  sb_nil) sb_nil)
  sb_nil)))) (fun _ => rfl))
  (sb_cons (ss_ret (fun _ z => nomatch z) s_non)
  sb_nil))
abbrev t40 : Stmt := (top 5)
abbrev N40 : List Str := ["values", "number"]
theorem nd40 : N40.Nodup := by decide +kernel
theorem sc40 : FnScope N40 ["values"] (defScope t40) := ⟨rfl, rfl, rfl, by decide +kernel, rfl, by decide +kernel, by decide +kernel⟩
theorem v40_number : (defScope t40).names.lookup ("number" : Str) = some .local := by decide +kernel
theorem v40_values : (defScope t40).names.lookup ("values" : Str) = some .local := by decide +kernel
theorem body40 {P : Program} {w : World} {nm : Nm} {mg : Str → Option Value} {base : Heap} {k : Nat} {Φ : CT} {f : Addr} (G : GF P w nm mg base k Φ) (cdv : Value) (A : Around) (outer : List PySem.Env) (s : Shared) (H : Hp) (E : XK) (hr : Room (k + 1) (A.deeper (envOfC "fresh_beside" (defScope t40) s.heap.objs.size f cdv)))
    (tk : Takes (cxOf (L2.CX P w) P w nm.K mg base N40 "fresh_beside" (defScope t40) f cdv A outer s H E) (fun cls d _ H => E cls d H))
    (hp : PassesOwn (model P w) (A.deeper (envOfC "fresh_beside" (defScope t40) s.heap.objs.size f cdv)) (envOfC "fresh_beside" (defScope t40) s.heap.objs.size f cdv) (cxOf (L2.CX P w) P w nm.K mg base N40 "fresh_beside" (defScope t40) f cdv A outer s H E).xe) :
    PSs (cxOf (L2.CX P w) P w nm.K mg base N40 "fresh_beside" (defScope t40) f cdv A outer s H E) (defBody t40) (tSs ⟨nm, Φ, ioIx 0 fi40.io, fun cls d _ H => E cls d H⟩ ir40) :=
  have hr0 := hr.mono (Nat.le_succ k)
  (sb_cons (ss_set nd40 rfl (.inl v40_number) s_int rfl (.inl rfl))
  (sb_cons (ss_while hp (st_cmp hr.units rfl (s_varO (pv 1 rfl (.inl v40_number) d_number e_number)) (s_varO (pv 0 rfl (.inl v40_values) d_values e_values))) (sb_cons (ss_aug (.inl rfl) nd40 rfl (.inl v40_number) s_int (.inl rfl))
  sb_nil))
  (sb_cons (ss_retV (pv 1 rfl (.inl v40_number) d_number e_number))
  sb_nil)))
abbrev t41 : Stmt := (top 6)
abbrev N41 : List Str := ["assumed", "cells", "taken", "filling", "cell", "chains", "value", "other", "thing"]
theorem nd41 : N41.Nodup := by decide +kernel
theorem sc41 : FnScope N41 ["assumed"] (defScope t41) := ⟨rfl, rfl, rfl, by decide +kernel, rfl, by decide +kernel, by decide +kernel⟩
theorem v41_assumed : (defScope t41).names.lookup ("assumed" : Str) = some .local := by decide +kernel
theorem v41_cell : (defScope t41).names.lookup ("cell" : Str) = some .local := by decide +kernel
theorem v41_cells : (defScope t41).names.lookup ("cells" : Str) = some .local := by decide +kernel
theorem v41_chains : (defScope t41).names.lookup ("chains" : Str) = some .local := by decide +kernel
theorem v41_filling : (defScope t41).names.lookup ("filling" : Str) = some .local := by decide +kernel
theorem v41_other : (defScope t41).names.lookup ("other" : Str) = some .local := by decide +kernel
theorem v41_taken : (defScope t41).names.lookup ("taken" : Str) = some .local := by decide +kernel
theorem v41_value : (defScope t41).names.lookup ("value" : Str) = some .local := by decide +kernel
theorem g41_chains_from : (defScope t41).names.lookup ("chains_from" : Str) = some .globalImplicit := by decide +kernel
theorem g41_clash : (defScope t41).names.lookup ("clash" : Str) = some .globalImplicit := by decide +kernel
theorem g41_fresh_beside : (defScope t41).names.lookup ("fresh_beside" : Str) = some .globalImplicit := by decide +kernel
theorem g41_isinstance : (defScope t41).names.lookup ("isinstance" : Str) = some .globalImplicit := by decide +kernel
theorem g41_str : (defScope t41).names.lookup ("str" : Str) = some .globalImplicit := by decide +kernel
theorem g41_values_in : (defScope t41).names.lookup ("values_in" : Str) = some .globalImplicit := by decide +kernel
theorem body41 {P : Program} {w : World} {nm : Nm} {mg : Str → Option Value} {base : Heap} {k : Nat} {Φ : CT} {f : Addr} (G : GF P w nm mg base k Φ) (cdv : Value) (A : Around) (outer : List PySem.Env) (s : Shared) (H : Hp) (E : XK) (hr : Room (k + 1) (A.deeper (envOfC "agreeing" (defScope t41) s.heap.objs.size f cdv)))
    (tk : Takes (cxOf (L2.CX P w) P w nm.K mg base N41 "agreeing" (defScope t41) f cdv A outer s H E) (fun cls d _ H => E cls d H))
    (hp : PassesOwn (model P w) (A.deeper (envOfC "agreeing" (defScope t41) s.heap.objs.size f cdv)) (envOfC "agreeing" (defScope t41) s.heap.objs.size f cdv) (cxOf (L2.CX P w) P w nm.K mg base N41 "agreeing" (defScope t41) f cdv A outer s H E).xe) :
    PSs (cxOf (L2.CX P w) P w nm.K mg base N41 "agreeing" (defScope t41) f cdv A outer s H E) (defBody t41) (tSs ⟨nm, Φ, ioIx 0 fi41.io, fun cls d _ H => E cls d H⟩ ir41) :=
  have hr0 := hr.mono (Nat.le_succ k)
  (sb_cons (ss_if (st_cmp hr.units (nomark _) (s_opd (fun _ z => nomatch z) (s_callC rfl G.c_clash hr0 g41_clash tk rfl (s_ocons rfl (s_varO (pv 0 rfl (.inl v41_assumed) d_assumed e_assumed)) s_onil) d_clash rfl rfl)) (s_opd (fun _ z => nomatch z) s_non)) (sb_cons (ss_ret (fun _ z => nomatch z) s_non)
  sb_nil) sb_nil)
  (sb_cons (ss_set nd41 rfl (.inl v41_cells) (s_bin (s_opd (fun _ z => nomatch z) (s_lc (own := [("thing", 8)]) rfl nd41 (si_seq rfl (s_varO (pv 0 rfl (.inl v41_assumed) d_assumed e_assumed))) (show blkC N41 (defScope t41) _ _ = true by decide +kernel) (fun _ _ _ _ _ => (sg_name nd41 rfl (by first | exact .inl rfl | exact .inr rfl) (by first | exact .inl rfl | exact .inr rfl))) (fun _ _ _ _ _ => sts_nil) (fun _ _ _ _ _ => (s_ix rfl hr.units (fun _ _ => rfl) (s_varO (pv 8 rfl (by first | exact .inl rfl | exact .inr (.inl rfl) | exact .inr (.inr rfl)) d_thing e_thing)) (s_opd (fun _ z => nomatch z) s_int))) (fun _ => rfl) (by decide))) (s_opd (fun _ z => nomatch z) (s_lc (own := [("thing", 8)]) rfl nd41 (si_seq rfl (s_varO (pv 0 rfl (.inl v41_assumed) d_assumed e_assumed))) (show blkC N41 (defScope t41) _ _ = true by decide +kernel) (fun _ _ _ _ _ => (sg_name nd41 rfl (by first | exact .inl rfl | exact .inr rfl) (by first | exact .inl rfl | exact .inr rfl))) (fun _ _ _ _ _ => sts_nil) (fun _ _ _ _ _ => (s_ix rfl hr.units (fun _ _ => rfl) (s_varO (pv 8 rfl (by first | exact .inl rfl | exact .inr (.inl rfl) | exact .inr (.inr rfl)) d_thing e_thing)) (s_opd (fun _ z => nomatch z) s_int))) (fun _ => rfl) (by decide)))) rfl (.inl rfl))
  (sb_cons (ss_set nd41 rfl (.inl v41_taken) (s_callC rfl G.c_values_in hr0 g41_values_in tk rfl (s_ocons rfl (s_varO (pv 1 rfl (.inl v41_cells) d_cells e_cells)) s_onil) d_values_in rfl rfl) rfl (.inl rfl))
  (sb_cons (ss_set nd41 rfl (.inl v41_filling) s_dnew rfl (.inl rfl))
  (sb_cons (ss_for hp rfl (si_seq rfl (s_varO (pv 1 rfl (.inl v41_cells) d_cells e_cells))) (sg_name nd41 rfl (.inl v41_cell) (.inl rfl)) (sb_cons (ss_if (PW.pt (st_and (st_val (fun _ => rfl) (s_isi (t := .str) g41_isinstance G.n_isinstance rfl G.CK (fun _ z => nomatch z) (tyE_b rfl g41_str G.n_str) (s_varO (pv 4 rfl (.inl v41_cell) d_cell e_cell)) rfl rfl rfl)) (pw_and1 (st_cmp hr.units rfl (s_varO (pv 4 rfl (.inl v41_cell) d_cell e_cell)) (s_varO (pv 3 rfl (.inl v41_filling) d_filling e_filling)))))) (sb_cons (ss_set nd41 rfl (.inl v41_chains) (s_callC rfl G.c_chains_from hr0 g41_chains_from tk rfl (s_ocons rfl (s_varO (pv 0 rfl (.inl v41_assumed) d_assumed e_assumed)) (s_ocons rfl (s_varO (pv 4 rfl (.inl v41_cell) d_cell e_cell)) s_onil)) d_chains_from rfl rfl) rfl (.inl rfl))
  (sb_cons (ss_set nd41 rfl (.inl v41_value) (s_ix rfl hr.units (fun _ _ => rfl) (s_opd (fun _ z => nomatch z) (s_bin (s_opd (fun _ z => nomatch z) (s_callC rfl G.c_values_in hr0 g41_values_in tk rfl (s_ocons rfl (s_varO (pv 5 rfl (.inl v41_chains) d_chains e_chains)) s_onil) d_values_in rfl rfl)) (s_opd (fun _ z => nomatch z) (s_lst (s_vcons rfl (s_callF rfl G.c_fresh_beside hr0 g41_fresh_beside tk rfl (s_ocons rfl (s_varO (pv 2 rfl (.inl v41_taken) d_taken e_taken)) s_onil) d_fresh_beside rfl rfl) s_vnil))))) (s_opd (fun _ z => nomatch z) s_int)) rfl (.inl rfl))
  (sb_cons (ss_expr (s_mu mu_append PySem.F.plainAttrs_list PySem.F.slot_list_append PySem.F.type_list_append (pv 2 rfl (.inl v41_taken) d_taken e_taken) (s_vcons rfl (s_var (pv 6 rfl (.inl v41_value) d_value e_value)) s_vnil) rfl rfl rfl rfl rfl) rfl)
  (sb_cons (ss_forK hp rfl (pv 5 rfl (.inl v41_chains) d_chains e_chains) (sg_name nd41 rfl (.inl v41_other) (.inl rfl)) (sb_cons (ss_if (st_val (fun _ => rfl) (s_isi (t := .str) g41_isinstance G.n_isinstance rfl G.CK (fun _ z => nomatch z) (tyE_b rfl g41_str G.n_str) (s_varO (pv 7 rfl (.inl v41_other) d_other e_other)) rfl rfl rfl)) (sb_cons (ss_put (hu_of hr) (s_var (pv 6 rfl (.inl v41_value) d_value e_value)) (pv 3 rfl (.inl v41_filling) d_filling e_filling) (s_var (pv 7 rfl (.inl v41_other) d_other e_other)) (fun _ => rfl) rfl rfl rfl)
  sb_nil) sb_nil)
  sb_nil) (fun _ => rfl))
  sb_nil)))) sb_nil)
  sb_nil) (fun _ => rfl))
  (sb_cons (ss_retV (pv 3 rfl (.inl v41_filling) d_filling e_filling))
  sb_nil))))))
def ir300 : ISs := (.cons (.ret (.bi .sum (.cons (.sl11 (.var 0) (.var 1) (.bin .Add (.var 1) (.cst (.int 1)))) .nil)))
  .nil)
def fi300 : DefI := ⟨2, 2, [], ir300⟩
abbrev t300 : Stmt := (top 8)
abbrev N300 : List Str := ["_law_script", "_law_k"]
theorem sc300 : FnScope N300 ["_law_script", "_law_k"] (defScope t300) := ⟨rfl, rfl, rfl, by decide +kernel, rfl, by decide +kernel, by decide +kernel⟩
theorem v300__law_k : (defScope t300).names.lookup ("_law_k" : Str) = some .local := by decide +kernel
theorem v300__law_script : (defScope t300).names.lookup ("_law_script" : Str) = some .local := by decide +kernel
theorem g300_sum : (defScope t300).names.lookup ("sum" : Str) = some .globalImplicit := by decide +kernel
theorem body300 {P : Program} {w : World} {nm : Nm} {mg : Str → Option Value} {base : Heap} {k : Nat} {Φ : CT} {f : Addr} (G : GF P w nm mg base k Φ) (cdv : Value) (A : Around) (outer : List PySem.Env) (s : Shared) (H : Hp) (E : XK) (hr : Room (k + 1) (A.deeper (envOfC "_law_nth" (defScope t300) s.heap.objs.size f cdv)))
    (tk : Takes (cxOf (L2.CX P w) P w nm.K mg base N300 "_law_nth" (defScope t300) f cdv A outer s H E) (fun cls d _ H => E cls d H))
    (hp : PassesOwn (model P w) (A.deeper (envOfC "_law_nth" (defScope t300) s.heap.objs.size f cdv)) (envOfC "_law_nth" (defScope t300) s.heap.objs.size f cdv) (cxOf (L2.CX P w) P w nm.K mg base N300 "_law_nth" (defScope t300) f cdv A outer s H E).xe) :
    PSs (cxOf (L2.CX P w) P w nm.K mg base N300 "_law_nth" (defScope t300) f cdv A outer s H E) (defBody t300) (tSs ⟨nm, Φ, ioIx 0 fi300.io, fun cls d _ H => E cls d H⟩ ir300) :=
  have hr0 := hr.mono (Nat.le_succ k)
  (sb_cons (ss_ret (fun _ z => nomatch z) (s_bi .sum rfl rfl g300_sum G.n_sum (s_ocons rfl (s_opd (fun _ z => nomatch z) (s_sl11 rfl (s_varO (pv 0 rfl (.inl v300__law_script) d__law_script e__law_script)) (s_var (pv 1 rfl (.inl v300__law_k) d__law_k e__law_k)) (s_bin (s_varO (pv 1 rfl (.inl v300__law_k) d__law_k e__law_k)) (s_opd (fun _ z => nomatch z) s_int)))) s_onil) rfl rfl))
  sb_nil)
def ir301 : ISs := (.cons (.ret (.and (.isi (.var 0) [.int]) (.not (.isi (.var 0) [.bool]))))
  .nil)
def fi301 : DefI := ⟨1, 1, [], ir301⟩
abbrev t301 : Stmt := (top 9)
abbrev N301 : List Str := ["_law_found"]
theorem sc301 : FnScope N301 ["_law_found"] (defScope t301) := ⟨rfl, rfl, rfl, by decide +kernel, rfl, by decide +kernel, by decide +kernel⟩
theorem v301__law_found : (defScope t301).names.lookup ("_law_found" : Str) = some .local := by decide +kernel
theorem g301_bool : (defScope t301).names.lookup ("bool" : Str) = some .globalImplicit := by decide +kernel
theorem g301_int : (defScope t301).names.lookup ("int" : Str) = some .globalImplicit := by decide +kernel
theorem g301_isinstance : (defScope t301).names.lookup ("isinstance" : Str) = some .globalImplicit := by decide +kernel
theorem body301 {P : Program} {w : World} {nm : Nm} {mg : Str → Option Value} {base : Heap} {k : Nat} {Φ : CT} {f : Addr} (G : GF P w nm mg base k Φ) (cdv : Value) (A : Around) (outer : List PySem.Env) (s : Shared) (H : Hp) (E : XK) (hr : Room (k + 1) (A.deeper (envOfC "_law_whole" (defScope t301) s.heap.objs.size f cdv)))
    (tk : Takes (cxOf (L2.CX P w) P w nm.K mg base N301 "_law_whole" (defScope t301) f cdv A outer s H E) (fun cls d _ H => E cls d H))
    (hp : PassesOwn (model P w) (A.deeper (envOfC "_law_whole" (defScope t301) s.heap.objs.size f cdv)) (envOfC "_law_whole" (defScope t301) s.heap.objs.size f cdv) (cxOf (L2.CX P w) P w nm.K mg base N301 "_law_whole" (defScope t301) f cdv A outer s H E).xe) :
    PSs (cxOf (L2.CX P w) P w nm.K mg base N301 "_law_whole" (defScope t301) f cdv A outer s H E) (defBody t301) (tSs ⟨nm, Φ, ioIx 0 fi301.io, fun cls d _ H => E cls d H⟩ ir301) :=
  have hr0 := hr.mono (Nat.le_succ k)
  (sb_cons (ss_ret (fun _ z => nomatch z) (s_and (s_isi (t := .int) g301_isinstance G.n_isinstance rfl G.CK (fun _ z => nomatch z) (tyE_b rfl g301_int G.n_int) (s_varO (pv 0 rfl (.inl v301__law_found) d__law_found e__law_found)) rfl rfl rfl) (pe_one (s_not (s_isi (t := .bool) g301_isinstance G.n_isinstance rfl G.CK (fun _ z => nomatch z) (tyE_b rfl g301_bool G.n_bool) (s_varO (pv 0 rfl (.inl v301__law_found) d__law_found e__law_found)) rfl rfl rfl)))))
  sb_nil)
def ir302 : ISs := (.cons (.asg (.nm 2) (.cst (.str "mnopqrstuvwxyzabcdefghijkl")))
  (.cons (.asg (.nm 3) (.opn .join (.cons (.cst (.str "")) (.cons (.lc [5] (.nm 5) .range1 (.cons (.bin .Mod (.var 0) (.cst (.int 8))) .nil) .nil (.ix (.var 2) (.bin .Mod (.bin .FloorDiv (.var 0) (.bin .Add (.bin .Mult (.cst (.int 29)) (.var 5)) (.cst (.int 3)))) (.cst (.int 26))))) .nil))))
  (.cons (.ite (.cmp .Eq (.bin .Mod (.bin .FloorDiv (.var 0) (.cst (.int 8))) (.cst (.int 3))) (.cst (.int 0))) (.cons (.ret (.lc [5] (.nm 5) .range1 (.cons (.var 1) .nil) .nil (.bin .Add (.sl01 (.var 3) (.cst (.int 2))) (.sl01 (.cst (.str "hhhhhh")) (.bin .Add (.var 5) (.cst (.int 1)))))))
  .nil) .nil)
  (.cons (.asg (.nm 4) (.bin .Mod (.bin .FloorDiv (.var 0) (.cst (.int 24))) (.bin .Add (.bi .len (.cons (.var 3) .nil)) (.cst (.int 1)))))
  (.cons (.ret (.lc [5] (.nm 5) .range1 (.cons (.var 1) .nil) .nil (.sl01 (.bin .Add (.bin .Add (.sl01 (.var 3) (.var 4)) (.ix (.var 2) (.bin .Mod (.bin .Add (.bin .FloorDiv (.var 0) (.cst (.int 200))) (.bin .Mult (.cst (.int 5)) (.var 5))) (.cst (.int 26))))) (.sl10 (.var 3) (.var 4))) (.cst (.int 8)))))
  .nil)))))
def fi302 : DefI := ⟨2, 6, [], ir302⟩
abbrev t302 : Stmt := (top 10)
abbrev N302 : List Str := ["_law_cell", "_law_many", "_law_letters", "_law_stem", "_law_at", "_law_k"]
theorem nd302 : N302.Nodup := by decide +kernel
theorem sc302 : FnScope N302 ["_law_cell", "_law_many"] (defScope t302) := ⟨rfl, rfl, rfl, by decide +kernel, rfl, by decide +kernel, by decide +kernel⟩
theorem v302__law_at : (defScope t302).names.lookup ("_law_at" : Str) = some .cell := by decide +kernel
theorem v302__law_cell : (defScope t302).names.lookup ("_law_cell" : Str) = some .cell := by decide +kernel
theorem v302__law_letters : (defScope t302).names.lookup ("_law_letters" : Str) = some .cell := by decide +kernel
theorem v302__law_many : (defScope t302).names.lookup ("_law_many" : Str) = some .local := by decide +kernel
theorem v302__law_stem : (defScope t302).names.lookup ("_law_stem" : Str) = some .cell := by decide +kernel
theorem g302_len : (defScope t302).names.lookup ("len" : Str) = some .globalImplicit := by decide +kernel
theorem g302_range : (defScope t302).names.lookup ("range" : Str) = some .globalImplicit := by decide +kernel
theorem body302 {P : Program} {w : World} {nm : Nm} {mg : Str → Option Value} {base : Heap} {k : Nat} {Φ : CT} {f : Addr} (G : GF P w nm mg base k Φ) (cdv : Value) (A : Around) (outer : List PySem.Env) (s : Shared) (H : Hp) (E : XK) (hr : Room (k + 1) (A.deeper (envOfC "_law_gaps" (defScope t302) s.heap.objs.size f cdv)))
    (tk : Takes (cxOf (L2.CX P w) P w nm.K mg base N302 "_law_gaps" (defScope t302) f cdv A outer s H E) (fun cls d _ H => E cls d H))
    (hp : PassesOwn (model P w) (A.deeper (envOfC "_law_gaps" (defScope t302) s.heap.objs.size f cdv)) (envOfC "_law_gaps" (defScope t302) s.heap.objs.size f cdv) (cxOf (L2.CX P w) P w nm.K mg base N302 "_law_gaps" (defScope t302) f cdv A outer s H E).xe) :
    PSs (cxOf (L2.CX P w) P w nm.K mg base N302 "_law_gaps" (defScope t302) f cdv A outer s H E) (defBody t302) (tSs ⟨nm, Φ, ioIx 0 fi302.io, fun cls d _ H => E cls d H⟩ ir302) :=
  have hr0 := hr.mono (Nat.le_succ k)
  (sb_cons (ss_set nd302 rfl (.inr v302__law_letters) s_str rfl (.inl rfl))
  (sb_cons (ss_set nd302 rfl (.inr v302__law_stem) (s_join rfl (s_opd (fun _ z => nomatch z) (s_lc (own := [("_law_k", 5)]) rfl nd302 (si_range1 g302_range G.n_range (s_ocons rfl (s_opd (fun _ z => nomatch z) (s_bin (s_varO (pv 0 rfl (.inr (.inl v302__law_cell)) d__law_cell e__law_cell)) (s_opd (fun _ z => nomatch z) s_int))) s_onil) rfl) (show blkC N302 (defScope t302) _ _ = true by decide +kernel) (fun _ _ _ _ _ => (sg_name nd302 rfl (by first | exact .inl rfl | exact .inr rfl) (by first | exact .inl rfl | exact .inr rfl))) (fun _ _ _ _ _ => sts_nil) (fun _ _ _ _ _ => (s_ix rfl hr.units (fun _ _ => rfl) (s_varO (pv 2 rfl (by first | exact .inl rfl | exact .inr (.inl rfl) | exact .inr (.inr rfl)) d__law_letters e__law_letters)) (s_opd (fun _ z => nomatch z) (s_bin (s_opd (fun _ z => nomatch z) (s_bin (s_varO (pv 0 rfl (by first | exact .inl rfl | exact .inr (.inl rfl) | exact .inr (.inr rfl)) d__law_cell e__law_cell)) (s_opd (fun _ z => nomatch z) (s_bin (s_opd (fun _ z => nomatch z) (s_bin (s_opd (fun _ z => nomatch z) s_int) (s_varO (pv 5 rfl (by first | exact .inl rfl | exact .inr (.inl rfl) | exact .inr (.inr rfl)) d__law_k e__law_k)))) (s_opd (fun _ z => nomatch z) s_int))))) (s_opd (fun _ z => nomatch z) s_int))))) (fun _ => rfl) (by decide))) rfl rfl rfl) rfl (.inl rfl))
  (sb_cons (ss_if (st_cmp hr.units (nomark _) (s_opd (fun _ z => nomatch z) (s_bin (s_opd (fun _ z => nomatch z) (s_bin (s_varO (pv 0 rfl (.inr (.inl v302__law_cell)) d__law_cell e__law_cell)) (s_opd (fun _ z => nomatch z) s_int))) (s_opd (fun _ z => nomatch z) s_int))) (s_opd (fun _ z => nomatch z) s_int)) (sb_cons (ss_ret (fun _ z => nomatch z) (s_lc (own := [("_law_k", 5)]) rfl nd302 (si_range1 g302_range G.n_range (s_ocons rfl (s_varO (pv 1 rfl (.inl v302__law_many) d__law_many e__law_many)) s_onil) rfl) (show blkC N302 (defScope t302) _ _ = true by decide +kernel) (fun _ _ _ _ _ => (sg_name nd302 rfl (by first | exact .inl rfl | exact .inr rfl) (by first | exact .inl rfl | exact .inr rfl))) (fun _ _ _ _ _ => sts_nil) (fun _ _ _ _ _ => (s_bin (s_opd (fun _ z => nomatch z) (s_sl01 rfl (s_varO (pv 3 rfl (by first | exact .inl rfl | exact .inr (.inl rfl) | exact .inr (.inr rfl)) d__law_stem e__law_stem)) s_int)) (s_opd (fun _ z => nomatch z) (s_sl01 rfl (s_opd (fun _ z => nomatch z) s_str) (s_bin (s_varO (pv 5 rfl (by first | exact .inl rfl | exact .inr (.inl rfl) | exact .inr (.inr rfl)) d__law_k e__law_k)) (s_opd (fun _ z => nomatch z) s_int)))))) (fun _ => rfl) (by decide)))
  sb_nil) sb_nil)
  (sb_cons (ss_set nd302 rfl (.inr v302__law_at) (s_bin (s_opd (fun _ z => nomatch z) (s_bin (s_varO (pv 0 rfl (.inr (.inl v302__law_cell)) d__law_cell e__law_cell)) (s_opd (fun _ z => nomatch z) s_int))) (s_opd (fun _ z => nomatch z) (s_bin (s_opd (fun _ z => nomatch z) (s_bi .len rfl rfl g302_len G.n_len (s_ocons rfl (s_varO (pv 3 rfl (.inr (.inl v302__law_stem)) d__law_stem e__law_stem)) s_onil) rfl rfl)) (s_opd (fun _ z => nomatch z) s_int)))) rfl (.inl rfl))
  (sb_cons (ss_ret (fun _ z => nomatch z) (s_lc (own := [("_law_k", 5)]) rfl nd302 (si_range1 g302_range G.n_range (s_ocons rfl (s_varO (pv 1 rfl (.inl v302__law_many) d__law_many e__law_many)) s_onil) rfl) (show blkC N302 (defScope t302) _ _ = true by decide +kernel) (fun _ _ _ _ _ => (sg_name nd302 rfl (by first | exact .inl rfl | exact .inr rfl) (by first | exact .inl rfl | exact .inr rfl))) (fun _ _ _ _ _ => sts_nil) (fun _ _ _ _ _ => (s_sl01 rfl (s_opd (fun _ z => nomatch z) (s_bin (s_opd (fun _ z => nomatch z) (s_bin (s_opd (fun _ z => nomatch z) (s_sl01 rfl (s_varO (pv 3 rfl (by first | exact .inl rfl | exact .inr (.inl rfl) | exact .inr (.inr rfl)) d__law_stem e__law_stem)) (s_var (pv 4 rfl (by first | exact .inl rfl | exact .inr (.inl rfl) | exact .inr (.inr rfl)) d__law_at e__law_at)))) (s_opd (fun _ z => nomatch z) (s_ix rfl hr.units (fun _ _ => rfl) (s_varO (pv 2 rfl (by first | exact .inl rfl | exact .inr (.inl rfl) | exact .inr (.inr rfl)) d__law_letters e__law_letters)) (s_opd (fun _ z => nomatch z) (s_bin (s_opd (fun _ z => nomatch z) (s_bin (s_opd (fun _ z => nomatch z) (s_bin (s_varO (pv 0 rfl (by first | exact .inl rfl | exact .inr (.inl rfl) | exact .inr (.inr rfl)) d__law_cell e__law_cell)) (s_opd (fun _ z => nomatch z) s_int))) (s_opd (fun _ z => nomatch z) (s_bin (s_opd (fun _ z => nomatch z) s_int) (s_varO (pv 5 rfl (by first | exact .inl rfl | exact .inr (.inl rfl) | exact .inr (.inr rfl)) d__law_k e__law_k)))))) (s_opd (fun _ z => nomatch z) s_int))))))) (s_opd (fun _ z => nomatch z) (s_sl10 rfl (s_varO (pv 3 rfl (by first | exact .inl rfl | exact .inr (.inl rfl) | exact .inr (.inr rfl)) d__law_stem e__law_stem)) (s_var (pv 4 rfl (by first | exact .inl rfl | exact .inr (.inl rfl) | exact .inr (.inr rfl)) d__law_at e__law_at)))))) s_int)) (fun _ => rfl) (by decide)))
  sb_nil)))))
def ir303 : ISs := (.cons (.ite (.cmp .Eq (.bin .Mod (.var 0) (.cst (.int 2))) (.cst (.int 1))) (.cons (.ret (.bin .Sub (.bin .Mod (.bin .FloorDiv (.var 0) (.cst (.int 2))) (.cst (.int 41))) (.cst (.int 20))))
  .nil) .nil)
  (.cons (.ret (.bin .Add (.bin .Sub (.bin .Mod (.bin .FloorDiv (.var 0) (.cst (.int 2))) (.bin .Sub (.bin .Mult (.cst (.int 2)) (.bin .Pow (.cst (.int 10)) (.cst (.int 60)))) (.cst (.int 1)))) (.bin .Pow (.cst (.int 10)) (.cst (.int 60)))) (.cst (.int 1))))
  .nil))
def fi303 : DefI := ⟨1, 1, [], ir303⟩
abbrev t303 : Stmt := (top 11)
abbrev N303 : List Str := ["_law_cell"]
theorem sc303 : FnScope N303 ["_law_cell"] (defScope t303) := ⟨rfl, rfl, rfl, by decide +kernel, rfl, by decide +kernel, by decide +kernel⟩
theorem v303__law_cell : (defScope t303).names.lookup ("_law_cell" : Str) = some .local := by decide +kernel
theorem body303 {P : Program} {w : World} {nm : Nm} {mg : Str → Option Value} {base : Heap} {k : Nat} {Φ : CT} {f : Addr} (G : GF P w nm mg base k Φ) (cdv : Value) (A : Around) (outer : List PySem.Env) (s : Shared) (H : Hp) (E : XK) (hr : Room (k + 1) (A.deeper (envOfC "_law_number" (defScope t303) s.heap.objs.size f cdv)))
    (tk : Takes (cxOf (L2.CX P w) P w nm.K mg base N303 "_law_number" (defScope t303) f cdv A outer s H E) (fun cls d _ H => E cls d H))
    (hp : PassesOwn (model P w) (A.deeper (envOfC "_law_number" (defScope t303) s.heap.objs.size f cdv)) (envOfC "_law_number" (defScope t303) s.heap.objs.size f cdv) (cxOf (L2.CX P w) P w nm.K mg base N303 "_law_number" (defScope t303) f cdv A outer s H E).xe) :
    PSs (cxOf (L2.CX P w) P w nm.K mg base N303 "_law_number" (defScope t303) f cdv A outer s H E) (defBody t303) (tSs ⟨nm, Φ, ioIx 0 fi303.io, fun cls d _ H => E cls d H⟩ ir303) :=
  have hr0 := hr.mono (Nat.le_succ k)
  (sb_cons (ss_if (st_cmp hr.units (nomark _) (s_opd (fun _ z => nomatch z) (s_bin (s_varO (pv 0 rfl (.inl v303__law_cell) d__law_cell e__law_cell)) (s_opd (fun _ z => nomatch z) s_int))) (s_opd (fun _ z => nomatch z) s_int)) (sb_cons (ss_ret (fun _ z => nomatch z) (s_bin (s_opd (fun _ z => nomatch z) (s_bin (s_opd (fun _ z => nomatch z) (s_bin (s_varO (pv 0 rfl (.inl v303__law_cell) d__law_cell e__law_cell)) (s_opd (fun _ z => nomatch z) s_int))) (s_opd (fun _ z => nomatch z) s_int))) (s_opd (fun _ z => nomatch z) s_int)))
  sb_nil) sb_nil)
  (sb_cons (ss_ret (fun _ z => nomatch z) (s_bin (s_opd (fun _ z => nomatch z) (s_bin (s_opd (fun _ z => nomatch z) (s_bin (s_opd (fun _ z => nomatch z) (s_bin (s_varO (pv 0 rfl (.inl v303__law_cell) d__law_cell e__law_cell)) (s_opd (fun _ z => nomatch z) s_int))) (s_opd (fun _ z => nomatch z) (s_bin (s_opd (fun _ z => nomatch z) (s_bin (s_opd (fun _ z => nomatch z) s_int) (s_opd (fun _ z => nomatch z) (s_bin (s_opd (fun _ z => nomatch z) s_int) (s_opd (fun _ z => nomatch z) s_int))))) (s_opd (fun _ z => nomatch z) s_int))))) (s_opd (fun _ z => nomatch z) (s_bin (s_opd (fun _ z => nomatch z) s_int) (s_opd (fun _ z => nomatch z) s_int))))) (s_opd (fun _ z => nomatch z) s_int)))
  sb_nil))
def ir304 : ISs := (.cons (.asg (.nm 1) (.call 302 (.cons (.call 300 (.cons (.var 0) (.cons (.cst (.int 1)) .nil))) (.cons (.bin .Add (.cst (.int 1)) (.bin .Mod (.call 300 (.cons (.var 0) (.cons (.cst (.int 0)) .nil))) (.cst (.int 5)))) .nil))))
  (.cons (.asg (.nm 2) (.lst .nil))
  (.cons (.loop (.nm 3) .range1 (.cons (.bin .Mod (.bin .FloorDiv (.call 300 (.cons (.var 0) (.cons (.cst (.int 0)) .nil))) (.cst (.int 5))) (.cst (.int 5))) .nil) (.cons (.asg (.nm 4) (.call 303 (.cons (.call 300 (.cons (.var 0) (.cons (.bin .Add (.cst (.int 2)) (.var 3)) .nil))) .nil)))
  (.cons (.ite (.cmp .NotIn (.var 4) (.var 2)) (.cons (.expr (.mu 2 .append (.cons (.var 4) .nil)))
  .nil) .nil)
  .nil)))
  (.cons (.ret (.tup (.cons (.opn .sset (.cons (.var 1) .nil)) (.cons (.var 2) .nil))))
  .nil))))
def fi304 : DefI := ⟨1, 5, [], ir304⟩
abbrev t304 : Stmt := (top 12)
abbrev N304 : List Str := ["_law_script", "_law_gaps_here", "_law_values", "_law_k", "_law_number_here"]
theorem nd304 : N304.Nodup := by decide +kernel
theorem sc304 : FnScope N304 ["_law_script"] (defScope t304) := ⟨rfl, rfl, rfl, by decide +kernel, rfl, by decide +kernel, by decide +kernel⟩
theorem v304__law_gaps_here : (defScope t304).names.lookup ("_law_gaps_here" : Str) = some .local := by decide +kernel
theorem v304__law_k : (defScope t304).names.lookup ("_law_k" : Str) = some .local := by decide +kernel
theorem v304__law_number_here : (defScope t304).names.lookup ("_law_number_here" : Str) = some .local := by decide +kernel
theorem v304__law_script : (defScope t304).names.lookup ("_law_script" : Str) = some .local := by decide +kernel
theorem v304__law_values : (defScope t304).names.lookup ("_law_values" : Str) = some .local := by decide +kernel
theorem g304__law_gaps : (defScope t304).names.lookup ("_law_gaps" : Str) = some .globalImplicit := by decide +kernel
theorem g304__law_nth : (defScope t304).names.lookup ("_law_nth" : Str) = some .globalImplicit := by decide +kernel
theorem g304__law_number : (defScope t304).names.lookup ("_law_number" : Str) = some .globalImplicit := by decide +kernel
theorem g304_range : (defScope t304).names.lookup ("range" : Str) = some .globalImplicit := by decide +kernel
theorem g304_set : (defScope t304).names.lookup ("set" : Str) = some .globalImplicit := by decide +kernel
theorem g304_sorted : (defScope t304).names.lookup ("sorted" : Str) = some .globalImplicit := by decide +kernel
theorem body304 {P : Program} {w : World} {nm : Nm} {mg : Str → Option Value} {base : Heap} {k : Nat} {Φ : CT} {f : Addr} (G : GF P w nm mg base k Φ) (cdv : Value) (A : Around) (outer : List PySem.Env) (s : Shared) (H : Hp) (E : XK) (hr : Room (k + 1) (A.deeper (envOfC "_law_pool" (defScope t304) s.heap.objs.size f cdv)))
    (tk : Takes (cxOf (L2.CX P w) P w nm.K mg base N304 "_law_pool" (defScope t304) f cdv A outer s H E) (fun cls d _ H => E cls d H))
    (hp : PassesOwn (model P w) (A.deeper (envOfC "_law_pool" (defScope t304) s.heap.objs.size f cdv)) (envOfC "_law_pool" (defScope t304) s.heap.objs.size f cdv) (cxOf (L2.CX P w) P w nm.K mg base N304 "_law_pool" (defScope t304) f cdv A outer s H E).xe) :
    PSs (cxOf (L2.CX P w) P w nm.K mg base N304 "_law_pool" (defScope t304) f cdv A outer s H E) (defBody t304) (tSs ⟨nm, Φ, ioIx 0 fi304.io, fun cls d _ H => E cls d H⟩ ir304) :=
  have hr0 := hr.mono (Nat.le_succ k)
  (sb_cons (ss_set nd304 rfl (.inl v304__law_gaps_here) (s_callC rfl G.c__law_gaps hr0 g304__law_gaps tk rfl (s_ocons rfl (s_opd (fun _ z => nomatch z) (s_callC rfl G.c__law_nth hr0 g304__law_nth tk rfl (s_ocons rfl (s_varO (pv 0 rfl (.inl v304__law_script) d__law_script e__law_script)) (s_ocons rfl (s_opd (fun _ z => nomatch z) s_int) s_onil)) d__law_nth rfl rfl)) (s_ocons rfl (s_opd (fun _ z => nomatch z) (s_bin (s_opd (fun _ z => nomatch z) s_int) (s_opd (fun _ z => nomatch z) (s_bin (s_opd (fun _ z => nomatch z) (s_callC rfl G.c__law_nth hr0 g304__law_nth tk rfl (s_ocons rfl (s_varO (pv 0 rfl (.inl v304__law_script) d__law_script e__law_script)) (s_ocons rfl (s_opd (fun _ z => nomatch z) s_int) s_onil)) d__law_nth rfl rfl)) (s_opd (fun _ z => nomatch z) s_int))))) s_onil)) d__law_gaps rfl rfl) rfl (.inl rfl))
  (sb_cons (ss_set nd304 rfl (.inl v304__law_values) (s_lst s_vnil) rfl (.inl rfl))
  (sb_cons (ss_for hp rfl (si_range1 g304_range G.n_range (s_ocons rfl (s_opd (fun _ z => nomatch z) (s_bin (s_opd (fun _ z => nomatch z) (s_bin (s_opd (fun _ z => nomatch z) (s_callC rfl G.c__law_nth hr0 g304__law_nth tk rfl (s_ocons rfl (s_varO (pv 0 rfl (.inl v304__law_script) d__law_script e__law_script)) (s_ocons rfl (s_opd (fun _ z => nomatch z) s_int) s_onil)) d__law_nth rfl rfl)) (s_opd (fun _ z => nomatch z) s_int))) (s_opd (fun _ z => nomatch z) s_int))) s_onil) rfl) (sg_name nd304 rfl (.inl v304__law_k) (.inl rfl)) (sb_cons (ss_set nd304 rfl (.inl v304__law_number_here) (s_callC rfl G.c__law_number hr0 g304__law_number tk rfl (s_ocons rfl (s_opd (fun _ z => nomatch z) (s_callC rfl G.c__law_nth hr0 g304__law_nth tk rfl (s_ocons rfl (s_varO (pv 0 rfl (.inl v304__law_script) d__law_script e__law_script)) (s_ocons rfl (s_opd (fun _ z => nomatch z) (s_bin (s_opd (fun _ z => nomatch z) s_int) (s_varO (pv 3 rfl (.inl v304__law_k) d__law_k e__law_k)))) s_onil)) d__law_nth rfl rfl)) s_onil) d__law_number rfl rfl) rfl (.inl rfl))
  (sb_cons (ss_if (st_cmp hr.units rfl (s_varO (pv 4 rfl (.inl v304__law_number_here) d__law_number_here e__law_number_here)) (s_varO (pv 2 rfl (.inl v304__law_values) d__law_values e__law_values))) (sb_cons (ss_expr (s_mu mu_append PySem.F.plainAttrs_list PySem.F.slot_list_append PySem.F.type_list_append (pv 2 rfl (.inl v304__law_values) d__law_values e__law_values) (s_vcons rfl (s_var (pv 4 rfl (.inl v304__law_number_here) d__law_number_here e__law_number_here)) s_vnil) rfl rfl rfl rfl rfl) rfl)
  sb_nil) sb_nil)
  sb_nil)) (fun _ => rfl))
  (sb_cons (ss_ret (fun _ z => nomatch z) (s_tup (s_vcons rfl (s_sset rfl hr.units rfl g304_sorted G.n_sorted g304_set G.n_set (s_varO (pv 1 rfl (.inl v304__law_gaps_here) d__law_gaps_here e__law_gaps_here)) rfl rfl) (s_vcons rfl (s_var (pv 2 rfl (.inl v304__law_values) d__law_values e__law_values)) s_vnil))))
  sb_nil))))
def ir305 : ISs := (.cons (.asg (.nm 2) (.lst .nil))
  (.cons (.loop (.nm 3) .seq (.cons (.var 0) .nil) (.cons (.asg (.nm 4) (.ix (.var 1) (.bin .Mod (.bin .FloorDiv (.var 3) (.cst (.int 5))) (.bi .len (.cons (.var 1) .nil)))))
  (.cons (.asg (.nm 5) (.ix (.var 1) (.bin .Mod (.bin .FloorDiv (.bin .FloorDiv (.var 3) (.cst (.int 5))) (.bi .len (.cons (.var 1) .nil))) (.bi .len (.cons (.var 1) .nil)))))
  (.cons (.expr (.mu 2 .append (.cons (.tup (.cons (.var 4) (.cons (.var 5) (.cons (.cmp .Lt (.bin .Mod (.var 3) (.cst (.int 5))) (.cst (.int 3))) .nil)))) .nil)))
  .nil))))
  (.cons (.ret (.var 2))
  .nil)))
def fi305 : DefI := ⟨2, 6, [], ir305⟩
abbrev t305 : Stmt := (top 13)
abbrev N305 : List Str := ["_law_cells", "_law_pool_here", "_law_found", "_law_cell", "_law_one", "_law_other"]
theorem nd305 : N305.Nodup := by decide +kernel
theorem sc305 : FnScope N305 ["_law_cells", "_law_pool_here"] (defScope t305) := ⟨rfl, rfl, rfl, by decide +kernel, rfl, by decide +kernel, by decide +kernel⟩
theorem v305__law_cell : (defScope t305).names.lookup ("_law_cell" : Str) = some .local := by decide +kernel
theorem v305__law_cells : (defScope t305).names.lookup ("_law_cells" : Str) = some .local := by decide +kernel
theorem v305__law_found : (defScope t305).names.lookup ("_law_found" : Str) = some .local := by decide +kernel
theorem v305__law_one : (defScope t305).names.lookup ("_law_one" : Str) = some .local := by decide +kernel
theorem v305__law_other : (defScope t305).names.lookup ("_law_other" : Str) = some .local := by decide +kernel
theorem v305__law_pool_here : (defScope t305).names.lookup ("_law_pool_here" : Str) = some .local := by decide +kernel
theorem g305_len : (defScope t305).names.lookup ("len" : Str) = some .globalImplicit := by decide +kernel
theorem body305 {P : Program} {w : World} {nm : Nm} {mg : Str → Option Value} {base : Heap} {k : Nat} {Φ : CT} {f : Addr} (G : GF P w nm mg base k Φ) (cdv : Value) (A : Around) (outer : List PySem.Env) (s : Shared) (H : Hp) (E : XK) (hr : Room (k + 1) (A.deeper (envOfC "_law_things" (defScope t305) s.heap.objs.size f cdv)))
    (tk : Takes (cxOf (L2.CX P w) P w nm.K mg base N305 "_law_things" (defScope t305) f cdv A outer s H E) (fun cls d _ H => E cls d H))
    (hp : PassesOwn (model P w) (A.deeper (envOfC "_law_things" (defScope t305) s.heap.objs.size f cdv)) (envOfC "_law_things" (defScope t305) s.heap.objs.size f cdv) (cxOf (L2.CX P w) P w nm.K mg base N305 "_law_things" (defScope t305) f cdv A outer s H E).xe) :
    PSs (cxOf (L2.CX P w) P w nm.K mg base N305 "_law_things" (defScope t305) f cdv A outer s H E) (defBody t305) (tSs ⟨nm, Φ, ioIx 0 fi305.io, fun cls d _ H => E cls d H⟩ ir305) :=
  have hr0 := hr.mono (Nat.le_succ k)
  (sb_cons (ss_set nd305 rfl (.inl v305__law_found) (s_lst s_vnil) rfl (.inl rfl))
  (sb_cons (ss_for hp rfl (si_seq rfl (s_varO (pv 0 rfl (.inl v305__law_cells) d__law_cells e__law_cells))) (sg_name nd305 rfl (.inl v305__law_cell) (.inl rfl)) (sb_cons (ss_set nd305 rfl (.inl v305__law_one) (s_ix rfl hr.units (fun _ _ => rfl) (s_varO (pv 1 rfl (.inl v305__law_pool_here) d__law_pool_here e__law_pool_here)) (s_opd (fun _ z => nomatch z) (s_bin (s_opd (fun _ z => nomatch z) (s_bin (s_varO (pv 3 rfl (.inl v305__law_cell) d__law_cell e__law_cell)) (s_opd (fun _ z => nomatch z) s_int))) (s_opd (fun _ z => nomatch z) (s_bi .len rfl rfl g305_len G.n_len (s_ocons rfl (s_varO (pv 1 rfl (.inl v305__law_pool_here) d__law_pool_here e__law_pool_here)) s_onil) rfl rfl))))) rfl (.inl rfl))
  (sb_cons (ss_set nd305 rfl (.inl v305__law_other) (s_ix rfl hr.units (fun _ _ => rfl) (s_varO (pv 1 rfl (.inl v305__law_pool_here) d__law_pool_here e__law_pool_here)) (s_opd (fun _ z => nomatch z) (s_bin (s_opd (fun _ z => nomatch z) (s_bin (s_opd (fun _ z => nomatch z) (s_bin (s_varO (pv 3 rfl (.inl v305__law_cell) d__law_cell e__law_cell)) (s_opd (fun _ z => nomatch z) s_int))) (s_opd (fun _ z => nomatch z) (s_bi .len rfl rfl g305_len G.n_len (s_ocons rfl (s_varO (pv 1 rfl (.inl v305__law_pool_here) d__law_pool_here e__law_pool_here)) s_onil) rfl rfl)))) (s_opd (fun _ z => nomatch z) (s_bi .len rfl rfl g305_len G.n_len (s_ocons rfl (s_varO (pv 1 rfl (.inl v305__law_pool_here) d__law_pool_here e__law_pool_here)) s_onil) rfl rfl))))) rfl (.inl rfl))
  (sb_cons (ss_expr (s_mu mu_append PySem.F.plainAttrs_list PySem.F.slot_list_append PySem.F.type_list_append (pv 2 rfl (.inl v305__law_found) d__law_found e__law_found) (s_vcons rfl (s_tup (s_vcons rfl (s_var (pv 4 rfl (.inl v305__law_one) d__law_one e__law_one)) (s_vcons rfl (s_var (pv 5 rfl (.inl v305__law_other) d__law_other e__law_other)) (s_vcons rfl (s_cmp hr.units (nomark _) (s_opd (fun _ z => nomatch z) (s_bin (s_varO (pv 3 rfl (.inl v305__law_cell) d__law_cell e__law_cell)) (s_opd (fun _ z => nomatch z) s_int))) (s_opd (fun _ z => nomatch z) s_int)) s_vnil)))) s_vnil) rfl rfl rfl rfl rfl) rfl)
  sb_nil))) (fun _ => rfl))
  (sb_cons (ss_retV (pv 2 rfl (.inl v305__law_found) d__law_found e__law_found))
  sb_nil)))
def ir306 : ISs := (.cons (.asg (.nm 2) (.dct .nil))
  (.cons (.loop (.tp (.cons (.nm 3) (.cons (.nm 4) .nil))) .enum (.cons (.var 0) .nil) (.cons (.put 2 (.var 4) (.var 3))
  .nil))
  (.cons (.loop (.tp (.cons (.nm 5) (.cons (.nm 6) (.cons (.nm 7) .nil)))) .seq (.cons (.var 1) .nil) (.cons (.ite (.and (.var 7) (.cmp .NotEq (.ix (.var 2) (.var 5)) (.ix (.var 2) (.var 6)))) (.cons (.asg (.nm 8) (.ix (.var 2) (.var 5)))
  (.cons (.loop (.nm 4) .seq (.cons (.var 0) .nil) (.cons (.ite (.cmp .Eq (.ix (.var 2) (.var 4)) (.var 8)) (.cons (.put 2 (.var 4) (.ix (.var 2) (.var 6)))
  .nil) .nil)
  .nil))
  .nil)) .nil)
  .nil))
  (.cons (.ret (.var 2))
  .nil))))
def fi306 : DefI := ⟨2, 9, [], ir306⟩
abbrev t306 : Stmt := (top 14)
abbrev N306 : List Str := ["_law_pool_here", "_law_things_here", "_law_label", "_law_k", "_law_cell", "_law_one", "_law_other", "_law_said", "_law_old"]
theorem nd306 : N306.Nodup := by decide +kernel
theorem sc306 : FnScope N306 ["_law_pool_here", "_law_things_here"] (defScope t306) := ⟨rfl, rfl, rfl, by decide +kernel, rfl, by decide +kernel, by decide +kernel⟩
theorem v306__law_cell : (defScope t306).names.lookup ("_law_cell" : Str) = some .local := by decide +kernel
theorem v306__law_k : (defScope t306).names.lookup ("_law_k" : Str) = some .local := by decide +kernel
theorem v306__law_label : (defScope t306).names.lookup ("_law_label" : Str) = some .local := by decide +kernel
theorem v306__law_old : (defScope t306).names.lookup ("_law_old" : Str) = some .local := by decide +kernel
theorem v306__law_one : (defScope t306).names.lookup ("_law_one" : Str) = some .local := by decide +kernel
theorem v306__law_other : (defScope t306).names.lookup ("_law_other" : Str) = some .local := by decide +kernel
theorem v306__law_pool_here : (defScope t306).names.lookup ("_law_pool_here" : Str) = some .local := by decide +kernel
theorem v306__law_said : (defScope t306).names.lookup ("_law_said" : Str) = some .local := by decide +kernel
theorem v306__law_things_here : (defScope t306).names.lookup ("_law_things_here" : Str) = some .local := by decide +kernel
theorem g306_enumerate : (defScope t306).names.lookup ("enumerate" : Str) = some .globalImplicit := by decide +kernel
theorem body306 {P : Program} {w : World} {nm : Nm} {mg : Str → Option Value} {base : Heap} {k : Nat} {Φ : CT} {f : Addr} (G : GF P w nm mg base k Φ) (cdv : Value) (A : Around) (outer : List PySem.Env) (s : Shared) (H : Hp) (E : XK) (hr : Room (k + 1) (A.deeper (envOfC "_law_labels" (defScope t306) s.heap.objs.size f cdv)))
    (tk : Takes (cxOf (L2.CX P w) P w nm.K mg base N306 "_law_labels" (defScope t306) f cdv A outer s H E) (fun cls d _ H => E cls d H))
    (hp : PassesOwn (model P w) (A.deeper (envOfC "_law_labels" (defScope t306) s.heap.objs.size f cdv)) (envOfC "_law_labels" (defScope t306) s.heap.objs.size f cdv) (cxOf (L2.CX P w) P w nm.K mg base N306 "_law_labels" (defScope t306) f cdv A outer s H E).xe) :
    PSs (cxOf (L2.CX P w) P w nm.K mg base N306 "_law_labels" (defScope t306) f cdv A outer s H E) (defBody t306) (tSs ⟨nm, Φ, ioIx 0 fi306.io, fun cls d _ H => E cls d H⟩ ir306) :=
  have hr0 := hr.mono (Nat.le_succ k)
  (sb_cons (ss_set nd306 rfl (.inl v306__law_label) s_dnew rfl (.inl rfl))
  (sb_cons (ss_for hp rfl (si_enum g306_enumerate G.n_enumerate (s_ocons rfl (s_varO (pv 0 rfl (.inl v306__law_pool_here) d__law_pool_here e__law_pool_here)) s_onil) rfl) (sg_tup rfl (sgs_cons (sg_name nd306 rfl (.inl v306__law_k) (.inl rfl)) (sgs_cons (sg_name nd306 rfl (.inl v306__law_cell) (.inl rfl)) sgs_nil rfl) rfl) rfl rfl (lenT2)) (sb_cons (ss_put (hu_of hr) (s_var (pv 3 rfl (.inl v306__law_k) d__law_k e__law_k)) (pv 2 rfl (.inl v306__law_label) d__law_label e__law_label) (s_var (pv 4 rfl (.inl v306__law_cell) d__law_cell e__law_cell)) (fun _ => rfl) rfl rfl rfl)
  sb_nil) (fun _ => rfl))
  (sb_cons (ss_for hp rfl (si_seq rfl (s_varO (pv 1 rfl (.inl v306__law_things_here) d__law_things_here e__law_things_here))) (sg_tup rfl (sgs_cons (sg_name nd306 rfl (.inl v306__law_one) (.inl rfl)) (sgs_cons (sg_name nd306 rfl (.inl v306__law_other) (.inl rfl)) (sgs_cons (sg_name nd306 rfl (.inl v306__law_said) (.inl rfl)) sgs_nil rfl) rfl) rfl) rfl rfl (lenT3)) (sb_cons (ss_if (PW.pt (st_and (st_val (fun _ => rfl) (s_var (pv 7 rfl (.inl v306__law_said) d__law_said e__law_said))) (pw_and1 (st_cmp hr.units (nomark _) (s_opd (fun _ z => nomatch z) (s_ix rfl hr.units (fun _ _ => rfl) (s_varO (pv 2 rfl (.inl v306__law_label) d__law_label e__law_label)) (s_varO (pv 5 rfl (.inl v306__law_one) d__law_one e__law_one)))) (s_opd (fun _ z => nomatch z) (s_ix rfl hr.units (fun _ _ => rfl) (s_varO (pv 2 rfl (.inl v306__law_label) d__law_label e__law_label)) (s_varO (pv 6 rfl (.inl v306__law_other) d__law_other e__law_other)))))))) (sb_cons (ss_set nd306 rfl (.inl v306__law_old) (s_ix rfl hr.units (fun _ _ => rfl) (s_varO (pv 2 rfl (.inl v306__law_label) d__law_label e__law_label)) (s_varO (pv 5 rfl (.inl v306__law_one) d__law_one e__law_one))) rfl (.inl rfl))
  (sb_cons (ss_for hp rfl (si_seq rfl (s_varO (pv 0 rfl (.inl v306__law_pool_here) d__law_pool_here e__law_pool_here))) (sg_name nd306 rfl (.inl v306__law_cell) (.inl rfl)) (sb_cons (ss_if (st_cmp hr.units (nomark _) (s_opd (fun _ z => nomatch z) (s_ix rfl hr.units (fun _ _ => rfl) (s_varO (pv 2 rfl (.inl v306__law_label) d__law_label e__law_label)) (s_varO (pv 4 rfl (.inl v306__law_cell) d__law_cell e__law_cell)))) (s_varO (pv 8 rfl (.inl v306__law_old) d__law_old e__law_old))) (sb_cons (ss_put (hu_of hr) (s_ix rfl hr.units (fun _ _ => rfl) (s_varO (pv 2 rfl (.inl v306__law_label) d__law_label e__law_label)) (s_varO (pv 6 rfl (.inl v306__law_other) d__law_other e__law_other))) (pv 2 rfl (.inl v306__law_label) d__law_label e__law_label) (s_var (pv 4 rfl (.inl v306__law_cell) d__law_cell e__law_cell)) (fun _ => rfl) rfl rfl rfl)
  sb_nil) sb_nil)
  sb_nil) (fun _ => rfl))
  sb_nil)) sb_nil)
  sb_nil) (fun _ => rfl))
  (sb_cons (ss_retV (pv 2 rfl (.inl v306__law_label) d__law_label e__law_label))
  sb_nil))))
def ir307 : ISs := (.cons (.asg (.nm 2) (.call 306 (.cons (.var 0) (.cons (.var 1) .nil))))
  (.cons (.asg (.nm 3) (.lc [4] (.nm 4) .seq (.cons (.var 0) .nil) (.cons (.not (.isi (.var 4) [.str])) .nil) (.ix (.var 2) (.var 4))))
  (.cons (.ite (.cmp .Lt (.opn .lset (.cons (.var 3) .nil)) (.bi .len (.cons (.var 3) .nil))) (.cons (.ret (.cst (.bl true)))
  .nil) .nil)
  (.cons (.ret (.bi .any (.cons (.lc [5, 6, 7] (.tp (.cons (.nm 5) (.cons (.nm 6) (.cons (.nm 7) .nil)))) .seq (.cons (.var 1) .nil) .nil (.and (.not (.var 7)) (.cmp .Eq (.ix (.var 2) (.var 5)) (.ix (.var 2) (.var 6))))) .nil)))
  .nil))))
def fi307 : DefI := ⟨2, 8, [], ir307⟩
abbrev t307 : Stmt := (top 15)
abbrev N307 : List Str := ["_law_pool_here", "_law_things_here", "_law_label", "_law_numbers", "_law_cell", "_law_one", "_law_other", "_law_said"]
theorem nd307 : N307.Nodup := by decide +kernel
theorem sc307 : FnScope N307 ["_law_pool_here", "_law_things_here"] (defScope t307) := ⟨rfl, rfl, rfl, by decide +kernel, rfl, by decide +kernel, by decide +kernel⟩
theorem v307__law_label : (defScope t307).names.lookup ("_law_label" : Str) = some .cell := by decide +kernel
theorem v307__law_numbers : (defScope t307).names.lookup ("_law_numbers" : Str) = some .local := by decide +kernel
theorem v307__law_pool_here : (defScope t307).names.lookup ("_law_pool_here" : Str) = some .local := by decide +kernel
theorem v307__law_things_here : (defScope t307).names.lookup ("_law_things_here" : Str) = some .local := by decide +kernel
theorem g307__law_labels : (defScope t307).names.lookup ("_law_labels" : Str) = some .globalImplicit := by decide +kernel
theorem g307_any : (defScope t307).names.lookup ("any" : Str) = some .globalImplicit := by decide +kernel
theorem g307_len : (defScope t307).names.lookup ("len" : Str) = some .globalImplicit := by decide +kernel
theorem g307_set : (defScope t307).names.lookup ("set" : Str) = some .globalImplicit := by decide +kernel
theorem body307 {P : Program} {w : World} {nm : Nm} {mg : Str → Option Value} {base : Heap} {k : Nat} {Φ : CT} {f : Addr} (G : GF P w nm mg base k Φ) (cdv : Value) (A : Around) (outer : List PySem.Env) (s : Shared) (H : Hp) (E : XK) (hr : Room (k + 1) (A.deeper (envOfC "_law_torn" (defScope t307) s.heap.objs.size f cdv)))
    (tk : Takes (cxOf (L2.CX P w) P w nm.K mg base N307 "_law_torn" (defScope t307) f cdv A outer s H E) (fun cls d _ H => E cls d H))
    (hp : PassesOwn (model P w) (A.deeper (envOfC "_law_torn" (defScope t307) s.heap.objs.size f cdv)) (envOfC "_law_torn" (defScope t307) s.heap.objs.size f cdv) (cxOf (L2.CX P w) P w nm.K mg base N307 "_law_torn" (defScope t307) f cdv A outer s H E).xe) :
    PSs (cxOf (L2.CX P w) P w nm.K mg base N307 "_law_torn" (defScope t307) f cdv A outer s H E) (defBody t307) (tSs ⟨nm, Φ, ioIx 0 fi307.io, fun cls d _ H => E cls d H⟩ ir307) :=
  have hr0 := hr.mono (Nat.le_succ k)
  (sb_cons (ss_set nd307 rfl (.inr v307__law_label) (s_callC rfl G.c__law_labels hr0 g307__law_labels tk rfl (s_ocons rfl (s_varO (pv 0 rfl (.inl v307__law_pool_here) d__law_pool_here e__law_pool_here)) (s_ocons rfl (s_varO (pv 1 rfl (.inl v307__law_things_here) d__law_things_here e__law_things_here)) s_onil)) d__law_labels rfl rfl) rfl (.inl rfl))
  (sb_cons (ss_setLc (own := [("_law_cell", 4)]) rfl nd307 rfl v307__law_numbers (sw_true rfl v307__law_numbers rfl (by decide +kernel)) (si_seq rfl (s_varO (pv 0 rfl (.inl v307__law_pool_here) d__law_pool_here e__law_pool_here))) (show blkC N307 (defScope t307) _ _ = true by decide +kernel) (fun _ _ _ _ _ => (sg_name nd307 rfl (by first | exact .inl rfl | exact .inr rfl) (by first | exact .inl rfl | exact .inr rfl))) (fun _ _ _ _ _ => (sts_one (st_not (st_val (fun _ => rfl) (s_isi (t := .str) (by rfl) G.n_isinstance rfl G.CK (fun _ z => nomatch z) (tyE_b rfl (by rfl) G.n_str) (s_varO (pv 4 rfl (by first | exact .inl rfl | exact .inr (.inl rfl) | exact .inr (.inr rfl)) d__law_cell e__law_cell)) rfl rfl rfl))))) (fun _ _ _ _ _ => (s_ix rfl hr.units (fun _ _ => rfl) (s_varO (pv 2 rfl (by first | exact .inl rfl | exact .inr (.inl rfl) | exact .inr (.inr rfl)) d__law_label e__law_label)) (s_varO (pv 4 rfl (by first | exact .inl rfl | exact .inr (.inl rfl) | exact .inr (.inr rfl)) d__law_cell e__law_cell)))) (fun _ => rfl) (by decide))
  (sb_cons (ss_if (st_cmp hr.units (nomark _) (s_opd (fun _ z => nomatch z) (s_lset rfl rfl g307_len G.n_len g307_set G.n_set (s_varO (pv 3 rfl (.inl v307__law_numbers) d__law_numbers e__law_numbers)) rfl rfl)) (s_opd (fun _ z => nomatch z) (s_bi .len rfl rfl g307_len G.n_len (s_ocons rfl (s_varO (pv 3 rfl (.inl v307__law_numbers) d__law_numbers e__law_numbers)) s_onil) rfl rfl))) (sb_cons (ss_ret (fun _ z => nomatch z) s_bl)
  sb_nil) sb_nil)
  (sb_cons (ss_ret (fun _ z => nomatch z) (s_bi .any rfl rfl g307_any G.n_any (s_ocons rfl (s_opd (fun _ z => nomatch z) (s_lc (own := [("_law_one", 5), ("_law_other", 6), ("_law_said", 7)]) rfl nd307 (si_seq rfl (s_varO (pv 1 rfl (.inl v307__law_things_here) d__law_things_here e__law_things_here))) (show blkC N307 (defScope t307) _ _ = true by decide +kernel) (fun _ _ _ _ _ => (sg_tup rfl (sgs_cons (sg_name nd307 rfl (by first | exact .inl rfl | exact .inr rfl) (by first | exact .inl rfl | exact .inr rfl)) (sgs_cons (sg_name nd307 rfl (by first | exact .inl rfl | exact .inr rfl) (by first | exact .inl rfl | exact .inr rfl)) (sgs_cons (sg_name nd307 rfl (by first | exact .inl rfl | exact .inr rfl) (by first | exact .inl rfl | exact .inr rfl)) sgs_nil rfl) rfl) rfl) rfl rfl (lenT3))) (fun _ _ _ _ _ => sts_nil) (fun _ _ _ _ _ => (s_and (s_not (s_var (pv 7 rfl (by first | exact .inl rfl | exact .inr (.inl rfl) | exact .inr (.inr rfl)) d__law_said e__law_said))) (pe_one (s_cmp hr.units (nomark _) (s_opd (fun _ z => nomatch z) (s_ix rfl hr.units (fun _ _ => rfl) (s_varO (pv 2 rfl (by first | exact .inl rfl | exact .inr (.inl rfl) | exact .inr (.inr rfl)) d__law_label e__law_label)) (s_varO (pv 5 rfl (by first | exact .inl rfl | exact .inr (.inl rfl) | exact .inr (.inr rfl)) d__law_one e__law_one)))) (s_opd (fun _ z => nomatch z) (s_ix rfl hr.units (fun _ _ => rfl) (s_varO (pv 2 rfl (by first | exact .inl rfl | exact .inr (.inl rfl) | exact .inr (.inr rfl)) d__law_label e__law_label)) (s_varO (pv 6 rfl (by first | exact .inl rfl | exact .inr (.inl rfl) | exact .inr (.inr rfl)) d__law_other e__law_other)))))))) (fun _ => rfl) (by decide))) s_onil) rfl rfl))
  sb_nil))))
def ir308 : ISs := (.cons (.ite (.or (.cmp .In (.tup (.cons (.var 1) (.cons (.var 2) (.cons (.cst (.bl false)) .nil)))) (.var 0)) (.cmp .In (.tup (.cons (.var 2) (.cons (.var 1) (.cons (.cst (.bl false)) .nil)))) (.var 0))) (.cons (.ret (.cst (.bl true)))
  .nil) .nil)
  (.cons (.ret (.and (.not (.isi (.var 1) [.str])) (.and (.not (.isi (.var 2) [.str])) (.cmp .NotEq (.var 1) (.var 2)))))
  .nil))
def fi308 : DefI := ⟨3, 3, [], ir308⟩
abbrev t308 : Stmt := (top 16)
abbrev N308 : List Str := ["_law_things_here", "_law_one", "_law_other"]
theorem sc308 : FnScope N308 ["_law_things_here", "_law_one", "_law_other"] (defScope t308) := ⟨rfl, rfl, rfl, by decide +kernel, rfl, by decide +kernel, by decide +kernel⟩
theorem v308__law_one : (defScope t308).names.lookup ("_law_one" : Str) = some .local := by decide +kernel
theorem v308__law_other : (defScope t308).names.lookup ("_law_other" : Str) = some .local := by decide +kernel
theorem v308__law_things_here : (defScope t308).names.lookup ("_law_things_here" : Str) = some .local := by decide +kernel
theorem g308_isinstance : (defScope t308).names.lookup ("isinstance" : Str) = some .globalImplicit := by decide +kernel
theorem g308_str : (defScope t308).names.lookup ("str" : Str) = some .globalImplicit := by decide +kernel
theorem body308 {P : Program} {w : World} {nm : Nm} {mg : Str → Option Value} {base : Heap} {k : Nat} {Φ : CT} {f : Addr} (G : GF P w nm mg base k Φ) (cdv : Value) (A : Around) (outer : List PySem.Env) (s : Shared) (H : Hp) (E : XK) (hr : Room (k + 1) (A.deeper (envOfC "_law_unlike" (defScope t308) s.heap.objs.size f cdv)))
    (tk : Takes (cxOf (L2.CX P w) P w nm.K mg base N308 "_law_unlike" (defScope t308) f cdv A outer s H E) (fun cls d _ H => E cls d H))
    (hp : PassesOwn (model P w) (A.deeper (envOfC "_law_unlike" (defScope t308) s.heap.objs.size f cdv)) (envOfC "_law_unlike" (defScope t308) s.heap.objs.size f cdv) (cxOf (L2.CX P w) P w nm.K mg base N308 "_law_unlike" (defScope t308) f cdv A outer s H E).xe) :
    PSs (cxOf (L2.CX P w) P w nm.K mg base N308 "_law_unlike" (defScope t308) f cdv A outer s H E) (defBody t308) (tSs ⟨nm, Φ, ioIx 0 fi308.io, fun cls d _ H => E cls d H⟩ ir308) :=
  have hr0 := hr.mono (Nat.le_succ k)
  (sb_cons (ss_if (PW.pt (st_or (st_cmp hr.units rfl (s_opd (fun _ z => nomatch z) (s_tup (s_vcons rfl (s_var (pv 1 rfl (.inl v308__law_one) d__law_one e__law_one)) (s_vcons rfl (s_var (pv 2 rfl (.inl v308__law_other) d__law_other e__law_other)) (s_vcons rfl s_bl s_vnil))))) (s_varO (pv 0 rfl (.inl v308__law_things_here) d__law_things_here e__law_things_here))) (pw_or1 (st_cmp hr.units rfl (s_opd (fun _ z => nomatch z) (s_tup (s_vcons rfl (s_var (pv 2 rfl (.inl v308__law_other) d__law_other e__law_other)) (s_vcons rfl (s_var (pv 1 rfl (.inl v308__law_one) d__law_one e__law_one)) (s_vcons rfl s_bl s_vnil))))) (s_varO (pv 0 rfl (.inl v308__law_things_here) d__law_things_here e__law_things_here)))))) (sb_cons (ss_ret (fun _ z => nomatch z) s_bl)
  sb_nil) sb_nil)
  (sb_cons (ss_ret (fun _ z => nomatch z) (s_and (s_not (s_isi (t := .str) g308_isinstance G.n_isinstance rfl G.CK (fun _ z => nomatch z) (tyE_b rfl g308_str G.n_str) (s_varO (pv 1 rfl (.inl v308__law_one) d__law_one e__law_one)) rfl rfl rfl)) (s_and (s_not (s_isi (t := .str) g308_isinstance G.n_isinstance rfl G.CK (fun _ z => nomatch z) (tyE_b rfl g308_str G.n_str) (s_varO (pv 2 rfl (.inl v308__law_other) d__law_other e__law_other)) rfl rfl rfl)) (pe_one (s_cmp hr.units (nomark _) (s_varO (pv 1 rfl (.inl v308__law_one) d__law_one e__law_one)) (s_varO (pv 2 rfl (.inl v308__law_other) d__law_other e__law_other)))))))
  sb_nil))
def ir309 : ISs := (.cons (.ite (.or (.not (.isi (.var 0) [.tuple])) (.cmp .Eq (.bi .len (.cons (.var 0) .nil)) (.cst (.int 0)))) (.cons (.ret (.cst (.bl false)))
  .nil) .nil)
  (.cons (.loop (.tp (.cons (.nm 2) (.cons (.nm 3) .nil))) .zip (.cons (.var 0) (.cons (.sl10 (.var 0) (.cst (.int 1))) .nil)) (.cons (.ite (.and (.cmp .NotIn (.tup (.cons (.var 2) (.cons (.var 3) (.cons (.cst (.bl true)) .nil)))) (.var 1)) (.cmp .NotIn (.tup (.cons (.var 3) (.cons (.var 2) (.cons (.cst (.bl true)) .nil)))) (.var 1))) (.cons (.ret (.cst (.bl false)))
  .nil) .nil)
  .nil))
  (.cons (.ret (.call 308 (.cons (.var 1) (.cons (.ix (.var 0) (.cst (.int 0))) (.cons (.ix (.var 0) (.neg (.cst (.int 1)))) .nil)))))
  .nil)))
def fi309 : DefI := ⟨2, 4, [], ir309⟩
abbrev t309 : Stmt := (top 17)
abbrev N309 : List Str := ["_law_found", "_law_things_here", "_law_one", "_law_other"]
theorem nd309 : N309.Nodup := by decide +kernel
theorem sc309 : FnScope N309 ["_law_found", "_law_things_here"] (defScope t309) := ⟨rfl, rfl, rfl, by decide +kernel, rfl, by decide +kernel, by decide +kernel⟩
theorem v309__law_found : (defScope t309).names.lookup ("_law_found" : Str) = some .local := by decide +kernel
theorem v309__law_one : (defScope t309).names.lookup ("_law_one" : Str) = some .local := by decide +kernel
theorem v309__law_other : (defScope t309).names.lookup ("_law_other" : Str) = some .local := by decide +kernel
theorem v309__law_things_here : (defScope t309).names.lookup ("_law_things_here" : Str) = some .local := by decide +kernel
theorem g309__law_unlike : (defScope t309).names.lookup ("_law_unlike" : Str) = some .globalImplicit := by decide +kernel
theorem g309_isinstance : (defScope t309).names.lookup ("isinstance" : Str) = some .globalImplicit := by decide +kernel
theorem g309_len : (defScope t309).names.lookup ("len" : Str) = some .globalImplicit := by decide +kernel
theorem g309_tuple : (defScope t309).names.lookup ("tuple" : Str) = some .globalImplicit := by decide +kernel
theorem g309_zip : (defScope t309).names.lookup ("zip" : Str) = some .globalImplicit := by decide +kernel
theorem body309 {P : Program} {w : World} {nm : Nm} {mg : Str → Option Value} {base : Heap} {k : Nat} {Φ : CT} {f : Addr} (G : GF P w nm mg base k Φ) (cdv : Value) (A : Around) (outer : List PySem.Env) (s : Shared) (H : Hp) (E : XK) (hr : Room (k + 1) (A.deeper (envOfC "_law_is_clash" (defScope t309) s.heap.objs.size f cdv)))
    (tk : Takes (cxOf (L2.CX P w) P w nm.K mg base N309 "_law_is_clash" (defScope t309) f cdv A outer s H E) (fun cls d _ H => E cls d H))
    (hp : PassesOwn (model P w) (A.deeper (envOfC "_law_is_clash" (defScope t309) s.heap.objs.size f cdv)) (envOfC "_law_is_clash" (defScope t309) s.heap.objs.size f cdv) (cxOf (L2.CX P w) P w nm.K mg base N309 "_law_is_clash" (defScope t309) f cdv A outer s H E).xe) :
    PSs (cxOf (L2.CX P w) P w nm.K mg base N309 "_law_is_clash" (defScope t309) f cdv A outer s H E) (defBody t309) (tSs ⟨nm, Φ, ioIx 0 fi309.io, fun cls d _ H => E cls d H⟩ ir309) :=
  have hr0 := hr.mono (Nat.le_succ k)
  (sb_cons (ss_if (PW.pt (st_or (st_not (st_val (fun _ => rfl) (s_isi (t := .tuple) g309_isinstance G.n_isinstance rfl G.CK (fun _ z => nomatch z) (tyE_b rfl g309_tuple G.n_tuple) (s_varO (pv 0 rfl (.inl v309__law_found) d__law_found e__law_found)) rfl rfl rfl))) (pw_or1 (st_cmp hr.units (nomark _) (s_opd (fun _ z => nomatch z) (s_bi .len rfl rfl g309_len G.n_len (s_ocons rfl (s_varO (pv 0 rfl (.inl v309__law_found) d__law_found e__law_found)) s_onil) rfl rfl)) (s_opd (fun _ z => nomatch z) s_int))))) (sb_cons (ss_ret (fun _ z => nomatch z) s_bl)
  sb_nil) sb_nil)
  (sb_cons (ss_for hp rfl (si_zip g309_zip G.n_zip (s_ocons rfl (s_varO (pv 0 rfl (.inl v309__law_found) d__law_found e__law_found)) (s_ocons rfl (s_opd (fun _ z => nomatch z) (s_sl10 rfl (s_varO (pv 0 rfl (.inl v309__law_found) d__law_found e__law_found)) s_int)) s_onil)) rfl rfl) (sg_tup rfl (sgs_cons (sg_name nd309 rfl (.inl v309__law_one) (.inl rfl)) (sgs_cons (sg_name nd309 rfl (.inl v309__law_other) (.inl rfl)) sgs_nil rfl) rfl) rfl rfl (lenT2)) (sb_cons (ss_if (PW.pt (st_and (st_cmp hr.units rfl (s_opd (fun _ z => nomatch z) (s_tup (s_vcons rfl (s_var (pv 2 rfl (.inl v309__law_one) d__law_one e__law_one)) (s_vcons rfl (s_var (pv 3 rfl (.inl v309__law_other) d__law_other e__law_other)) (s_vcons rfl s_bl s_vnil))))) (s_varO (pv 1 rfl (.inl v309__law_things_here) d__law_things_here e__law_things_here))) (pw_and1 (st_cmp hr.units rfl (s_opd (fun _ z => nomatch z) (s_tup (s_vcons rfl (s_var (pv 3 rfl (.inl v309__law_other) d__law_other e__law_other)) (s_vcons rfl (s_var (pv 2 rfl (.inl v309__law_one) d__law_one e__law_one)) (s_vcons rfl s_bl s_vnil))))) (s_varO (pv 1 rfl (.inl v309__law_things_here) d__law_things_here e__law_things_here)))))) (sb_cons (ss_ret (fun _ z => nomatch z) s_bl)
  sb_nil) sb_nil)
  sb_nil) (fun _ => rfl))
  (sb_cons (ss_ret (fun _ z => nomatch z) (s_callC rfl G.c__law_unlike hr0 g309__law_unlike tk rfl (s_ocons rfl (s_varO (pv 1 rfl (.inl v309__law_things_here) d__law_things_here e__law_things_here)) (s_ocons rfl (s_opd (fun _ z => nomatch z) (s_ix rfl hr.units (fun _ _ => rfl) (s_varO (pv 0 rfl (.inl v309__law_found) d__law_found e__law_found)) (s_opd (fun _ z => nomatch z) s_int))) (s_ocons rfl (s_opd (fun _ z => nomatch z) (s_ix rfl hr.units (fun _ _ => rfl) (s_varO (pv 0 rfl (.inl v309__law_found) d__law_found e__law_found)) (s_opd (fun _ z => nomatch z) (s_neg s_int)))) s_onil))) d__law_unlike rfl rfl))
  sb_nil)))
def ir310 : ISs := (.cons (.ite (.isi (.var 0) [.str]) (.cons (.ret (.ix (.var 1) (.var 0)))
  .nil) .nil)
  (.cons (.ret (.var 0))
  .nil))
def fi310 : DefI := ⟨2, 2, [], ir310⟩
abbrev t310 : Stmt := (top 18)
abbrev N310 : List Str := ["_law_cell", "_law_filling"]
theorem sc310 : FnScope N310 ["_law_cell", "_law_filling"] (defScope t310) := ⟨rfl, rfl, rfl, by decide +kernel, rfl, by decide +kernel, by decide +kernel⟩
theorem v310__law_cell : (defScope t310).names.lookup ("_law_cell" : Str) = some .local := by decide +kernel
theorem v310__law_filling : (defScope t310).names.lookup ("_law_filling" : Str) = some .local := by decide +kernel
theorem g310_isinstance : (defScope t310).names.lookup ("isinstance" : Str) = some .globalImplicit := by decide +kernel
theorem g310_str : (defScope t310).names.lookup ("str" : Str) = some .globalImplicit := by decide +kernel
theorem body310 {P : Program} {w : World} {nm : Nm} {mg : Str → Option Value} {base : Heap} {k : Nat} {Φ : CT} {f : Addr} (G : GF P w nm mg base k Φ) (cdv : Value) (A : Around) (outer : List PySem.Env) (s : Shared) (H : Hp) (E : XK) (hr : Room (k + 1) (A.deeper (envOfC "_law_worth" (defScope t310) s.heap.objs.size f cdv)))
    (tk : Takes (cxOf (L2.CX P w) P w nm.K mg base N310 "_law_worth" (defScope t310) f cdv A outer s H E) (fun cls d _ H => E cls d H))
    (hp : PassesOwn (model P w) (A.deeper (envOfC "_law_worth" (defScope t310) s.heap.objs.size f cdv)) (envOfC "_law_worth" (defScope t310) s.heap.objs.size f cdv) (cxOf (L2.CX P w) P w nm.K mg base N310 "_law_worth" (defScope t310) f cdv A outer s H E).xe) :
    PSs (cxOf (L2.CX P w) P w nm.K mg base N310 "_law_worth" (defScope t310) f cdv A outer s H E) (defBody t310) (tSs ⟨nm, Φ, ioIx 0 fi310.io, fun cls d _ H => E cls d H⟩ ir310) :=
  have hr0 := hr.mono (Nat.le_succ k)
  (sb_cons (ss_if (st_val (fun _ => rfl) (s_isi (t := .str) g310_isinstance G.n_isinstance rfl G.CK (fun _ z => nomatch z) (tyE_b rfl g310_str G.n_str) (s_varO (pv 0 rfl (.inl v310__law_cell) d__law_cell e__law_cell)) rfl rfl rfl)) (sb_cons (ss_ret (fun _ z => nomatch z) (s_ix rfl hr.units (fun _ _ => rfl) (s_varO (pv 1 rfl (.inl v310__law_filling) d__law_filling e__law_filling)) (s_varO (pv 0 rfl (.inl v310__law_cell) d__law_cell e__law_cell))))
  sb_nil) sb_nil)
  (sb_cons (ss_retV (pv 0 rfl (.inl v310__law_cell) d__law_cell e__law_cell))
  sb_nil))
def ir311 : ISs := (.cons (.asg (.nm 2) (.dct .nil))
  (.cons (.loop (.tp (.cons (.nm 3) (.cons (.nm 4) (.cons (.nm 5) .nil)))) .seq (.cons (.var 1) .nil) (.cons (.loop (.nm 6) .seq (.cons (.tup (.cons (.var 3) (.cons (.var 4) .nil))) .nil) (.cons (.ite (.isi (.var 6) [.str]) (.cons (.put 2 (.var 6) (.cst (.bl true)))
  .nil) .nil)
  .nil))
  .nil))
  (.cons (.ite (.or (.not (.isi (.var 0) [.dict])) (.cmp .NotEq (.bi .sorted (.cons (.var 0) .nil)) (.bi .sorted (.cons (.var 2) .nil)))) (.cons (.ret (.cst (.bl false)))
  .nil) .nil)
  (.cons (.ite (.not (.bi .all (.cons (.lc [7] (.nm 7) .seqK (.cons (.var 0) .nil) .nil (.call 301 (.cons (.ix (.var 0) (.var 7)) .nil))) .nil))) (.cons (.ret (.cst (.bl false)))
  .nil) .nil)
  (.cons (.ret (.bi .all (.cons (.lc [3, 4, 5] (.tp (.cons (.nm 3) (.cons (.nm 4) (.cons (.nm 5) .nil)))) .seq (.cons (.var 1) .nil) .nil (.cmp .Eq (.cmp .Eq (.call 310 (.cons (.var 3) (.cons (.var 0) .nil))) (.call 310 (.cons (.var 4) (.cons (.var 0) .nil)))) (.var 5))) .nil)))
  .nil)))))
def fi311 : DefI := ⟨2, 8, [], ir311⟩
abbrev t311 : Stmt := (top 19)
abbrev N311 : List Str := ["_law_found", "_law_things_here", "_law_due", "_law_one", "_law_other", "_law_said", "_law_cell", "_law_gap"]
theorem nd311 : N311.Nodup := by decide +kernel
theorem sc311 : FnScope N311 ["_law_found", "_law_things_here"] (defScope t311) := ⟨rfl, rfl, rfl, by decide +kernel, rfl, by decide +kernel, by decide +kernel⟩
theorem v311__law_cell : (defScope t311).names.lookup ("_law_cell" : Str) = some .local := by decide +kernel
theorem v311__law_due : (defScope t311).names.lookup ("_law_due" : Str) = some .local := by decide +kernel
theorem v311__law_found : (defScope t311).names.lookup ("_law_found" : Str) = some .cell := by decide +kernel
theorem v311__law_one : (defScope t311).names.lookup ("_law_one" : Str) = some .local := by decide +kernel
theorem v311__law_other : (defScope t311).names.lookup ("_law_other" : Str) = some .local := by decide +kernel
theorem v311__law_said : (defScope t311).names.lookup ("_law_said" : Str) = some .local := by decide +kernel
theorem v311__law_things_here : (defScope t311).names.lookup ("_law_things_here" : Str) = some .local := by decide +kernel
theorem g311_all : (defScope t311).names.lookup ("all" : Str) = some .globalImplicit := by decide +kernel
theorem g311_dict : (defScope t311).names.lookup ("dict" : Str) = some .globalImplicit := by decide +kernel
theorem g311_isinstance : (defScope t311).names.lookup ("isinstance" : Str) = some .globalImplicit := by decide +kernel
theorem g311_sorted : (defScope t311).names.lookup ("sorted" : Str) = some .globalImplicit := by decide +kernel
theorem g311_str : (defScope t311).names.lookup ("str" : Str) = some .globalImplicit := by decide +kernel
theorem body311 {P : Program} {w : World} {nm : Nm} {mg : Str → Option Value} {base : Heap} {k : Nat} {Φ : CT} {f : Addr} (G : GF P w nm mg base k Φ) (cdv : Value) (A : Around) (outer : List PySem.Env) (s : Shared) (H : Hp) (E : XK) (hr : Room (k + 1) (A.deeper (envOfC "_law_agrees" (defScope t311) s.heap.objs.size f cdv)))
    (tk : Takes (cxOf (L2.CX P w) P w nm.K mg base N311 "_law_agrees" (defScope t311) f cdv A outer s H E) (fun cls d _ H => E cls d H))
    (hp : PassesOwn (model P w) (A.deeper (envOfC "_law_agrees" (defScope t311) s.heap.objs.size f cdv)) (envOfC "_law_agrees" (defScope t311) s.heap.objs.size f cdv) (cxOf (L2.CX P w) P w nm.K mg base N311 "_law_agrees" (defScope t311) f cdv A outer s H E).xe) :
    PSs (cxOf (L2.CX P w) P w nm.K mg base N311 "_law_agrees" (defScope t311) f cdv A outer s H E) (defBody t311) (tSs ⟨nm, Φ, ioIx 0 fi311.io, fun cls d _ H => E cls d H⟩ ir311) :=
  have hr0 := hr.mono (Nat.le_succ k)
  (sb_cons (ss_set nd311 rfl (.inl v311__law_due) s_dnew rfl (.inl rfl))
  (sb_cons (ss_for hp rfl (si_seq rfl (s_varO (pv 1 rfl (.inl v311__law_things_here) d__law_things_here e__law_things_here))) (sg_tup rfl (sgs_cons (sg_name nd311 rfl (.inl v311__law_one) (.inl rfl)) (sgs_cons (sg_name nd311 rfl (.inl v311__law_other) (.inl rfl)) (sgs_cons (sg_name nd311 rfl (.inl v311__law_said) (.inl rfl)) sgs_nil rfl) rfl) rfl) rfl rfl (lenT3)) (sb_cons (ss_for hp rfl (si_seq rfl (s_opd (fun _ z => nomatch z) (s_tup (s_vcons rfl (s_var (pv 3 rfl (.inl v311__law_one) d__law_one e__law_one)) (s_vcons rfl (s_var (pv 4 rfl (.inl v311__law_other) d__law_other e__law_other)) s_vnil))))) (sg_name nd311 rfl (.inl v311__law_cell) (.inl rfl)) (sb_cons (ss_if (st_val (fun _ => rfl) (s_isi (t := .str) g311_isinstance G.n_isinstance rfl G.CK (fun _ z => nomatch z) (tyE_b rfl g311_str G.n_str) (s_varO (pv 6 rfl (.inl v311__law_cell) d__law_cell e__law_cell)) rfl rfl rfl)) (sb_cons (ss_put (hu_of hr) s_bl (pv 2 rfl (.inl v311__law_due) d__law_due e__law_due) (s_var (pv 6 rfl (.inl v311__law_cell) d__law_cell e__law_cell)) (fun _ => rfl) rfl rfl rfl)
  sb_nil) sb_nil)
  sb_nil) (fun _ => rfl))
  sb_nil) (fun _ => rfl))
  (sb_cons (ss_if (PW.pt (st_or (st_not (st_val (fun _ => rfl) (s_isi (t := .dict) g311_isinstance G.n_isinstance rfl G.CK (fun _ z => nomatch z) (tyE_b rfl g311_dict G.n_dict) (s_varO (pv 0 rfl (.inr (.inl v311__law_found)) d__law_found e__law_found)) rfl rfl rfl))) (pw_or1 (st_cmp hr.units (nomark _) (s_opd (fun _ z => nomatch z) (s_bi .sorted rfl rfl g311_sorted G.n_sorted (s_ocons rfl (s_varO (pv 0 rfl (.inr (.inl v311__law_found)) d__law_found e__law_found)) s_onil) rfl rfl)) (s_opd (fun _ z => nomatch z) (s_bi .sorted rfl rfl g311_sorted G.n_sorted (s_ocons rfl (s_varO (pv 2 rfl (.inl v311__law_due) d__law_due e__law_due)) s_onil) rfl rfl)))))) (sb_cons (ss_ret (fun _ z => nomatch z) s_bl)
  sb_nil) sb_nil)
  (sb_cons (ss_if (st_not (st_val (fun _ => rfl) (s_bi .all rfl rfl g311_all G.n_all (s_ocons rfl (s_opd (fun _ z => nomatch z) (s_lcK (own := [("_law_gap", 7)]) (hK := rfl) rfl nd311 (pv 0 rfl (.inr (.inl v311__law_found)) d__law_found e__law_found) (show blkC N311 (defScope t311) _ _ = true by decide +kernel) (fun _ _ _ _ _ => (sg_name nd311 rfl (by first | exact .inl rfl | exact .inr rfl) (by first | exact .inl rfl | exact .inr rfl))) (fun _ _ _ _ _ => sts_nil) (fun _ _ _ _ _ => (s_callC rfl G.c__law_whole hr0 (by rfl) takes_blk rfl (s_ocons rfl (s_opd (fun _ z => nomatch z) (s_ix rfl hr.units (fun _ _ => rfl) (s_varO (pv 0 rfl (by first | exact .inl rfl | exact .inr (.inl rfl) | exact .inr (.inr rfl)) d__law_found e__law_found)) (s_varO (pv 7 rfl (by first | exact .inl rfl | exact .inr (.inl rfl) | exact .inr (.inr rfl)) d__law_gap e__law_gap)))) s_onil) d__law_whole rfl rfl)) (fun _ => rfl) (by decide))) s_onil) rfl rfl))) (sb_cons (ss_ret (fun _ z => nomatch z) s_bl)
  sb_nil) sb_nil)
  (sb_cons (ss_ret (fun _ z => nomatch z) (s_bi .all rfl rfl g311_all G.n_all (s_ocons rfl (s_opd (fun _ z => nomatch z) (s_lc (own := [("_law_one", 3), ("_law_other", 4), ("_law_said", 5)]) rfl nd311 (si_seq rfl (s_varO (pv 1 rfl (.inl v311__law_things_here) d__law_things_here e__law_things_here))) (show blkC N311 (defScope t311) _ _ = true by decide +kernel) (fun _ _ _ _ _ => (sg_tup rfl (sgs_cons (sg_name nd311 rfl (by first | exact .inl rfl | exact .inr rfl) (by first | exact .inl rfl | exact .inr rfl)) (sgs_cons (sg_name nd311 rfl (by first | exact .inl rfl | exact .inr rfl) (by first | exact .inl rfl | exact .inr rfl)) (sgs_cons (sg_name nd311 rfl (by first | exact .inl rfl | exact .inr rfl) (by first | exact .inl rfl | exact .inr rfl)) sgs_nil rfl) rfl) rfl) rfl rfl (lenT3))) (fun _ _ _ _ _ => sts_nil) (fun _ _ _ _ _ => (s_cmp hr.units (nomark _) (s_opd (fun _ z => nomatch z) (s_cmp hr.units (nomark _) (s_opd (fun _ z => nomatch z) (s_callC rfl G.c__law_worth hr0 (by rfl) takes_blk rfl (s_ocons rfl (s_varO (pv 3 rfl (by first | exact .inl rfl | exact .inr (.inl rfl) | exact .inr (.inr rfl)) d__law_one e__law_one)) (s_ocons rfl (s_varO (pv 0 rfl (by first | exact .inl rfl | exact .inr (.inl rfl) | exact .inr (.inr rfl)) d__law_found e__law_found)) s_onil)) d__law_worth rfl rfl)) (s_opd (fun _ z => nomatch z) (s_callC rfl G.c__law_worth hr0 (by rfl) takes_blk rfl (s_ocons rfl (s_varO (pv 4 rfl (by first | exact .inl rfl | exact .inr (.inl rfl) | exact .inr (.inr rfl)) d__law_other e__law_other)) (s_ocons rfl (s_varO (pv 0 rfl (by first | exact .inl rfl | exact .inr (.inl rfl) | exact .inr (.inr rfl)) d__law_found e__law_found)) s_onil)) d__law_worth rfl rfl)))) (s_varO (pv 5 rfl (by first | exact .inl rfl | exact .inr (.inl rfl) | exact .inr (.inr rfl)) d__law_said e__law_said)))) (fun _ => rfl) (by decide))) s_onil) rfl rfl))
  sb_nil)))))
def ir312 : ISs := (.cons (.ite (.var 2) (.cons (.ret (.and (.call 309 (.cons (.call 39 (.cons (.var 0) .nil)) (.cons (.var 1) .nil))) (.cmp .Is (.call 41 (.cons (.var 0) .nil)) (.cst .non))))
  .nil) .nil)
  (.cons (.asg (.nm 3) (.call 41 (.cons (.var 0) .nil)))
  (.cons (.ite (.or (.cmp .IsNot (.call 39 (.cons (.var 0) .nil)) (.cst .non)) (.not (.callF 311 (.cons (.var 3) (.cons (.var 1) .nil))))) (.cons (.ret (.cst (.bl false)))
  .nil) .nil)
  (.cons (.expr (.mu 3 .dclear .nil))
  (.cons (.ret (.cst (.bl true)))
  .nil)))))
def fi312 : DefI := ⟨3, 4, [], ir312⟩
abbrev t312 : Stmt := (top 20)
abbrev N312 : List Str := ["_law_handed", "_law_things_here", "_law_torn_here", "_law_told"]
theorem nd312 : N312.Nodup := by decide +kernel
theorem sc312 : FnScope N312 ["_law_handed", "_law_things_here", "_law_torn_here"] (defScope t312) := ⟨rfl, rfl, rfl, by decide +kernel, rfl, by decide +kernel, by decide +kernel⟩
theorem v312__law_handed : (defScope t312).names.lookup ("_law_handed" : Str) = some .local := by decide +kernel
theorem v312__law_things_here : (defScope t312).names.lookup ("_law_things_here" : Str) = some .local := by decide +kernel
theorem v312__law_told : (defScope t312).names.lookup ("_law_told" : Str) = some .local := by decide +kernel
theorem v312__law_torn_here : (defScope t312).names.lookup ("_law_torn_here" : Str) = some .local := by decide +kernel
theorem g312__law_agrees : (defScope t312).names.lookup ("_law_agrees" : Str) = some .globalImplicit := by decide +kernel
theorem g312__law_is_clash : (defScope t312).names.lookup ("_law_is_clash" : Str) = some .globalImplicit := by decide +kernel
theorem g312_agreeing : (defScope t312).names.lookup ("agreeing" : Str) = some .globalImplicit := by decide +kernel
theorem g312_clash : (defScope t312).names.lookup ("clash" : Str) = some .globalImplicit := by decide +kernel
theorem body312 {P : Program} {w : World} {nm : Nm} {mg : Str → Option Value} {base : Heap} {k : Nat} {Φ : CT} {f : Addr} (G : GF P w nm mg base k Φ) (cdv : Value) (A : Around) (outer : List PySem.Env) (s : Shared) (H : Hp) (E : XK) (hr : Room (k + 1) (A.deeper (envOfC "_law_right" (defScope t312) s.heap.objs.size f cdv)))
    (tk : Takes (cxOf (L2.CX P w) P w nm.K mg base N312 "_law_right" (defScope t312) f cdv A outer s H E) (fun cls d _ H => E cls d H))
    (hp : PassesOwn (model P w) (A.deeper (envOfC "_law_right" (defScope t312) s.heap.objs.size f cdv)) (envOfC "_law_right" (defScope t312) s.heap.objs.size f cdv) (cxOf (L2.CX P w) P w nm.K mg base N312 "_law_right" (defScope t312) f cdv A outer s H E).xe) :
    PSs (cxOf (L2.CX P w) P w nm.K mg base N312 "_law_right" (defScope t312) f cdv A outer s H E) (defBody t312) (tSs ⟨nm, Φ, ioIx 0 fi312.io, fun cls d _ H => E cls d H⟩ ir312) :=
  have hr0 := hr.mono (Nat.le_succ k)
  (sb_cons (ss_if (st_val (fun _ => rfl) (s_var (pv 2 rfl (.inl v312__law_torn_here) d__law_torn_here e__law_torn_here))) (sb_cons (ss_ret (fun _ z => nomatch z) (s_and (s_callC rfl G.c__law_is_clash hr0 g312__law_is_clash tk rfl (s_ocons rfl (s_opd (fun _ z => nomatch z) (s_callC rfl G.c_clash hr0 g312_clash tk rfl (s_ocons rfl (s_varO (pv 0 rfl (.inl v312__law_handed) d__law_handed e__law_handed)) s_onil) d_clash rfl rfl)) (s_ocons rfl (s_varO (pv 1 rfl (.inl v312__law_things_here) d__law_things_here e__law_things_here)) s_onil)) d__law_is_clash rfl rfl) (pe_one (s_cmp hr.units (nomark _) (s_opd (fun _ z => nomatch z) (s_callC rfl G.c_agreeing hr0 g312_agreeing tk rfl (s_ocons rfl (s_varO (pv 0 rfl (.inl v312__law_handed) d__law_handed e__law_handed)) s_onil) d_agreeing rfl rfl)) (s_opd (fun _ z => nomatch z) s_non)))))
  sb_nil) sb_nil)
  (sb_cons (ss_set nd312 rfl (.inl v312__law_told) (s_callC rfl G.c_agreeing hr0 g312_agreeing tk rfl (s_ocons rfl (s_varO (pv 0 rfl (.inl v312__law_handed) d__law_handed e__law_handed)) s_onil) d_agreeing rfl rfl) rfl (.inl rfl))
  (sb_cons (ss_if (PW.pt (st_or (st_cmp hr.units (nomark _) (s_opd (fun _ z => nomatch z) (s_callC rfl G.c_clash hr0 g312_clash tk rfl (s_ocons rfl (s_varO (pv 0 rfl (.inl v312__law_handed) d__law_handed e__law_handed)) s_onil) d_clash rfl rfl)) (s_opd (fun _ z => nomatch z) s_non)) (pw_or1 (st_not (st_val (fun _ => rfl) (s_callF rfl G.c__law_agrees hr0 g312__law_agrees tk rfl (s_ocons rfl (s_varO (pv 3 rfl (.inl v312__law_told) d__law_told e__law_told)) (s_ocons rfl (s_varO (pv 1 rfl (.inl v312__law_things_here) d__law_things_here e__law_things_here)) s_onil)) d__law_agrees rfl rfl)))))) (sb_cons (ss_ret (fun _ z => nomatch z) s_bl)
  sb_nil) sb_nil)
  (sb_cons (ss_expr (s_mu0 mu_dclear PySem.F.plainAttrs_dict PySem.F.slot_dict_clear PySem.F.type_dict_clear (pv 3 rfl (.inl v312__law_told) d__law_told e__law_told) rfl rfl) rfl)
  (sb_cons (ss_ret (fun _ z => nomatch z) s_bl)
  sb_nil)))))
def ir313 : ISs := (.cons (.asg (.tp (.cons (.nm 1) (.cons (.nm 2) .nil))) (.call 304 (.cons (.var 0) .nil)))
  (.cons (.asg (.nm 3) (.bin .Add (.var 1) (.var 2)))
  (.cons (.asg (.nm 4) (.call 305 (.cons (.sl11 (.var 0) (.cst (.int 8)) (.cst (.int 32))) (.cons (.var 3) .nil))))
  (.cons (.asg (.nm 5) (.bi .list (.cons (.var 4) .nil)))
  (.cons (.asg (.nm 6) (.call 307 (.cons (.var 3) (.cons (.var 4) .nil))))
  (.cons (.ite (.or (.not (.call 312 (.cons (.var 5) (.cons (.var 4) (.cons (.var 6) .nil))))) (.cmp .NotEq (.var 5) (.var 4))) (.cons (.ret (.cst (.bl false)))
  .nil) .nil)
  (.cons (.asg (.nm 7) (.sl01 (.var 4) (.bin .FloorDiv (.bi .len (.cons (.var 4) .nil)) (.cst (.int 2)))))
  (.cons (.ite (.not (.call 312 (.cons (.bi .list (.cons (.var 7) .nil)) (.cons (.var 7) (.cons (.call 307 (.cons (.var 3) (.cons (.var 7) .nil))) .nil))))) (.cons (.ret (.cst (.bl false)))
  .nil) .nil)
  (.cons (.ret (.and (.call 312 (.cons (.var 5) (.cons (.var 4) (.cons (.var 6) .nil)))) (.cmp .Eq (.var 5) (.var 4))))
  .nil)))))))))
def fi313 : DefI := ⟨1, 8, [], ir313⟩
abbrev t313 : Stmt := (top 21)
abbrev N313 : List Str := ["_law_script", "_law_gaps_here", "_law_values", "_law_pool_here", "_law_things_here", "_law_handed", "_law_torn_here", "_law_fewer"]
theorem nd313 : N313.Nodup := by decide +kernel
theorem sc313 : FnScope N313 ["_law_script"] (defScope t313) := ⟨rfl, rfl, rfl, by decide +kernel, rfl, by decide +kernel, by decide +kernel⟩
theorem v313__law_fewer : (defScope t313).names.lookup ("_law_fewer" : Str) = some .local := by decide +kernel
theorem v313__law_gaps_here : (defScope t313).names.lookup ("_law_gaps_here" : Str) = some .local := by decide +kernel
theorem v313__law_handed : (defScope t313).names.lookup ("_law_handed" : Str) = some .local := by decide +kernel
theorem v313__law_pool_here : (defScope t313).names.lookup ("_law_pool_here" : Str) = some .local := by decide +kernel
theorem v313__law_script : (defScope t313).names.lookup ("_law_script" : Str) = some .local := by decide +kernel
theorem v313__law_things_here : (defScope t313).names.lookup ("_law_things_here" : Str) = some .local := by decide +kernel
theorem v313__law_torn_here : (defScope t313).names.lookup ("_law_torn_here" : Str) = some .local := by decide +kernel
theorem v313__law_values : (defScope t313).names.lookup ("_law_values" : Str) = some .local := by decide +kernel
theorem g313__law_pool : (defScope t313).names.lookup ("_law_pool" : Str) = some .globalImplicit := by decide +kernel
theorem g313__law_right : (defScope t313).names.lookup ("_law_right" : Str) = some .globalImplicit := by decide +kernel
theorem g313__law_things : (defScope t313).names.lookup ("_law_things" : Str) = some .globalImplicit := by decide +kernel
theorem g313__law_torn : (defScope t313).names.lookup ("_law_torn" : Str) = some .globalImplicit := by decide +kernel
theorem g313_len : (defScope t313).names.lookup ("len" : Str) = some .globalImplicit := by decide +kernel
theorem g313_list : (defScope t313).names.lookup ("list" : Str) = some .globalImplicit := by decide +kernel
theorem body313 {P : Program} {w : World} {nm : Nm} {mg : Str → Option Value} {base : Heap} {k : Nat} {Φ : CT} {f : Addr} (G : GF P w nm mg base k Φ) (cdv : Value) (A : Around) (outer : List PySem.Env) (s : Shared) (H : Hp) (E : XK) (hr : Room (k + 1) (A.deeper (envOfC "law" (defScope t313) s.heap.objs.size f cdv)))
    (tk : Takes (cxOf (L2.CX P w) P w nm.K mg base N313 "law" (defScope t313) f cdv A outer s H E) (fun cls d _ H => E cls d H))
    (hp : PassesOwn (model P w) (A.deeper (envOfC "law" (defScope t313) s.heap.objs.size f cdv)) (envOfC "law" (defScope t313) s.heap.objs.size f cdv) (cxOf (L2.CX P w) P w nm.K mg base N313 "law" (defScope t313) f cdv A outer s H E).xe) :
    PSs (cxOf (L2.CX P w) P w nm.K mg base N313 "law" (defScope t313) f cdv A outer s H E) (defBody t313) (tSs ⟨nm, Φ, ioIx 0 fi313.io, fun cls d _ H => E cls d H⟩ ir313) :=
  have hr0 := hr.mono (Nat.le_succ k)
  (sb_cons (ss_asg (fun _ z => nomatch z) (s_callC rfl G.c__law_pool hr0 g313__law_pool tk rfl (s_ocons rfl (s_varO (pv 0 rfl (.inl v313__law_script) d__law_script e__law_script)) s_onil) d__law_pool rfl rfl) (sg_tup rfl (sgs_cons (sg_name nd313 rfl (.inl v313__law_gaps_here) (.inl rfl)) (sgs_cons (sg_name nd313 rfl (.inl v313__law_values) (.inl rfl)) sgs_nil rfl) rfl) rfl rfl (lenT2)) rfl rfl rfl)
  (sb_cons (ss_set nd313 rfl (.inl v313__law_pool_here) (s_bin (s_varO (pv 1 rfl (.inl v313__law_gaps_here) d__law_gaps_here e__law_gaps_here)) (s_varO (pv 2 rfl (.inl v313__law_values) d__law_values e__law_values))) rfl (.inl rfl))
  (sb_cons (ss_set nd313 rfl (.inl v313__law_things_here) (s_callC rfl G.c__law_things hr0 g313__law_things tk rfl (s_ocons rfl (s_opd (fun _ z => nomatch z) (s_sl11 rfl (s_varO (pv 0 rfl (.inl v313__law_script) d__law_script e__law_script)) s_int s_int)) (s_ocons rfl (s_varO (pv 3 rfl (.inl v313__law_pool_here) d__law_pool_here e__law_pool_here)) s_onil)) d__law_things rfl rfl) rfl (.inl rfl))
  (sb_cons (ss_set nd313 rfl (.inl v313__law_handed) (s_bi .list rfl rfl g313_list G.n_list (s_ocons rfl (s_varO (pv 4 rfl (.inl v313__law_things_here) d__law_things_here e__law_things_here)) s_onil) rfl rfl) rfl (.inl rfl))
  (sb_cons (ss_set nd313 rfl (.inl v313__law_torn_here) (s_callC rfl G.c__law_torn hr0 g313__law_torn tk rfl (s_ocons rfl (s_varO (pv 3 rfl (.inl v313__law_pool_here) d__law_pool_here e__law_pool_here)) (s_ocons rfl (s_varO (pv 4 rfl (.inl v313__law_things_here) d__law_things_here e__law_things_here)) s_onil)) d__law_torn rfl rfl) rfl (.inl rfl))
  (sb_cons (ss_if (PW.pt (st_or (st_not (st_val (fun _ => rfl) (s_callC rfl G.c__law_right hr0 g313__law_right tk rfl (s_ocons rfl (s_varO (pv 5 rfl (.inl v313__law_handed) d__law_handed e__law_handed)) (s_ocons rfl (s_varO (pv 4 rfl (.inl v313__law_things_here) d__law_things_here e__law_things_here)) (s_ocons rfl (s_varO (pv 6 rfl (.inl v313__law_torn_here) d__law_torn_here e__law_torn_here)) s_onil))) d__law_right rfl rfl))) (pw_or1 (st_cmp hr.units (nomark _) (s_varO (pv 5 rfl (.inl v313__law_handed) d__law_handed e__law_handed)) (s_varO (pv 4 rfl (.inl v313__law_things_here) d__law_things_here e__law_things_here)))))) (sb_cons (ss_ret (fun _ z => nomatch z) s_bl)
  sb_nil) sb_nil)
  (sb_cons (ss_set nd313 rfl (.inl v313__law_fewer) (s_sl01 rfl (s_varO (pv 4 rfl (.inl v313__law_things_here) d__law_things_here e__law_things_here)) (s_bin (s_opd (fun _ z => nomatch z) (s_bi .len rfl rfl g313_len G.n_len (s_ocons rfl (s_varO (pv 4 rfl (.inl v313__law_things_here) d__law_things_here e__law_things_here)) s_onil) rfl rfl)) (s_opd (fun _ z => nomatch z) s_int))) rfl (.inl rfl))
  (sb_cons (ss_if (st_not (st_val (fun _ => rfl) (s_callC rfl G.c__law_right hr0 g313__law_right tk rfl (s_ocons rfl (s_opd (fun _ z => nomatch z) (s_bi .list rfl rfl g313_list G.n_list (s_ocons rfl (s_varO (pv 7 rfl (.inl v313__law_fewer) d__law_fewer e__law_fewer)) s_onil) rfl rfl)) (s_ocons rfl (s_varO (pv 7 rfl (.inl v313__law_fewer) d__law_fewer e__law_fewer)) (s_ocons rfl (s_opd (fun _ z => nomatch z) (s_callC rfl G.c__law_torn hr0 g313__law_torn tk rfl (s_ocons rfl (s_varO (pv 3 rfl (.inl v313__law_pool_here) d__law_pool_here e__law_pool_here)) (s_ocons rfl (s_varO (pv 7 rfl (.inl v313__law_fewer) d__law_fewer e__law_fewer)) s_onil)) d__law_torn rfl rfl)) s_onil))) d__law_right rfl rfl))) (sb_cons (ss_ret (fun _ z => nomatch z) s_bl)
  sb_nil) sb_nil)
  (sb_cons (ss_ret (fun _ z => nomatch z) (s_and (s_callC rfl G.c__law_right hr0 g313__law_right tk rfl (s_ocons rfl (s_varO (pv 5 rfl (.inl v313__law_handed) d__law_handed e__law_handed)) (s_ocons rfl (s_varO (pv 4 rfl (.inl v313__law_things_here) d__law_things_here e__law_things_here)) (s_ocons rfl (s_varO (pv 6 rfl (.inl v313__law_torn_here) d__law_torn_here e__law_torn_here)) s_onil))) d__law_right rfl rfl) (pe_one (s_cmp hr.units (nomark _) (s_varO (pv 5 rfl (.inl v313__law_handed) d__law_handed e__law_handed)) (s_varO (pv 4 rfl (.inl v313__law_things_here) d__law_things_here e__law_things_here))))))
  sb_nil)))))))))
def pdef (j : Nat) : Option DefI := lookN [(35, fi35), (37, fi37), (38, fi38), (39, fi39), (40, fi40), (41, fi41), (300, fi300), (301, fi301), (302, fi302), (303, fi303), (304, fi304), (305, fi305), (306, fi306), (307, fi307), (308, fi308), (309, fi309), (310, fi310), (311, fi311), (312, fi312), (313, fi313)] j
def pg : Pg := ⟨pdef, look2 PM, lookN PI, T.isaF, T.fldF⟩
end K21
namespace MT
open PySem PySem.Spec PyProof.Rows L2 He
def AllP {α : Type} (p : α → Prop) : List α → Prop
  | [] => True
  | x :: xs => p x ∧ AllP p xs
theorem AllP.mem {α : Type} {p : α → Prop} : ∀ {xs : List α}, AllP p xs → ∀ x ∈ xs, p x
  | _ :: _, h, _, .head _ => h.1
  | _ :: _, h, x, .tail _ m => AllP.mem h.2 x m
theorem ob_of {α : Type} {E : Option α} {KK : α → PySem.W.Frag} {T : CTab} {fas : List (List Fa)} {fns : List (List DefD)} (h0 : E.map (fun s => T.ok (KK s)) = some true)
    (ha : AllP (fun l => E.map (fun s => l.all fun f => f.ok (KK s)) = some true) fas) (hd : AllP (fun l => E.map (fun s => (l.all (fun d => d.ok (KK s)), l.map fun d => fnW (KK s) d.at_)) = some (true, l.map DefD.val)) fns) :
    E.map (fun s => obsM T fas.flatten fns.flatten (KK s)) = some (true, valD fns.flatten) := by
  cases E with
  | none => cases h0
  | some s =>
    have h0 : T.ok (KK s) = true := Option.some.inj h0
    have ha := ha.mem
    have hd := hd.mem
    have a1 : (fas.flatten.all fun f => f.ok (KK s)) = true := by
      rw [List.all_eq_true]
      intro f hf
      obtain ⟨l, hl, hf⟩ := List.mem_flatten.mp hf
      have h := Option.some.inj (ha l hl)
      rw [List.all_eq_true] at h
      exact h f hf
    have d1 : (fns.flatten.all fun d => d.ok (KK s)) = true := by
      rw [List.all_eq_true]
      intro f hf
      obtain ⟨l, hl, hf⟩ := List.mem_flatten.mp hf
      have h := (Prod.mk.inj (Option.some.inj (hd l hl))).1
      rw [List.all_eq_true] at h
      exact h f hf
    have d2 : (fns.flatten.map fun d => fnW (KK s) d.at_) = fns.flatten.map DefD.val := by
      refine List.map_congr_left fun f hf => ?_
      obtain ⟨l, hl, hf⟩ := List.mem_flatten.mp hf
      have h := (Prod.mk.inj (Option.some.inj (hd l hl))).2
      exact List.map_inj_left.mp h f hf
    show some (T.ok (KK s), (fas.flatten.all fun f => f.ok (KK s)) && (fns.flatten.all fun d => d.ok (KK s)), fns.flatten.map fun d => fnW (KK s) d.at_) = _
    rw [h0, a1, d1, d2]
    rfl
theorem pair_of {α β γ δ : Type} {E : Option α} {f : α → β} {g : α → γ} {h : α → δ} {b : β} {c : γ} {d : δ} (h1 : E.map (fun s => (f s, g s)) = some (b, c)) (h2 : E.map h = some d) : E.map (fun s => (f s, g s, h s)) = some (b, c, d) := by
  cases E with
  | none => cases h2
  | some s =>
    have h1 := Prod.mk.inj (Option.some.inj h1)
    have h2 : h s = d := Option.some.inj h2
    show some (f s, g s, h s) = _
    rw [h1.1, h1.2, h2]
/-- what is looked at -/
abbrev KDn (n : Nat) (s : PySem.W.SharedT) : PySem.W.Frag := frG (HandSHeadRun.getT s) (asD (HandSHeadRun.getT s) n ++ [cStatics])
end MT
namespace K21
open PySem PySem.Spec PyProof.Rows L2 MT Pgm
abbrev nm0 (K : PySem.W.Frag) : Nm := T.nm K
structure FX (K : PySem.W.Frag) (mg : Str → Option Value) : Prop where
  O : TabOk T K
  n_all : mg "all" = none
  n_any : mg "any" = none
  n_bool : mg "bool" = none
  n_dict : mg "dict" = none
  n_enumerate : mg "enumerate" = none
  n_int : mg "int" = none
  n_isinstance : mg "isinstance" = none
  n_len : mg "len" = none
  n_list : mg "list" = none
  n_range : mg "range" = none
  n_set : mg "set" = none
  n_sorted : mg "sorted" = none
  n_str : mg "str" = none
  n_sum : mg "sum" = none
  n_tuple : mg "tuple" = none
  n_zip : mg "zip" = none
  f35 : ∃ fd, FunD K "values_in" "values_in" (defArgs t35) (defBody t35) (defScope t35) [] [] (He.fAd K ("values_in", none)) fd
  f37 : ∃ fd, FunD K "neighbours" "neighbours" (defArgs t37) (defBody t37) (defScope t37) [] [] (He.fAd K ("neighbours", none)) fd
  f38 : ∃ fd, FunD K "chains_from" "chains_from" (defArgs t38) (defBody t38) (defScope t38) [] [] (He.fAd K ("chains_from", none)) fd
  f39 : ∃ fd, FunD K "clash" "clash" (defArgs t39) (defBody t39) (defScope t39) [] [] (He.fAd K ("clash", none)) fd
  f40 : ∃ fd, FunD K "fresh_beside" "fresh_beside" (defArgs t40) (defBody t40) (defScope t40) [] [] (He.fAd K ("fresh_beside", none)) fd
  f41 : ∃ fd, FunD K "agreeing" "agreeing" (defArgs t41) (defBody t41) (defScope t41) [] [] (He.fAd K ("agreeing", none)) fd
  f300 : ∃ fd, FunD K "_law_nth" "_law_nth" (defArgs t300) (defBody t300) (defScope t300) [] [] (He.fAd K ("_law_nth", none)) fd
  f301 : ∃ fd, FunD K "_law_whole" "_law_whole" (defArgs t301) (defBody t301) (defScope t301) [] [] (He.fAd K ("_law_whole", none)) fd
  f302 : ∃ fd, FunD K "_law_gaps" "_law_gaps" (defArgs t302) (defBody t302) (defScope t302) [] [] (He.fAd K ("_law_gaps", none)) fd
  f303 : ∃ fd, FunD K "_law_number" "_law_number" (defArgs t303) (defBody t303) (defScope t303) [] [] (He.fAd K ("_law_number", none)) fd
  f304 : ∃ fd, FunD K "_law_pool" "_law_pool" (defArgs t304) (defBody t304) (defScope t304) [] [] (He.fAd K ("_law_pool", none)) fd
  f305 : ∃ fd, FunD K "_law_things" "_law_things" (defArgs t305) (defBody t305) (defScope t305) [] [] (He.fAd K ("_law_things", none)) fd
  f306 : ∃ fd, FunD K "_law_labels" "_law_labels" (defArgs t306) (defBody t306) (defScope t306) [] [] (He.fAd K ("_law_labels", none)) fd
  f307 : ∃ fd, FunD K "_law_torn" "_law_torn" (defArgs t307) (defBody t307) (defScope t307) [] [] (He.fAd K ("_law_torn", none)) fd
  f308 : ∃ fd, FunD K "_law_unlike" "_law_unlike" (defArgs t308) (defBody t308) (defScope t308) [] [] (He.fAd K ("_law_unlike", none)) fd
  f309 : ∃ fd, FunD K "_law_is_clash" "_law_is_clash" (defArgs t309) (defBody t309) (defScope t309) [] [] (He.fAd K ("_law_is_clash", none)) fd
  f310 : ∃ fd, FunD K "_law_worth" "_law_worth" (defArgs t310) (defBody t310) (defScope t310) [] [] (He.fAd K ("_law_worth", none)) fd
  f311 : ∃ fd, FunD K "_law_agrees" "_law_agrees" (defArgs t311) (defBody t311) (defScope t311) [] [] (He.fAd K ("_law_agrees", none)) fd
  f312 : ∃ fd, FunD K "_law_right" "_law_right" (defArgs t312) (defBody t312) (defScope t312) [] [] (He.fAd K ("_law_right", none)) fd
  f313 : ∃ fd, FunD K "law" "law" (defArgs t313) (defBody t313) (defScope t313) [] [] (He.fAd K ("law", none)) fd
  m35 : mg "values_in" = some (.ref (He.fAd K ("values_in", none)))
  m37 : mg "neighbours" = some (.ref (He.fAd K ("neighbours", none)))
  m38 : mg "chains_from" = some (.ref (He.fAd K ("chains_from", none)))
  m39 : mg "clash" = some (.ref (He.fAd K ("clash", none)))
  m40 : mg "fresh_beside" = some (.ref (He.fAd K ("fresh_beside", none)))
  m41 : mg "agreeing" = some (.ref (He.fAd K ("agreeing", none)))
  m300 : mg "_law_nth" = some (.ref (He.fAd K ("_law_nth", none)))
  m301 : mg "_law_whole" = some (.ref (He.fAd K ("_law_whole", none)))
  m302 : mg "_law_gaps" = some (.ref (He.fAd K ("_law_gaps", none)))
  m303 : mg "_law_number" = some (.ref (He.fAd K ("_law_number", none)))
  m304 : mg "_law_pool" = some (.ref (He.fAd K ("_law_pool", none)))
  m305 : mg "_law_things" = some (.ref (He.fAd K ("_law_things", none)))
  m306 : mg "_law_labels" = some (.ref (He.fAd K ("_law_labels", none)))
  m307 : mg "_law_torn" = some (.ref (He.fAd K ("_law_torn", none)))
  m308 : mg "_law_unlike" = some (.ref (He.fAd K ("_law_unlike", none)))
  m309 : mg "_law_is_clash" = some (.ref (He.fAd K ("_law_is_clash", none)))
  m310 : mg "_law_worth" = some (.ref (He.fAd K ("_law_worth", none)))
  m311 : mg "_law_agrees" = some (.ref (He.fAd K ("_law_agrees", none)))
  m312 : mg "_law_right" = some (.ref (He.fAd K ("_law_right", none)))
  m313 : mg "law" = some (.ref (He.fAd K ("law", none)))
theorem bi35 {K : PySem.W.Frag} {f : Addr} {fd : FuncData} (F : FunD K "values_in" "values_in" (defArgs t35) (defBody t35) (defScope t35) [] [] f fd) : Binds K fd ["cells"] [] := F.bindsN fun _ _ _ _ _ _ us hl => match us, hl with | [_], _ => rfl
theorem ok35 {P : Program} {w : World} {K : PySem.W.Frag} {mg : Str → Option Value} {base : Heap} {k wf n : Nat} {f : Addr} {fd : FuncData} (F : FunD K "values_in" "values_in" (defArgs t35) (defBody t35) (defScope t35) [] [] f fd) (G : GF P w (nm0 K) mg base k (pg.ct wf n)) :
    FnOk P w K mg base (L2.CX P w) (k + 2) f fd ["cells"] (spD (nm0 K) (pg.ct wf (n + 1)) 1 35) :=
  def_ok (nm := nm0 K) (Φ := pg.ct wf n) (Φ' := pg.ct wf (n + 1)) (fi := fi35) (N := N35) F sc35 (fun st ds => rfl) rfl rfl rfl fun cdv A outer s H E hr tk hp => body35 G cdv A outer s H E hr tk hp
theorem bi37 {K : PySem.W.Frag} {f : Addr} {fd : FuncData} (F : FunD K "neighbours" "neighbours" (defArgs t37) (defBody t37) (defScope t37) [] [] f fd) : Binds K fd ["assumed", "cell"] [] := F.bindsN fun _ _ _ _ _ _ us hl => match us, hl with | [_, _], _ => rfl
theorem ok37 {P : Program} {w : World} {K : PySem.W.Frag} {mg : Str → Option Value} {base : Heap} {k wf n : Nat} {f : Addr} {fd : FuncData} (F : FunD K "neighbours" "neighbours" (defArgs t37) (defBody t37) (defScope t37) [] [] f fd) (G : GF P w (nm0 K) mg base k (pg.ct wf n)) :
    FnOk P w K mg base (L2.CX P w) (k + 2) f fd ["assumed", "cell"] (spD (nm0 K) (pg.ct wf (n + 1)) 2 37) :=
  def_ok (nm := nm0 K) (Φ := pg.ct wf n) (Φ' := pg.ct wf (n + 1)) (fi := fi37) (N := N37) F sc37 (fun st ds => rfl) rfl rfl rfl fun cdv A outer s H E hr tk hp => body37 G cdv A outer s H E hr tk hp
theorem bi38 {K : PySem.W.Frag} {f : Addr} {fd : FuncData} (F : FunD K "chains_from" "chains_from" (defArgs t38) (defBody t38) (defScope t38) [] [] f fd) : Binds K fd ["assumed", "cell"] [] := F.bindsN fun _ _ _ _ _ _ us hl => match us, hl with | [_, _], _ => rfl
theorem ok38 {P : Program} {w : World} {K : PySem.W.Frag} {mg : Str → Option Value} {base : Heap} {k wf n : Nat} {f : Addr} {fd : FuncData} (F : FunD K "chains_from" "chains_from" (defArgs t38) (defBody t38) (defScope t38) [] [] f fd) (G : GF P w (nm0 K) mg base k (pg.ct wf n)) :
    FnOk P w K mg base (L2.CX P w) (k + 2) f fd ["assumed", "cell"] (spD (nm0 K) (pg.ct wf (n + 1)) 2 38) :=
  def_ok (nm := nm0 K) (Φ := pg.ct wf n) (Φ' := pg.ct wf (n + 1)) (fi := fi38) (N := N38) F sc38 (fun st ds => rfl) rfl rfl rfl fun cdv A outer s H E hr tk hp => body38 G cdv A outer s H E hr tk hp
theorem bi39 {K : PySem.W.Frag} {f : Addr} {fd : FuncData} (F : FunD K "clash" "clash" (defArgs t39) (defBody t39) (defScope t39) [] [] f fd) : Binds K fd ["assumed"] [] := F.bindsN fun _ _ _ _ _ _ us hl => match us, hl with | [_], _ => rfl
theorem ok39 {P : Program} {w : World} {K : PySem.W.Frag} {mg : Str → Option Value} {base : Heap} {k wf n : Nat} {f : Addr} {fd : FuncData} (F : FunD K "clash" "clash" (defArgs t39) (defBody t39) (defScope t39) [] [] f fd) (G : GF P w (nm0 K) mg base k (pg.ct wf n)) :
    FnOk P w K mg base (L2.CX P w) (k + 2) f fd ["assumed"] (spD (nm0 K) (pg.ct wf (n + 1)) 1 39) :=
  def_ok (nm := nm0 K) (Φ := pg.ct wf n) (Φ' := pg.ct wf (n + 1)) (fi := fi39) (N := N39) F sc39 (fun st ds => rfl) rfl rfl rfl fun cdv A outer s H E hr tk hp => body39 G cdv A outer s H E hr tk hp
theorem bi40 {K : PySem.W.Frag} {f : Addr} {fd : FuncData} (F : FunD K "fresh_beside" "fresh_beside" (defArgs t40) (defBody t40) (defScope t40) [] [] f fd) : Binds K fd ["values"] [] := F.bindsN fun _ _ _ _ _ _ us hl => match us, hl with | [_], _ => rfl
theorem ok40 {P : Program} {w : World} {K : PySem.W.Frag} {mg : Str → Option Value} {base : Heap} {k wf n : Nat} {f : Addr} {fd : FuncData} (F : FunD K "fresh_beside" "fresh_beside" (defArgs t40) (defBody t40) (defScope t40) [] [] f fd) (G : GF P w (nm0 K) mg base k (pg.ct wf n)) :
    FnOk P w K mg base (L2.CX P w) (k + 2) f fd ["values"] (spD (nm0 K) (pg.ct wf (n + 1)) 1 40) :=
  def_ok (nm := nm0 K) (Φ := pg.ct wf n) (Φ' := pg.ct wf (n + 1)) (fi := fi40) (N := N40) F sc40 (fun st ds => rfl) rfl rfl rfl fun cdv A outer s H E hr tk hp => body40 G cdv A outer s H E hr tk hp
theorem bi41 {K : PySem.W.Frag} {f : Addr} {fd : FuncData} (F : FunD K "agreeing" "agreeing" (defArgs t41) (defBody t41) (defScope t41) [] [] f fd) : Binds K fd ["assumed"] [] := F.bindsN fun _ _ _ _ _ _ us hl => match us, hl with | [_], _ => rfl
theorem ok41 {P : Program} {w : World} {K : PySem.W.Frag} {mg : Str → Option Value} {base : Heap} {k wf n : Nat} {f : Addr} {fd : FuncData} (F : FunD K "agreeing" "agreeing" (defArgs t41) (defBody t41) (defScope t41) [] [] f fd) (G : GF P w (nm0 K) mg base k (pg.ct wf n)) :
    FnOk P w K mg base (L2.CX P w) (k + 2) f fd ["assumed"] (spD (nm0 K) (pg.ct wf (n + 1)) 1 41) :=
  def_ok (nm := nm0 K) (Φ := pg.ct wf n) (Φ' := pg.ct wf (n + 1)) (fi := fi41) (N := N41) F sc41 (fun st ds => rfl) rfl rfl rfl fun cdv A outer s H E hr tk hp => body41 G cdv A outer s H E hr tk hp
theorem bi300 {K : PySem.W.Frag} {f : Addr} {fd : FuncData} (F : FunD K "_law_nth" "_law_nth" (defArgs t300) (defBody t300) (defScope t300) [] [] f fd) : Binds K fd ["_law_script", "_law_k"] [] := F.bindsN fun _ _ _ _ _ _ us hl => match us, hl with | [_, _], _ => rfl
theorem ok300 {P : Program} {w : World} {K : PySem.W.Frag} {mg : Str → Option Value} {base : Heap} {k wf n : Nat} {f : Addr} {fd : FuncData} (F : FunD K "_law_nth" "_law_nth" (defArgs t300) (defBody t300) (defScope t300) [] [] f fd) (G : GF P w (nm0 K) mg base k (pg.ct wf n)) :
    FnOk P w K mg base (L2.CX P w) (k + 2) f fd ["_law_script", "_law_k"] (spD (nm0 K) (pg.ct wf (n + 1)) 2 300) :=
  def_ok (nm := nm0 K) (Φ := pg.ct wf n) (Φ' := pg.ct wf (n + 1)) (fi := fi300) (N := N300) F sc300 (fun st ds => rfl) rfl rfl rfl fun cdv A outer s H E hr tk hp => body300 G cdv A outer s H E hr tk hp
theorem bi301 {K : PySem.W.Frag} {f : Addr} {fd : FuncData} (F : FunD K "_law_whole" "_law_whole" (defArgs t301) (defBody t301) (defScope t301) [] [] f fd) : Binds K fd ["_law_found"] [] := F.bindsN fun _ _ _ _ _ _ us hl => match us, hl with | [_], _ => rfl
theorem ok301 {P : Program} {w : World} {K : PySem.W.Frag} {mg : Str → Option Value} {base : Heap} {k wf n : Nat} {f : Addr} {fd : FuncData} (F : FunD K "_law_whole" "_law_whole" (defArgs t301) (defBody t301) (defScope t301) [] [] f fd) (G : GF P w (nm0 K) mg base k (pg.ct wf n)) :
    FnOk P w K mg base (L2.CX P w) (k + 2) f fd ["_law_found"] (spD (nm0 K) (pg.ct wf (n + 1)) 1 301) :=
  def_ok (nm := nm0 K) (Φ := pg.ct wf n) (Φ' := pg.ct wf (n + 1)) (fi := fi301) (N := N301) F sc301 (fun st ds => rfl) rfl rfl rfl fun cdv A outer s H E hr tk hp => body301 G cdv A outer s H E hr tk hp
theorem bi302 {K : PySem.W.Frag} {f : Addr} {fd : FuncData} (F : FunD K "_law_gaps" "_law_gaps" (defArgs t302) (defBody t302) (defScope t302) [] [] f fd) : Binds K fd ["_law_cell", "_law_many"] [] := F.bindsN fun _ _ _ _ _ _ us hl => match us, hl with | [_, _], _ => rfl
theorem ok302 {P : Program} {w : World} {K : PySem.W.Frag} {mg : Str → Option Value} {base : Heap} {k wf n : Nat} {f : Addr} {fd : FuncData} (F : FunD K "_law_gaps" "_law_gaps" (defArgs t302) (defBody t302) (defScope t302) [] [] f fd) (G : GF P w (nm0 K) mg base k (pg.ct wf n)) :
    FnOk P w K mg base (L2.CX P w) (k + 2) f fd ["_law_cell", "_law_many"] (spD (nm0 K) (pg.ct wf (n + 1)) 2 302) :=
  def_ok (nm := nm0 K) (Φ := pg.ct wf n) (Φ' := pg.ct wf (n + 1)) (fi := fi302) (N := N302) F sc302 (fun st ds => rfl) rfl rfl rfl fun cdv A outer s H E hr tk hp => body302 G cdv A outer s H E hr tk hp
theorem bi303 {K : PySem.W.Frag} {f : Addr} {fd : FuncData} (F : FunD K "_law_number" "_law_number" (defArgs t303) (defBody t303) (defScope t303) [] [] f fd) : Binds K fd ["_law_cell"] [] := F.bindsN fun _ _ _ _ _ _ us hl => match us, hl with | [_], _ => rfl
theorem ok303 {P : Program} {w : World} {K : PySem.W.Frag} {mg : Str → Option Value} {base : Heap} {k wf n : Nat} {f : Addr} {fd : FuncData} (F : FunD K "_law_number" "_law_number" (defArgs t303) (defBody t303) (defScope t303) [] [] f fd) (G : GF P w (nm0 K) mg base k (pg.ct wf n)) :
    FnOk P w K mg base (L2.CX P w) (k + 2) f fd ["_law_cell"] (spD (nm0 K) (pg.ct wf (n + 1)) 1 303) :=
  def_ok (nm := nm0 K) (Φ := pg.ct wf n) (Φ' := pg.ct wf (n + 1)) (fi := fi303) (N := N303) F sc303 (fun st ds => rfl) rfl rfl rfl fun cdv A outer s H E hr tk hp => body303 G cdv A outer s H E hr tk hp
theorem bi304 {K : PySem.W.Frag} {f : Addr} {fd : FuncData} (F : FunD K "_law_pool" "_law_pool" (defArgs t304) (defBody t304) (defScope t304) [] [] f fd) : Binds K fd ["_law_script"] [] := F.bindsN fun _ _ _ _ _ _ us hl => match us, hl with | [_], _ => rfl
theorem ok304 {P : Program} {w : World} {K : PySem.W.Frag} {mg : Str → Option Value} {base : Heap} {k wf n : Nat} {f : Addr} {fd : FuncData} (F : FunD K "_law_pool" "_law_pool" (defArgs t304) (defBody t304) (defScope t304) [] [] f fd) (G : GF P w (nm0 K) mg base k (pg.ct wf n)) :
    FnOk P w K mg base (L2.CX P w) (k + 2) f fd ["_law_script"] (spD (nm0 K) (pg.ct wf (n + 1)) 1 304) :=
  def_ok (nm := nm0 K) (Φ := pg.ct wf n) (Φ' := pg.ct wf (n + 1)) (fi := fi304) (N := N304) F sc304 (fun st ds => rfl) rfl rfl rfl fun cdv A outer s H E hr tk hp => body304 G cdv A outer s H E hr tk hp
theorem bi305 {K : PySem.W.Frag} {f : Addr} {fd : FuncData} (F : FunD K "_law_things" "_law_things" (defArgs t305) (defBody t305) (defScope t305) [] [] f fd) : Binds K fd ["_law_cells", "_law_pool_here"] [] := F.bindsN fun _ _ _ _ _ _ us hl => match us, hl with | [_, _], _ => rfl
theorem ok305 {P : Program} {w : World} {K : PySem.W.Frag} {mg : Str → Option Value} {base : Heap} {k wf n : Nat} {f : Addr} {fd : FuncData} (F : FunD K "_law_things" "_law_things" (defArgs t305) (defBody t305) (defScope t305) [] [] f fd) (G : GF P w (nm0 K) mg base k (pg.ct wf n)) :
    FnOk P w K mg base (L2.CX P w) (k + 2) f fd ["_law_cells", "_law_pool_here"] (spD (nm0 K) (pg.ct wf (n + 1)) 2 305) :=
  def_ok (nm := nm0 K) (Φ := pg.ct wf n) (Φ' := pg.ct wf (n + 1)) (fi := fi305) (N := N305) F sc305 (fun st ds => rfl) rfl rfl rfl fun cdv A outer s H E hr tk hp => body305 G cdv A outer s H E hr tk hp
theorem bi306 {K : PySem.W.Frag} {f : Addr} {fd : FuncData} (F : FunD K "_law_labels" "_law_labels" (defArgs t306) (defBody t306) (defScope t306) [] [] f fd) : Binds K fd ["_law_pool_here", "_law_things_here"] [] := F.bindsN fun _ _ _ _ _ _ us hl => match us, hl with | [_, _], _ => rfl
theorem ok306 {P : Program} {w : World} {K : PySem.W.Frag} {mg : Str → Option Value} {base : Heap} {k wf n : Nat} {f : Addr} {fd : FuncData} (F : FunD K "_law_labels" "_law_labels" (defArgs t306) (defBody t306) (defScope t306) [] [] f fd) (G : GF P w (nm0 K) mg base k (pg.ct wf n)) :
    FnOk P w K mg base (L2.CX P w) (k + 2) f fd ["_law_pool_here", "_law_things_here"] (spD (nm0 K) (pg.ct wf (n + 1)) 2 306) :=
  def_ok (nm := nm0 K) (Φ := pg.ct wf n) (Φ' := pg.ct wf (n + 1)) (fi := fi306) (N := N306) F sc306 (fun st ds => rfl) rfl rfl rfl fun cdv A outer s H E hr tk hp => body306 G cdv A outer s H E hr tk hp
theorem bi307 {K : PySem.W.Frag} {f : Addr} {fd : FuncData} (F : FunD K "_law_torn" "_law_torn" (defArgs t307) (defBody t307) (defScope t307) [] [] f fd) : Binds K fd ["_law_pool_here", "_law_things_here"] [] := F.bindsN fun _ _ _ _ _ _ us hl => match us, hl with | [_, _], _ => rfl
theorem ok307 {P : Program} {w : World} {K : PySem.W.Frag} {mg : Str → Option Value} {base : Heap} {k wf n : Nat} {f : Addr} {fd : FuncData} (F : FunD K "_law_torn" "_law_torn" (defArgs t307) (defBody t307) (defScope t307) [] [] f fd) (G : GF P w (nm0 K) mg base k (pg.ct wf n)) :
    FnOk P w K mg base (L2.CX P w) (k + 2) f fd ["_law_pool_here", "_law_things_here"] (spD (nm0 K) (pg.ct wf (n + 1)) 2 307) :=
  def_ok (nm := nm0 K) (Φ := pg.ct wf n) (Φ' := pg.ct wf (n + 1)) (fi := fi307) (N := N307) F sc307 (fun st ds => rfl) rfl rfl rfl fun cdv A outer s H E hr tk hp => body307 G cdv A outer s H E hr tk hp
theorem bi308 {K : PySem.W.Frag} {f : Addr} {fd : FuncData} (F : FunD K "_law_unlike" "_law_unlike" (defArgs t308) (defBody t308) (defScope t308) [] [] f fd) : Binds K fd ["_law_things_here", "_law_one", "_law_other"] [] := F.bindsN fun _ _ _ _ _ _ us hl => match us, hl with | [_, _, _], _ => rfl
theorem ok308 {P : Program} {w : World} {K : PySem.W.Frag} {mg : Str → Option Value} {base : Heap} {k wf n : Nat} {f : Addr} {fd : FuncData} (F : FunD K "_law_unlike" "_law_unlike" (defArgs t308) (defBody t308) (defScope t308) [] [] f fd) (G : GF P w (nm0 K) mg base k (pg.ct wf n)) :
    FnOk P w K mg base (L2.CX P w) (k + 2) f fd ["_law_things_here", "_law_one", "_law_other"] (spD (nm0 K) (pg.ct wf (n + 1)) 3 308) :=
  def_ok (nm := nm0 K) (Φ := pg.ct wf n) (Φ' := pg.ct wf (n + 1)) (fi := fi308) (N := N308) F sc308 (fun st ds => rfl) rfl rfl rfl fun cdv A outer s H E hr tk hp => body308 G cdv A outer s H E hr tk hp
theorem bi309 {K : PySem.W.Frag} {f : Addr} {fd : FuncData} (F : FunD K "_law_is_clash" "_law_is_clash" (defArgs t309) (defBody t309) (defScope t309) [] [] f fd) : Binds K fd ["_law_found", "_law_things_here"] [] := F.bindsN fun _ _ _ _ _ _ us hl => match us, hl with | [_, _], _ => rfl
theorem ok309 {P : Program} {w : World} {K : PySem.W.Frag} {mg : Str → Option Value} {base : Heap} {k wf n : Nat} {f : Addr} {fd : FuncData} (F : FunD K "_law_is_clash" "_law_is_clash" (defArgs t309) (defBody t309) (defScope t309) [] [] f fd) (G : GF P w (nm0 K) mg base k (pg.ct wf n)) :
    FnOk P w K mg base (L2.CX P w) (k + 2) f fd ["_law_found", "_law_things_here"] (spD (nm0 K) (pg.ct wf (n + 1)) 2 309) :=
  def_ok (nm := nm0 K) (Φ := pg.ct wf n) (Φ' := pg.ct wf (n + 1)) (fi := fi309) (N := N309) F sc309 (fun st ds => rfl) rfl rfl rfl fun cdv A outer s H E hr tk hp => body309 G cdv A outer s H E hr tk hp
theorem bi310 {K : PySem.W.Frag} {f : Addr} {fd : FuncData} (F : FunD K "_law_worth" "_law_worth" (defArgs t310) (defBody t310) (defScope t310) [] [] f fd) : Binds K fd ["_law_cell", "_law_filling"] [] := F.bindsN fun _ _ _ _ _ _ us hl => match us, hl with | [_, _], _ => rfl
theorem ok310 {P : Program} {w : World} {K : PySem.W.Frag} {mg : Str → Option Value} {base : Heap} {k wf n : Nat} {f : Addr} {fd : FuncData} (F : FunD K "_law_worth" "_law_worth" (defArgs t310) (defBody t310) (defScope t310) [] [] f fd) (G : GF P w (nm0 K) mg base k (pg.ct wf n)) :
    FnOk P w K mg base (L2.CX P w) (k + 2) f fd ["_law_cell", "_law_filling"] (spD (nm0 K) (pg.ct wf (n + 1)) 2 310) :=
  def_ok (nm := nm0 K) (Φ := pg.ct wf n) (Φ' := pg.ct wf (n + 1)) (fi := fi310) (N := N310) F sc310 (fun st ds => rfl) rfl rfl rfl fun cdv A outer s H E hr tk hp => body310 G cdv A outer s H E hr tk hp
theorem bi311 {K : PySem.W.Frag} {f : Addr} {fd : FuncData} (F : FunD K "_law_agrees" "_law_agrees" (defArgs t311) (defBody t311) (defScope t311) [] [] f fd) : Binds K fd ["_law_found", "_law_things_here"] [] := F.bindsN fun _ _ _ _ _ _ us hl => match us, hl with | [_, _], _ => rfl
theorem ok311 {P : Program} {w : World} {K : PySem.W.Frag} {mg : Str → Option Value} {base : Heap} {k wf n : Nat} {f : Addr} {fd : FuncData} (F : FunD K "_law_agrees" "_law_agrees" (defArgs t311) (defBody t311) (defScope t311) [] [] f fd) (G : GF P w (nm0 K) mg base k (pg.ct wf n)) :
    FnOk P w K mg base (L2.CX P w) (k + 2) f fd ["_law_found", "_law_things_here"] (spD (nm0 K) (pg.ct wf (n + 1)) 2 311) :=
  def_ok (nm := nm0 K) (Φ := pg.ct wf n) (Φ' := pg.ct wf (n + 1)) (fi := fi311) (N := N311) F sc311 (fun st ds => rfl) rfl rfl rfl fun cdv A outer s H E hr tk hp => body311 G cdv A outer s H E hr tk hp
theorem bi312 {K : PySem.W.Frag} {f : Addr} {fd : FuncData} (F : FunD K "_law_right" "_law_right" (defArgs t312) (defBody t312) (defScope t312) [] [] f fd) : Binds K fd ["_law_handed", "_law_things_here", "_law_torn_here"] [] := F.bindsN fun _ _ _ _ _ _ us hl => match us, hl with | [_, _, _], _ => rfl
theorem ok312 {P : Program} {w : World} {K : PySem.W.Frag} {mg : Str → Option Value} {base : Heap} {k wf n : Nat} {f : Addr} {fd : FuncData} (F : FunD K "_law_right" "_law_right" (defArgs t312) (defBody t312) (defScope t312) [] [] f fd) (G : GF P w (nm0 K) mg base k (pg.ct wf n)) :
    FnOk P w K mg base (L2.CX P w) (k + 2) f fd ["_law_handed", "_law_things_here", "_law_torn_here"] (spD (nm0 K) (pg.ct wf (n + 1)) 3 312) :=
  def_ok (nm := nm0 K) (Φ := pg.ct wf n) (Φ' := pg.ct wf (n + 1)) (fi := fi312) (N := N312) F sc312 (fun st ds => rfl) rfl rfl rfl fun cdv A outer s H E hr tk hp => body312 G cdv A outer s H E hr tk hp
theorem ok313 {P : Program} {w : World} {K : PySem.W.Frag} {mg : Str → Option Value} {base : Heap} {k wf n : Nat} {f : Addr} {fd : FuncData} (F : FunD K "law" "law" (defArgs t313) (defBody t313) (defScope t313) [] [] f fd) (G : GF P w (nm0 K) mg base k (pg.ct wf n)) :
    FnOk P w K mg base (L2.CX P w) (k + 2) f fd ["_law_script"] (spD (nm0 K) (pg.ct wf (n + 1)) 1 313) :=
  def_ok (nm := nm0 K) (Φ := pg.ct wf n) (Φ' := pg.ct wf (n + 1)) (fi := fi313) (N := N313) F sc313 (fun st ds => rfl) rfl rfl rfl fun cdv A outer s H E hr tk hp => body313 G cdv A outer s H E hr tk hp
theorem fitT : T.fit = true := by decide +kernel
theorem gf {P : Program} {w : World} {K : PySem.W.Frag} {mg : Str → Option Value} {base : Heap} {wf : Nat} (X : FX K mg) : ∀ n : Nat, GF P w (nm0 K) mg base (2 * n + 2) (pg.ct wf n)
  | 0 =>
    { n_all := X.n_all
      n_any := X.n_any
      n_bool := X.n_bool
      n_dict := X.n_dict
      n_enumerate := X.n_enumerate
      n_int := X.n_int
      n_isinstance := X.n_isinstance
      n_len := X.n_len
      n_list := X.n_list
      n_range := X.n_range
      n_set := X.n_set
      n_sorted := X.n_sorted
      n_str := X.n_str
      n_sum := X.n_sum
      n_tuple := X.n_tuple
      n_zip := X.n_zip
      CK := clsK_of X.O fitT rfl
      c__law_agrees := (let ⟨_, F⟩ := X.f311; cal_stuck (fun _ _ => rfl) rfl X.m311 F.kp (bi311 F))
      c__law_gaps := (let ⟨_, F⟩ := X.f302; cal_stuck (fun _ _ => rfl) rfl X.m302 F.kp (bi302 F))
      c__law_is_clash := (let ⟨_, F⟩ := X.f309; cal_stuck (fun _ _ => rfl) rfl X.m309 F.kp (bi309 F))
      c__law_labels := (let ⟨_, F⟩ := X.f306; cal_stuck (fun _ _ => rfl) rfl X.m306 F.kp (bi306 F))
      c__law_nth := (let ⟨_, F⟩ := X.f300; cal_stuck (fun _ _ => rfl) rfl X.m300 F.kp (bi300 F))
      c__law_number := (let ⟨_, F⟩ := X.f303; cal_stuck (fun _ _ => rfl) rfl X.m303 F.kp (bi303 F))
      c__law_pool := (let ⟨_, F⟩ := X.f304; cal_stuck (fun _ _ => rfl) rfl X.m304 F.kp (bi304 F))
      c__law_right := (let ⟨_, F⟩ := X.f312; cal_stuck (fun _ _ => rfl) rfl X.m312 F.kp (bi312 F))
      c__law_things := (let ⟨_, F⟩ := X.f305; cal_stuck (fun _ _ => rfl) rfl X.m305 F.kp (bi305 F))
      c__law_torn := (let ⟨_, F⟩ := X.f307; cal_stuck (fun _ _ => rfl) rfl X.m307 F.kp (bi307 F))
      c__law_unlike := (let ⟨_, F⟩ := X.f308; cal_stuck (fun _ _ => rfl) rfl X.m308 F.kp (bi308 F))
      c__law_whole := (let ⟨_, F⟩ := X.f301; cal_stuck (fun _ _ => rfl) rfl X.m301 F.kp (bi301 F))
      c__law_worth := (let ⟨_, F⟩ := X.f310; cal_stuck (fun _ _ => rfl) rfl X.m310 F.kp (bi310 F))
      c_agreeing := (let ⟨_, F⟩ := X.f41; cal_stuck (fun _ _ => rfl) rfl X.m41 F.kp (bi41 F))
      c_chains_from := (let ⟨_, F⟩ := X.f38; cal_stuck (fun _ _ => rfl) rfl X.m38 F.kp (bi38 F))
      c_clash := (let ⟨_, F⟩ := X.f39; cal_stuck (fun _ _ => rfl) rfl X.m39 F.kp (bi39 F))
      c_fresh_beside := (let ⟨_, F⟩ := X.f40; cal_stuck (fun _ _ => rfl) rfl X.m40 F.kp (bi40 F))
      c_neighbours := (let ⟨_, F⟩ := X.f37; cal_stuck (fun _ _ => rfl) rfl X.m37 F.kp (bi37 F))
      c_values_in := (let ⟨_, F⟩ := X.f35; cal_stuck (fun _ _ => rfl) rfl X.m35 F.kp (bi35 F)) }
  | n + 1 => have G := gf X n
    { n_all := X.n_all
      n_any := X.n_any
      n_bool := X.n_bool
      n_dict := X.n_dict
      n_enumerate := X.n_enumerate
      n_int := X.n_int
      n_isinstance := X.n_isinstance
      n_len := X.n_len
      n_list := X.n_list
      n_range := X.n_range
      n_set := X.n_set
      n_sorted := X.n_sorted
      n_str := X.n_str
      n_sum := X.n_sum
      n_tuple := X.n_tuple
      n_zip := X.n_zip
      CK := clsK_of X.O fitT rfl
      c__law_agrees := (let ⟨_, F⟩ := X.f311; ⟨_, _, _, ok311 F G, X.m311, F.kp, bi311 F⟩)
      c__law_gaps := (let ⟨_, F⟩ := X.f302; ⟨_, _, _, ok302 F G, X.m302, F.kp, bi302 F⟩)
      c__law_is_clash := (let ⟨_, F⟩ := X.f309; ⟨_, _, _, ok309 F G, X.m309, F.kp, bi309 F⟩)
      c__law_labels := (let ⟨_, F⟩ := X.f306; ⟨_, _, _, ok306 F G, X.m306, F.kp, bi306 F⟩)
      c__law_nth := (let ⟨_, F⟩ := X.f300; ⟨_, _, _, ok300 F G, X.m300, F.kp, bi300 F⟩)
      c__law_number := (let ⟨_, F⟩ := X.f303; ⟨_, _, _, ok303 F G, X.m303, F.kp, bi303 F⟩)
      c__law_pool := (let ⟨_, F⟩ := X.f304; ⟨_, _, _, ok304 F G, X.m304, F.kp, bi304 F⟩)
      c__law_right := (let ⟨_, F⟩ := X.f312; ⟨_, _, _, ok312 F G, X.m312, F.kp, bi312 F⟩)
      c__law_things := (let ⟨_, F⟩ := X.f305; ⟨_, _, _, ok305 F G, X.m305, F.kp, bi305 F⟩)
      c__law_torn := (let ⟨_, F⟩ := X.f307; ⟨_, _, _, ok307 F G, X.m307, F.kp, bi307 F⟩)
      c__law_unlike := (let ⟨_, F⟩ := X.f308; ⟨_, _, _, ok308 F G, X.m308, F.kp, bi308 F⟩)
      c__law_whole := (let ⟨_, F⟩ := X.f301; ⟨_, _, _, ok301 F G, X.m301, F.kp, bi301 F⟩)
      c__law_worth := (let ⟨_, F⟩ := X.f310; ⟨_, _, _, ok310 F G, X.m310, F.kp, bi310 F⟩)
      c_agreeing := (let ⟨_, F⟩ := X.f41; ⟨_, _, _, ok41 F G, X.m41, F.kp, bi41 F⟩)
      c_chains_from := (let ⟨_, F⟩ := X.f38; ⟨_, _, _, ok38 F G, X.m38, F.kp, bi38 F⟩)
      c_clash := (let ⟨_, F⟩ := X.f39; ⟨_, _, _, ok39 F G, X.m39, F.kp, bi39 F⟩)
      c_fresh_beside := (let ⟨_, F⟩ := X.f40; ⟨_, _, _, ok40 F G, X.m40, F.kp, bi40 F⟩)
      c_neighbours := (let ⟨_, F⟩ := X.f37; ⟨_, _, _, ok37 F G, X.m37, F.kp, bi37 F⟩)
      c_values_in := (let ⟨_, F⟩ := X.f35; ⟨_, _, _, ok35 F G, X.m35, F.kp, bi35 F⟩) }
def mkD (p : Str × Option Str) (x q : Str) (t : Stmt) : He.DefD := ⟨p, x, q, defArgs t, defBody t, defScope t, [], []⟩
def fn_0 : List He.DefD := [mkD ("values_in", none) "values_in" "values_in" t35, mkD ("neighbours", none) "neighbours" "neighbours" t37, mkD ("chains_from", none) "chains_from" "chains_from" t38, mkD ("clash", none) "clash" "clash" t39, mkD ("fresh_beside", none) "fresh_beside" "fresh_beside" t40, mkD ("agreeing", none) "agreeing" "agreeing" t41, mkD ("_law_nth", none) "_law_nth" "_law_nth" t300, mkD ("_law_whole", none) "_law_whole" "_law_whole" t301, mkD ("_law_gaps", none) "_law_gaps" "_law_gaps" t302, mkD ("_law_number", none) "_law_number" "_law_number" t303, mkD ("_law_pool", none) "_law_pool" "_law_pool" t304, mkD ("_law_things", none) "_law_things" "_law_things" t305, mkD ("_law_labels", none) "_law_labels" "_law_labels" t306, mkD ("_law_torn", none) "_law_torn" "_law_torn" t307, mkD ("_law_unlike", none) "_law_unlike" "_law_unlike" t308, mkD ("_law_is_clash", none) "_law_is_clash" "_law_is_clash" t309, mkD ("_law_worth", none) "_law_worth" "_law_worth" t310, mkD ("_law_agrees", none) "_law_agrees" "_law_agrees" t311, mkD ("_law_right", none) "_law_right" "_law_right" t312, mkD ("law", none) "law" "law" t313]
def fns : List (List He.DefD) := [fn_0]
def fn : List He.DefD := fns.flatten
def fa_0 : List He.Fa := [.glo "values_in", .glo "neighbours", .glo "chains_from", .glo "clash", .glo "fresh_beside", .glo "agreeing", .glo "_law_nth", .glo "_law_whole", .glo "_law_gaps", .glo "_law_number", .glo "_law_pool", .glo "_law_things", .glo "_law_labels", .glo "_law_torn", .glo "_law_unlike", .glo "_law_is_clash", .glo "_law_worth", .glo "_law_agrees", .glo "_law_right", .glo "law", .free "all", .free "any", .free "bool", .free "dict", .free "enumerate", .free "int", .free "isinstance", .free "len", .free "list", .free "range", .free "set", .free "sorted", .free "str", .free "sum", .free "tuple", .free "zip"]
def fas : List (List He.Fa) := [fa_0]
def fa : List He.Fa := fas.flatten
abbrev R : PySem.W.OpenRow := PySem.W.OpenLaw.row PySem.Challenge.rw_maybetables_k21_clash_or_agreeing
abbrev hk : PySem.W.Hook := hookM 5 T fa fn
def ob (s : PySem.W.SharedT) : AlM := obsMG 5 T fa fn (HandSHeadRun.getT s)
theorem ob_eq (s : PySem.W.SharedT) : ob s = hk.obs s.abs := obsMG_eq 5 T fa fn (HandSHeadRun.getT_eq s)
def loose : List Str := (["values_in", "neighbours", "chains_from", "clash", "fresh_beside", "agreeing", "_law_nth", "_law_whole", "_law_gaps", "_law_number", "_law_pool", "_law_things", "_law_labels", "_law_torn", "_law_unlike", "_law_is_clash", "_law_worth", "_law_agrees", "_law_right"] : List Str)
open PySem PySem.W PySem.Calls PyProof.Rows HandSHeadRun in
noncomputable abbrev EnD (w : World) (os : OsState) : Option PySem.W.SharedT := HandSHeadRun.endF (HandSHeadRun.stepQ (HandSHeadRun.denQ HandSHeadRun.tabQ) R.prog w) 6000 R.prog w os
open PySem PySem.W PySem.Calls PyProof.Rows HandSHeadRun in
theorem rq (w : World) (os : OsState) : (EnD w os).map (fun s => (HandSHeadRun.looksF R.prog (boot_heap w.params) s.abs, HandSHeadRun.seenQ (PySem.W.view R.prog [21]) loose (importedModules R.prog.main.body) (fun s => xlAt (PySem.W.view R.prog [21]) [] s && recOk R.toRowW.records s) s.abs)) = some (true, openGood (PySem.W.view R.prog [21]) loose) := by kernel_rfl
theorem rt (w : World) (os : OsState) : (EnD w os).map (fun s => T.ok (KDn 5 s)) = some true := by kernel_rfl
theorem ra_0 (w : World) (os : OsState) : (EnD w os).map (fun s => fa_0.all fun f => f.ok (KDn 5 s)) = some true := by kernel_rfl
theorem rd_0 (w : World) (os : OsState) : (EnD w os).map (fun s => (fn_0.all (fun d => d.ok (KDn 5 s)), fn_0.map fun d => He.fnW (KDn 5 s) d.at_)) = some (true, fn_0.map He.DefD.val) := by kernel_rfl
theorem run (w : World) : HandSHeadRun.RunEq R (PySem.W.view R.prog [21]) hk ob 6000 loose w := fun os => pair_of (rq w os) (ob_of (rt w os) ⟨ra_0 w os, trivial⟩ ⟨rd_0 w os, trivial⟩)
theorem fx {K : PySem.W.Frag} {h : Heap} {mg : Str → Option Value} (X : K.In h) (G : h.Ns mainGlobals mg) (c : SaysM T fa fn K) : FX K mg where
  O := c.tab
  n_all := He.free_ok X G (c.rest.fact 20 (f := .free "all") rfl)
  n_any := He.free_ok X G (c.rest.fact 21 (f := .free "any") rfl)
  n_bool := He.free_ok X G (c.rest.fact 22 (f := .free "bool") rfl)
  n_dict := He.free_ok X G (c.rest.fact 23 (f := .free "dict") rfl)
  n_enumerate := He.free_ok X G (c.rest.fact 24 (f := .free "enumerate") rfl)
  n_int := He.free_ok X G (c.rest.fact 25 (f := .free "int") rfl)
  n_isinstance := He.free_ok X G (c.rest.fact 26 (f := .free "isinstance") rfl)
  n_len := He.free_ok X G (c.rest.fact 27 (f := .free "len") rfl)
  n_list := He.free_ok X G (c.rest.fact 28 (f := .free "list") rfl)
  n_range := He.free_ok X G (c.rest.fact 29 (f := .free "range") rfl)
  n_set := He.free_ok X G (c.rest.fact 30 (f := .free "set") rfl)
  n_sorted := He.free_ok X G (c.rest.fact 31 (f := .free "sorted") rfl)
  n_str := He.free_ok X G (c.rest.fact 32 (f := .free "str") rfl)
  n_sum := He.free_ok X G (c.rest.fact 33 (f := .free "sum") rfl)
  n_tuple := He.free_ok X G (c.rest.fact 34 (f := .free "tuple") rfl)
  n_zip := He.free_ok X G (c.rest.fact 35 (f := .free "zip") rfl)
  f35 := c.rest.def_ 0 (d := mkD ("values_in", none) "values_in" "values_in" t35) rfl
  f37 := c.rest.def_ 1 (d := mkD ("neighbours", none) "neighbours" "neighbours" t37) rfl
  f38 := c.rest.def_ 2 (d := mkD ("chains_from", none) "chains_from" "chains_from" t38) rfl
  f39 := c.rest.def_ 3 (d := mkD ("clash", none) "clash" "clash" t39) rfl
  f40 := c.rest.def_ 4 (d := mkD ("fresh_beside", none) "fresh_beside" "fresh_beside" t40) rfl
  f41 := c.rest.def_ 5 (d := mkD ("agreeing", none) "agreeing" "agreeing" t41) rfl
  f300 := c.rest.def_ 6 (d := mkD ("_law_nth", none) "_law_nth" "_law_nth" t300) rfl
  f301 := c.rest.def_ 7 (d := mkD ("_law_whole", none) "_law_whole" "_law_whole" t301) rfl
  f302 := c.rest.def_ 8 (d := mkD ("_law_gaps", none) "_law_gaps" "_law_gaps" t302) rfl
  f303 := c.rest.def_ 9 (d := mkD ("_law_number", none) "_law_number" "_law_number" t303) rfl
  f304 := c.rest.def_ 10 (d := mkD ("_law_pool", none) "_law_pool" "_law_pool" t304) rfl
  f305 := c.rest.def_ 11 (d := mkD ("_law_things", none) "_law_things" "_law_things" t305) rfl
  f306 := c.rest.def_ 12 (d := mkD ("_law_labels", none) "_law_labels" "_law_labels" t306) rfl
  f307 := c.rest.def_ 13 (d := mkD ("_law_torn", none) "_law_torn" "_law_torn" t307) rfl
  f308 := c.rest.def_ 14 (d := mkD ("_law_unlike", none) "_law_unlike" "_law_unlike" t308) rfl
  f309 := c.rest.def_ 15 (d := mkD ("_law_is_clash", none) "_law_is_clash" "_law_is_clash" t309) rfl
  f310 := c.rest.def_ 16 (d := mkD ("_law_worth", none) "_law_worth" "_law_worth" t310) rfl
  f311 := c.rest.def_ 17 (d := mkD ("_law_agrees", none) "_law_agrees" "_law_agrees" t311) rfl
  f312 := c.rest.def_ 18 (d := mkD ("_law_right", none) "_law_right" "_law_right" t312) rfl
  f313 := c.rest.def_ 19 (d := mkD ("law", none) "law" "law" t313) rfl
  m35 := He.glo_ok X G (c.rest.fact 0 (f := .glo "values_in") rfl)
  m37 := He.glo_ok X G (c.rest.fact 1 (f := .glo "neighbours") rfl)
  m38 := He.glo_ok X G (c.rest.fact 2 (f := .glo "chains_from") rfl)
  m39 := He.glo_ok X G (c.rest.fact 3 (f := .glo "clash") rfl)
  m40 := He.glo_ok X G (c.rest.fact 4 (f := .glo "fresh_beside") rfl)
  m41 := He.glo_ok X G (c.rest.fact 5 (f := .glo "agreeing") rfl)
  m300 := He.glo_ok X G (c.rest.fact 6 (f := .glo "_law_nth") rfl)
  m301 := He.glo_ok X G (c.rest.fact 7 (f := .glo "_law_whole") rfl)
  m302 := He.glo_ok X G (c.rest.fact 8 (f := .glo "_law_gaps") rfl)
  m303 := He.glo_ok X G (c.rest.fact 9 (f := .glo "_law_number") rfl)
  m304 := He.glo_ok X G (c.rest.fact 10 (f := .glo "_law_pool") rfl)
  m305 := He.glo_ok X G (c.rest.fact 11 (f := .glo "_law_things") rfl)
  m306 := He.glo_ok X G (c.rest.fact 12 (f := .glo "_law_labels") rfl)
  m307 := He.glo_ok X G (c.rest.fact 13 (f := .glo "_law_torn") rfl)
  m308 := He.glo_ok X G (c.rest.fact 14 (f := .glo "_law_unlike") rfl)
  m309 := He.glo_ok X G (c.rest.fact 15 (f := .glo "_law_is_clash") rfl)
  m310 := He.glo_ok X G (c.rest.fact 16 (f := .glo "_law_worth") rfl)
  m311 := He.glo_ok X G (c.rest.fact 17 (f := .glo "_law_agrees") rfl)
  m312 := He.glo_ok X G (c.rest.fact 18 (f := .glo "_law_right") rfl)
  m313 := He.glo_ok X G (c.rest.fact 19 (f := .glo "law") rfl)
end K21
namespace Pgm
open PySem MT
theorem intsD_map (vs : List Int) : intsD (vs.map D.int) = some vs := by
  induction vs with
  | nil => rfl
  | cons v vs ih => simp [intsD, ih]
theorem strsD_map (vs : List Str) : strsD (vs.map D.str) = some vs := by
  induction vs with
  | nil => rfl
  | cons v vs ih => simp [strsD, ih]
theorem sortD_ints (vs : List Int) : sortD (vs.map D.int) = some ⟨.lst ((sortI vs).map D.int), true⟩ := by
  unfold sortD
  rw [intsD_map]
theorem sortD_strs (vs : List Str) (h : vs.length < 64) : sortD (vs.map D.str) = some ⟨.lst ((sortS vs).map D.str), true⟩ := by
  cases vs with
  | nil => rfl
  | cons v r =>
    unfold sortD
    rw [show intsD ((v :: r).map D.str) = none from rfl, strsD_map]
    simp only [Option.bind_some]
    rw [if_pos h]
theorem big_of {i : Int} (h0 : 0 ≤ i) (h : i < 2 ^ 62) : big62 i = true := by
  unfold big62
  rw [Bool.and_eq_true]
  exact ⟨decide_eq_true (by omega), decide_eq_true h⟩
end Pgm
namespace Pgm
open PySem MT
theorem memD_ints (n : Int) (vs : List Int) : memD (.int n) (vs.map D.int) = some (decide (n ∈ vs)) := by
  unfold memD
  have h : (vs.map D.int).all flatD = true := by simp [flatD]
  rw [if_pos ⟨rfl, h⟩]
  congr 1
  rw [List.any_map]
  induction vs with
  | nil => rfl
  | cons v vs ih =>
    have h2 : (vs.map D.int).all flatD = true := by simp [flatD]
    rw [List.any_cons, ih h2]
    by_cases e : n = v
    · subst e; simp [eqG]
    · have : (v == n) = false := by simp; exact fun z => e z.symm
      simp [eqG, this, e]
theorem filt_dec (vs : List Int) (n : Int) (h : n ∈ vs) : (vs.filter fun x => decide (n + 1 ≤ x)).length < (vs.filter fun x => decide (n ≤ x)).length := by
  have mono : ∀ ws : List Int, (ws.filter fun x => decide (n + 1 ≤ x)).length ≤ (ws.filter fun x => decide (n ≤ x)).length := by
    intro ws
    induction ws with
    | nil => simp
    | cons w ws ih =>
      simp only [List.filter_cons]
      by_cases h1 : n + 1 ≤ w
      · rw [if_pos (by simpa using h1), if_pos (by simp; omega)]; simpa using ih
      · rw [if_neg (by simpa using h1)]
        split
        · simp; omega
        · exact ih
  induction vs with
  | nil => simp at h
  | cons w ws ih =>
    simp only [List.filter_cons]
    rcases List.mem_cons.mp h with rfl | h
    · rw [if_neg (by simp; omega), if_pos (by simp)]
      have := mono ws
      simp only [List.length_cons]; omega
    · have := ih h
      by_cases h1 : n + 1 ≤ w
      · rw [if_pos (by simpa using h1), if_pos (by simp; omega)]; simpa using this
      · rw [if_neg (by simpa using h1)]
        split
        · simp only [List.length_cons]; omega
        · exact this
end Pgm
namespace Pgm
open PySem MT
theorem eqD_int (a b : Int) : eqD (.int a) (.int b) = some (a == b) := rfl
theorem eqD_bl (a b : Bool) : eqD (.bl a) (.bl b) = some (a == b) := rfl
theorem cut_take {α : Type} (xs : List α) (k : Nat) : cutD xs none (some (k : Int)) = xs.take k := by
  have e : HT.sIx xs.length 0 none = 0 := HT.sIx_none _ _
  unfold cutD
  rw [e, HT.sIx_nat, Nat.sub_zero, List.drop_zero]
  rcases Nat.le_total k xs.length with h | h
  · rw [Nat.min_eq_left h]
  · rw [Nat.min_eq_right h, List.take_of_length_le (Nat.le_refl _), List.take_of_length_le h]
/-- the dict has each of the gaps, at f -/
def Has (kvs : List (L2.Key × D)) (gaps : List Str) (f : Str → Int) : Prop := ∀ a ∈ gaps, getA kvs (.inr a) = some (.int (f a))
end Pgm
namespace Pgm
open PySem MT
def cand (old new : List Int) (u : Nat) : List Int := old ++ new.take (u + 1)
def extK (old new : List Int) (p : List Int × Nat) : List (List Int × Nat) := (List.range (cand old new p.2).length).map fun k => (p.1 ++ [(cand old new p.2).getD k 0], max p.2 (k + 1 - old.length))
def kk (old new : List Int) : Nat → List (List Int × Nat)
  | 0 => [([], 0)]
  | i + 1 => (kk old new i).flatMap (extK old new)
end Pgm
namespace Pgm
open PySem MT
def One {α : Type} (l : List α) (p : α → Prop) : Prop := ∃ l1 a l2, l = l1 ++ a :: l2 ∧ p a ∧ (∀ x ∈ l1, ¬ p x) ∧ ∀ x ∈ l2, ¬ p x
theorem One.of {α : Type} {l : List α} {p : α → Prop} {k0 : Nat} (h : k0 < l.length) (hp : p l[k0]) (hn : ∀ (j : Nat) (hj : j < l.length), j ≠ k0 → ¬ p l[j]) : One l p := by
  refine ⟨l.take k0, l[k0], l.drop (k0 + 1), by rw [List.getElem_cons_drop, List.take_append_drop], hp, fun x hx => ?_, fun x hx => ?_⟩
  · obtain ⟨j, hj, rfl⟩ := List.getElem_of_mem hx
    rw [List.length_take] at hj
    rw [List.getElem_take]
    exact hn j (by omega) (by omega)
  · obtain ⟨j, hj, rfl⟩ := List.getElem_of_mem hx
    rw [List.length_drop] at hj
    rw [List.getElem_drop]
    exact hn _ (by omega) (by omega)
theorem One.idx {α : Type} {l : List α} {p : α → Prop} (h : One l p) : ∃ k0, k0 < l.length ∧ ∀ (k : Nat) (hk : k < l.length), p l[k] ↔ k = k0 := by
  obtain ⟨l1, a, l2, rfl, ha, h1, h2⟩ := h
  refine ⟨l1.length, by simp, fun k hk => ?_⟩
  rcases Nat.lt_trichotomy k l1.length with h | h | h
  · rw [List.getElem_append_left h]
    exact ⟨fun z => absurd z (h1 _ (List.getElem_mem h)), fun z => by omega⟩
  · subst h
    rw [List.getElem_append_right (Nat.le_refl _)]
    simp [ha]
  · rw [List.getElem_append_right (by omega)]
    have e : k - l1.length = (k - l1.length - 1) + 1 := by omega
    obtain ⟨m, hm⟩ : ∃ m, k - l1.length = m + 1 := ⟨_, e⟩
    simp only [hm, List.getElem_cons_succ]
    exact ⟨fun z => absurd z (h2 _ (List.getElem_mem _)), fun z => by omega⟩
theorem One.flat {α β : Type} {l : List α} {p : α → Prop} {F : α → List β} {q : β → Prop} (h : One l p) (h1 : ∀ a ∈ l, p a → One (F a) q) (h2 : ∀ a ∈ l, ¬ p a → ∀ b ∈ F a, ¬ q b) : One (l.flatMap F) q := by
  obtain ⟨l1, a, l2, rfl, ha, n1, n2⟩ := h
  obtain ⟨m1, b, m2, e, hb, k1, k2⟩ := h1 a (by simp) ha
  refine ⟨l1.flatMap F ++ m1, b, m2 ++ l2.flatMap F, by rw [List.flatMap_append, List.flatMap_cons, e]; simp, hb, fun x hx => ?_, fun x hx => ?_⟩
  · rcases List.mem_append.mp hx with hx | hx
    · obtain ⟨c, hc, hx⟩ := List.mem_flatMap.mp hx
      exact h2 c (by simp [hc]) (n1 c hc) x hx
    · exact k1 x hx
  · rcases List.mem_append.mp hx with hx | hx
    · exact k2 x hx
    · obtain ⟨c, hc, hx⟩ := List.mem_flatMap.mp hx
      exact h2 c (by simp [hc]) (n2 c hc) x hx
end Pgm
namespace Pgm
open PySem MT
theorem eqL_refl {f : D → D → Option Bool} : ∀ xs : List D, (∀ x ∈ xs, f x x = some true) → eqL f xs xs = some true
  | [], _ => rfl
  | x :: xs, h => by
    unfold eqL
    rw [h x List.mem_cons_self, eqL_refl xs fun y hy => h y (List.mem_cons_of_mem _ hy)]
    rfl
theorem eqN_lst {n : Nat} {xs : List D} (h : ∀ x ∈ xs, eqN n x x = some true) : eqN (n + 1) (.lst xs) (.lst xs) = some true := by
  show (if xs.length = xs.length then eqL (eqN n) xs xs else some false) = _
  rw [if_pos rfl]
  exact eqL_refl xs h
def gd (ns : List Int) (k : Int) : Int := ns.getD k.toNat 0
theorem str_app (a b : Str) : (a ++ b).cps.toList = a.cps.toList ++ b.cps.toList := by
  show (Str.append a b).cps.toList = _
  simp [Str.append]
theorem str_len (a : Str) : a.length = a.cps.toList.length := by
  simp [Str.length]
theorem cut_le (z : Str) (lo hi : Option Int) : (L2.cutS z lo hi).length ≤ z.length := by
  rw [str_len, str_len]
  unfold L2.cutS
  simp only [List.length_take, List.length_drop]
  omega
theorem app_len (a b : Str) : (a ++ b).length = a.length + b.length := by
  rw [str_len, str_app, List.length_append, str_len, str_len]
end Pgm
namespace Pgm
open PySem MT
variable {st : List D}
inductive Cell where
  | gap (s : Str) | val (i : Int)
def Cell.d : Cell → D
  | .gap s => .str s
  | .val i => .int i
def Cell.at (f : Str → Int) : Cell → Int
  | .gap s => f s
  | .val i => i
def Cell.gapO : Cell → Option Str
  | .gap s => some s
  | .val _ => none
inductive Cd where
  | truth (b : Bool) | same (x y : Cell) | all (ps : List Cd) | one (ps : List Cd) | opp (c : Cd)
mutual
def Cd.d : Cd → D
  | .truth b => .obj 11 [(4, .bl b)]
  | .same x y => .obj 12 [(5, x.d), (6, y.d)]
  | .all ps => .obj 14 [(7, .tup (Cd.ds ps))]
  | .one ps => .obj 15 [(7, .tup (Cd.ds ps))]
  | .opp c => .obj 16 [(8, c.d)]
def Cd.ds : List Cd → List D
  | [] => []
  | c :: cs => c.d :: Cd.ds cs
end
section
variable (f : Str → Int)
mutual
def Cd.holds : Cd → Bool
  | .truth b => b
  | .same x y => x.at f == y.at f
  | .all ps => Cd.allH ps
  | .one ps => Cd.anyH ps
  | .opp c => !c.holds
def Cd.allH : List Cd → Bool
  | [] => true
  | c :: cs => c.holds && Cd.allH cs
def Cd.anyH : List Cd → Bool
  | [] => false
  | c :: cs => c.holds || Cd.anyH cs
end
end
mutual
def Cd.cells : Cd → List Cell
  | .truth _ => []
  | .same x y => [x, y]
  | .all ps => Cd.cellsL ps
  | .one ps => Cd.cellsL ps
  | .opp c => c.cells
def Cd.cellsL : List Cd → List Cell
  | [] => []
  | c :: cs => c.cells ++ Cd.cellsL cs
end
theorem Cd.cellsL_eq (ps : List Cd) : Cd.cellsL ps = ps.flatMap Cd.cells := by
  induction ps with
  | nil => simp [Cd.cellsL]
  | cons c cs ih => simp [Cd.cellsL, ih]
mutual
def Cd.dep : Cd → Nat
  | .truth _ => 1
  | .same _ _ => 1
  | .all ps => 1 + Cd.depL ps
  | .one ps => 1 + Cd.depL ps
  | .opp c => 1 + c.dep
def Cd.depL : List Cd → Nat
  | [] => 0
  | c :: cs => max c.dep (Cd.depL cs)
end
mutual
def Cd.wid : Cd → Nat
  | .truth _ => 0
  | .same _ _ => 0
  | .all ps => max ps.length (Cd.widL ps)
  | .one ps => max ps.length (Cd.widL ps)
  | .opp c => c.wid
def Cd.widL : List Cd → Nat
  | [] => 0
  | c :: cs => max c.wid (Cd.widL cs)
end
def Cd.gaps (c : Cd) : List Str := c.cells.filterMap Cell.gapO
def Cd.cls : Cd → Nat
  | .truth _ => 11
  | .same _ _ => 12
  | .all _ => 14
  | .one _ => 15
  | .opp _ => 16
def Cd.fs : Cd → List (Nat × D)
  | .truth b => [(4, .bl b)]
  | .same x y => [(5, x.d), (6, y.d)]
  | .all ps => [(7, .tup (Cd.ds ps))]
  | .one ps => [(7, .tup (Cd.ds ps))]
  | .opp c => [(8, c.d)]
theorem Cd.d_eq (c : Cd) : c.d = .obj c.cls c.fs := by cases c <;> simp [Cd.d, Cd.cls, Cd.fs]
def Cd.jHolds : Cd → Nat
  | .truth _ => 16
  | .same _ _ => 19
  | .all _ => 23
  | .one _ => 25
  | .opp _ => 29
/-- a program that has the conditions -/
structure HasF (P : Pg) : Prop where
  f11 : P.fld 11 4 = true
  f12 : P.fld 12 5 = true
  g12 : P.fld 12 6 = true
  f14 : P.fld 14 7 = true
  f15 : P.fld 15 7 = true
  f16 : P.fld 16 8 = true
structure HasH (P : Pg) : Prop extends HasF P where
  d6 : P.defs 6 = some fi6
  d7 : P.defs 7 = some fi7
  d16 : P.defs 16 = some fi16
  d19 : P.defs 19 = some fi19
  d23 : P.defs 23 = some fi23
  d25 : P.defs 25 = some fi25
  d29 : P.defs 29 = some fi29
  h11 : P.meth 11 2 = some 16
  h12 : P.meth 12 2 = some 19
  h14 : P.meth 14 2 = some 23
  h15 : P.meth 15 2 = some 25
  h16 : P.meth 16 2 = some 29
theorem HasF.all {P : Pg} (H : HasF P) (c : Cd) : c.fs.all (fun p => P.fld c.cls p.1) = true := by
  cases c <;> simp [Cd.fs, Cd.cls, H.f11, H.f12, H.g12, H.f14, H.f15, H.f16]
theorem HasH.meth {P : Pg} (H : HasH P) (c : Cd) : P.meth c.cls 2 = some c.jHolds := by
  cases c <;> simp [Cd.jHolds, Cd.cls, H.h11, H.h12, H.h14, H.h15, H.h16]
theorem call_eq {P : Pg} {wf n j : Nat} {f : DefI} (h : P.defs j = some f) (st ds : List D) : P.call wf (n + 1) j st ds = runDef (P.ct wf n) f st ds := by
  unfold Pg.call
  rw [h]
  rfl
theorem io_eq {P : Pg} {wf n j : Nat} {f : DefI} (h : P.defs j = some f) : (P.ct wf n).io j = f.io := by
  show P.io j = _
  unfold Pg.io
  rw [h]
theorem HasH.io {P : Pg} {wf n : Nat} (H : HasH P) (c : Cd) : (P.ct wf n).io c.jHolds = [] := by
  cases c
  · exact io_eq H.d16
  · exact io_eq H.d19
  · exact io_eq H.d23
  · exact io_eq H.d25
  · exact io_eq H.d29
theorem blsD_map (bs : List Bool) : blsD (bs.map .bl) = some bs := by
  induction bs with
  | nil => rfl
  | cons b bs ih => simp [blsD, ih]
section
variable {P : Pg} {wf : Nat} (kvs : List (L2.Key × D)) (f : Str → Int)
def Got (c : Cd) : Prop := ∀ g ∈ c.gaps, getA kvs (.inr g) = some (.int (f g))
theorem Got.sub {ps : List Cd} (h : ∀ g ∈ (Cd.cellsL ps).filterMap Cell.gapO, getA kvs (.inr g) = some (.int (f g))) {c : Cd} (hc : c ∈ ps) : Got kvs f c := fun g hg => h g (by
  rw [Cd.cellsL_eq]
  obtain ⟨x, hx, e⟩ := List.mem_filterMap.mp hg
  exact List.mem_filterMap.mpr ⟨x, List.mem_flatMap.mpr ⟨c, hc, hx⟩, e⟩)
end
end Pgm
namespace Pgm
open PySem MT
variable {st : List D}
section
variable {P : Pg} {wf : Nat}
theorem onD_strs {xs : List Str} (h1 : xs.length < 4000) (h2 : (ssetS xs).length < 64) : onD .sset [.lst (xs.map .str)] = some ⟨.lst ((ssetS xs).map .str), true⟩ := by
  have hs : ∀ xs : List Str, strsD (xs.map .str) = some xs := fun xs => by
    induction xs with
    | nil => rfl
    | cons x xs ih => simp [strsD, ih]
  cases xs with
  | nil => rfl
  | cons x xs =>
    have hi : intsD ((x :: xs).map D.str) = none := rfl
    show (match intsD ((x :: xs).map D.str), strsD ((x :: xs).map D.str) with
      | some ns, _ => if ns.length < 4000 ∧ (ssetI ns).length < 64 then some (⟨.lst ((ssetI ns).map D.int), true⟩ : Val) else none
      | none, some xs => if xs.length < 4000 ∧ (ssetS xs).length < 64 then some ⟨.lst ((ssetS xs).map D.str), true⟩ else none
      | none, none => none) = _
    rw [hi, hs]
    simp only
    rw [if_pos ⟨h1, h2⟩]
def Cd.gapsS (c : Cd) : List Str := ssetS c.gaps
end
end Pgm
namespace Pgm
open PySem MT
variable {st : List D}
theorem cut_drop {α : Type} (xs : List α) (k : Nat) : cutD xs (some (k : Int)) none = xs.drop k := by
  unfold cutD
  rw [HT.sIx_nat, HT.sIx_none]
  rcases Nat.le_total k xs.length with h | h
  · rw [Nat.min_eq_left h]
    exact List.take_of_length_le (by rw [List.length_drop]; exact Nat.le_refl _)
  · rw [Nat.min_eq_right h, Nat.sub_self, List.take_zero, List.drop_eq_nil_of_le h]
theorem at_neg1 {α : Type} (xs : List α) (x : α) : L2.atI (xs ++ [x]) (-1) = some x := by
  unfold L2.atI L2.ixN
  rw [if_neg (by decide), if_pos (by simp; omega)]
  simp
  rw [show (-1 + ((xs.length : Int) + 1)).toNat = xs.length from by omega]
  simp
theorem eq_nil {α : Type} (xs : List α) (f : α → D) : eqD (.lst (xs.map f)) (.lst []) = some xs.isEmpty := by
  cases xs <;> rfl
end Pgm
namespace Pgm
open PySem MT
/-- the gaps of a condition over a pool, each once -/
theorem gapsS_len {gaps : List Str} {vs : List Int} {c : Cd} (hc : ∀ x ∈ c.cells, x ∈ gaps.map Cell.gap ++ vs.map Cell.val) : (∀ g ∈ c.gaps, g ∈ gaps) := fun g hg => by
  obtain ⟨x, hx, e⟩ := List.mem_filterMap.mp hg
  rcases List.mem_append.mp (hc x hx) with h | h
  · obtain ⟨a, ha, rfl⟩ := List.mem_map.mp h
    cases e
    exact ha
  · obtain ⟨a, ha, rfl⟩ := List.mem_map.mp h
    cases e
theorem nodup_le {α : Type} [BEq α] [LawfulBEq α] : ∀ {t u : List α}, t.Nodup → (∀ x ∈ t, x ∈ u) → t.length ≤ u.length
  | [], u, _, _ => Nat.zero_le _
  | a :: t, u, nd, h => by
    have ha : a ∈ u := h a List.mem_cons_self
    have n1 := List.nodup_cons.mp nd
    have := nodup_le (t := t) (u := u.erase a) n1.2 fun x hx => (List.mem_erase_of_ne fun e => n1.1 (by subst e; exact hx)).mpr (h x (List.mem_cons_of_mem _ hx))
    rw [List.length_erase_of_mem ha] at this
    have : 0 < u.length := List.length_pos_of_mem ha
    simp only [List.length_cons]; omega
theorem ssetS_nodup (l : List Str) : (ssetS l).Nodup := List.Pairwise.imp (R := LtS) (S := (· ≠ ·)) (fun {a b} h e => by subst e; exact LtS.irr _ h) (ssetS_rise l)
theorem Got.of {gaps : List Str} {vs : List Int} {c : Cd} {kvs : List (L2.Key × D)} {f : Str → Int} (hc : ∀ x ∈ c.cells, x ∈ gaps.map Cell.gap ++ vs.map Cell.val) (h : Has kvs gaps f) : Got kvs f c := fun g hg => h g (gapsS_len hc g hg)
end Pgm
namespace Pgm
open PySem MT
variable {st : List D}
def Cell.valO : Cell → Option Int
  | .gap _ => none
  | .val i => some i
def Cd.vals (c : Cd) : List Int := c.cells.filterMap Cell.valO
def Cd.standS (c : Cd) : List Int := ssetI c.vals
section
variable {P : Pg} {wf : Nat}
theorem Cd.dep_pos (c : Cd) : 0 < c.dep := by cases c <;> simp [Cd.dep] <;> omega
end
end Pgm
namespace Pgm
open PySem MT
inductive Tr where
  | truth (b : Bool) | same (x y : Cell) | all (ts : List Tr) | one (ts : List Tr) | nt (t : Tr) | tw (t : Tr)
mutual
def Tr.dep : Tr → Nat
  | .truth _ => 1
  | .same _ _ => 1
  | .all ts => 1 + Tr.depL ts
  | .one ts => 1 + Tr.depL ts
  | .nt t => 1 + t.dep
  | .tw t => 1 + t.dep
def Tr.depL : List Tr → Nat
  | [] => 0
  | t :: ts => max t.dep (Tr.depL ts)
end
mutual
def Tr.d : Tr → D
  | .truth b => .tup [.int 1, .str "truth", .bl b]
  | .same x y => .tup [.int 1, .str "same", x.d, y.d]
  | .all ts => .tup [.int ((1 + Tr.depL ts : Nat) : Int), .str "all", .lst (Tr.ds ts)]
  | .one ts => .tup [.int ((1 + Tr.depL ts : Nat) : Int), .str "one", .lst (Tr.ds ts)]
  | .nt t => .tup [.int ((1 + t.dep : Nat) : Int), .str "not", t.d]
  | .tw t => .tup [.int ((1 + t.dep : Nat) : Int), .str "twice", t.d]
def Tr.ds : List Tr → List D
  | [] => []
  | t :: ts => t.d :: Tr.ds ts
end
mutual
/-- the condition, what is twice put together by F -/
def Tr.cd (F : List Cd → Cd) : Tr → Cd
  | .truth b => .truth b
  | .same x y => .same x y
  | .all ts => .all (Tr.cds F ts)
  | .one ts => .one (Tr.cds F ts)
  | .nt t => .opp (t.cd F)
  | .tw t => F [t.cd F, t.cd F]
def Tr.cds (F : List Cd → Cd) : List Tr → List Cd
  | [] => []
  | t :: ts => t.cd F :: Tr.cds F ts
end
mutual
def Tr.cells : Tr → List Cell
  | .truth _ => []
  | .same x y => [x, y]
  | .all ts => Tr.cellsL ts
  | .one ts => Tr.cellsL ts
  | .nt t => t.cells
  | .tw t => t.cells ++ t.cells
def Tr.cellsL : List Tr → List Cell
  | [] => []
  | t :: ts => t.cells ++ Tr.cellsL ts
end
theorem Tr.cellsL_eq (ts : List Tr) : Tr.cellsL ts = ts.flatMap Tr.cells := by
  induction ts with
  | nil => simp [Tr.cellsL]
  | cons c cs ih => simp [Tr.cellsL, ih]
mutual
def Tr.wid : Tr → Nat
  | .truth _ => 0
  | .same _ _ => 0
  | .all ts => max ts.length (Tr.widL ts)
  | .one ts => max ts.length (Tr.widL ts)
  | .nt t => t.wid
  | .tw t => max 2 t.wid
def Tr.widL : List Tr → Nat
  | [] => 0
  | t :: ts => max t.wid (Tr.widL ts)
end
/-- the sort's word -/
def Tr.w : Tr → Str
  | .truth _ => "truth"
  | .same _ _ => "same"
  | .all _ => "all"
  | .one _ => "one"
  | .nt _ => "not"
  | .tw _ => "twice"
/-- what stands behind the word -/
def Tr.rest : Tr → List D
  | .truth b => [.bl b]
  | .same x y => [x.d, y.d]
  | .all ts => [.lst (Tr.ds ts)]
  | .one ts => [.lst (Tr.ds ts)]
  | .nt t => [t.d]
  | .tw t => [t.d]
theorem wd_tt : (("truth" : Str) == "truth") = true := by decide +kernel
theorem wd_st : (("same" : Str) == "truth") = false := by decide +kernel
theorem wd_at : (("all" : Str) == "truth") = false := by decide +kernel
theorem wd_ot : (("one" : Str) == "truth") = false := by decide +kernel
theorem wd_nt : (("not" : Str) == "truth") = false := by decide +kernel
theorem wd_ts : (("truth" : Str) == "same") = false := by decide +kernel
theorem wd_ss : (("same" : Str) == "same") = true := by decide +kernel
theorem wd_as : (("all" : Str) == "same") = false := by decide +kernel
theorem wd_os : (("one" : Str) == "same") = false := by decide +kernel
theorem wd_ns : (("not" : Str) == "same") = false := by decide +kernel
theorem wd_ta : (("truth" : Str) == "all") = false := by decide +kernel
theorem wd_sa : (("same" : Str) == "all") = false := by decide +kernel
theorem wd_aa : (("all" : Str) == "all") = true := by decide +kernel
theorem wd_oa : (("one" : Str) == "all") = false := by decide +kernel
theorem wd_na : (("not" : Str) == "all") = false := by decide +kernel
theorem wd_to : (("truth" : Str) == "one") = false := by decide +kernel
theorem wd_so : (("same" : Str) == "one") = false := by decide +kernel
theorem wd_ao : (("all" : Str) == "one") = false := by decide +kernel
theorem wd_oo : (("one" : Str) == "one") = true := by decide +kernel
theorem wd_no : (("not" : Str) == "one") = false := by decide +kernel
theorem wd_tn : (("truth" : Str) == "not") = false := by decide +kernel
theorem wd_sn : (("same" : Str) == "not") = false := by decide +kernel
theorem wd_an : (("all" : Str) == "not") = false := by decide +kernel
theorem wd_on : (("one" : Str) == "not") = false := by decide +kernel
theorem wd_nn : (("not" : Str) == "not") = true := by decide +kernel
theorem eqD_str (a b : Str) : eqD (.str a) (.str b) = some (a == b) := rfl
theorem at3_0 (x : D) (l : List D) : L2.atI (x :: l) 0 = some x := by
  unfold L2.atI L2.ixN
  rw [if_pos (by decide), if_pos (by simp <;> omega)]
  rfl
theorem at3_1 (x y : D) (l : List D) : L2.atI (x :: y :: l) 1 = some y := by
  unfold L2.atI L2.ixN
  rw [if_pos (by decide), if_pos (by simp <;> omega)]; rfl
theorem at3_2 (x y z : D) (l : List D) : L2.atI (x :: y :: z :: l) 2 = some z := by
  unfold L2.atI L2.ixN
  rw [if_pos (by decide), if_pos (by simp <;> omega)]; rfl
theorem at3_3 (x y z u : D) (l : List D) : L2.atI (x :: y :: z :: u :: l) 3 = some u := by
  unfold L2.atI L2.ixN
  rw [if_pos (by decide), if_pos (by simp <;> omega)]; rfl
/-- a stack of trees over the pool, behind n cells -/
structure TInv (pool : List Cell) (n : Nat) (st : List Tr) : Prop where
  deep : ∀ t ∈ st, t.dep ≤ 18
  wid : ∀ t ∈ st, t.wid ≤ 40
  cells : ∀ t ∈ st, ∀ x ∈ t.cells, x ∈ pool
  sum : (Tr.cellsL st).length ≤ 8 * n
  len : st.length ≤ n
theorem TInv.nil (pool : List Cell) : TInv pool 0 [] := ⟨by simp, by simp, by simp, by simp [Tr.cellsL], by simp⟩
theorem Tr.cellsL_app (a b : List Tr) : Tr.cellsL (a ++ b) = Tr.cellsL a ++ Tr.cellsL b := by simp [Tr.cellsL_eq]
/-- one more, with the last ones taken away -/
theorem TInv.push {pool : List Cell} {n k : Nat} {st : List Tr} (h : TInv pool n st) (q : Tr) (h2 : q.dep ≤ 18) (h3 : q.wid ≤ 40) (h4 : ∀ x ∈ q.cells, x ∈ pool) (h5 : q.cells.length ≤ (Tr.cellsL (st.drop k)).length + 8) : TInv pool (n + 1) (st.take k ++ [q]) where
  deep := fun p hp => by
    rcases List.mem_append.mp hp with hp | hp
    · exact h.deep p (List.mem_of_mem_take hp)
    · rw [List.mem_singleton] at hp; subst hp; exact h2
  wid := fun p hp => by
    rcases List.mem_append.mp hp with hp | hp
    · exact h.wid p (List.mem_of_mem_take hp)
    · rw [List.mem_singleton] at hp; subst hp; exact h3
  cells := fun p hp => by
    rcases List.mem_append.mp hp with hp | hp
    · exact h.cells p (List.mem_of_mem_take hp)
    · rw [List.mem_singleton] at hp; subst hp; exact h4
  sum := by
    have e : (Tr.cellsL st).length = (Tr.cellsL (st.take k)).length + (Tr.cellsL (st.drop k)).length := by
      rw [← List.length_append, ← Tr.cellsL_app, List.take_append_drop]
    have := h.sum
    rw [Tr.cellsL_app, List.length_append]
    simp only [Tr.cellsL, List.append_nil]
    omega
  len := by
    have := h.len
    simp only [List.length_append, List.length_take, List.length_singleton]
    omega
mutual
/-- the lists of parts, in the order in which they are made -/
def Tr.lists : Tr → List D
  | .truth _ => []
  | .same _ _ => []
  | .all ts => Tr.listsL ts ++ [.lst (Cd.ds (Tr.cds .all ts))]
  | .one ts => Tr.listsL ts ++ [.lst (Cd.ds (Tr.cds .all ts))]
  | .nt t => t.lists
  | .tw t => t.lists
def Tr.listsL : List Tr → List D
  | [] => []
  | t :: ts => t.lists ++ Tr.listsL ts
end
end Pgm
namespace Pgm
open PySem MT
end Pgm
namespace Pgm
open PySem MT
variable {st : List D} {P : Pg} {wf : Nat}
theorem biD_sum (ns : List Int) : biD .sum [.lst (ns.map .int)] = some ⟨.int ns.sum, false⟩ := by
  simp [biD, intsD_map]
def Cell.put (s : Str → Cell) : Cell → Cell
  | .gap g => s g
  | .val i => .val i
section
variable (s : Str → Cell)
mutual
def Cd.put : Cd → Cd
  | .truth b => .truth b
  | .same x y => .same (x.put s) (y.put s)
  | .all ps => .all (Cd.putL ps)
  | .one ps => .one (Cd.putL ps)
  | .opp c => .opp c.put
def Cd.putL : List Cd → List Cd
  | [] => []
  | c :: cs => c.put :: Cd.putL cs
end
theorem Cd.putL_eq (ps : List Cd) : Cd.putL s ps = ps.map (Cd.put s) := by
  induction ps with
  | nil => simp [Cd.putL]
  | cons c cs ih => simp [Cd.putL, ih]
mutual
theorem Cd.put_cells : ∀ c : Cd, (c.put s).cells = c.cells.map (Cell.put s)
  | .truth b => by simp [Cd.put, Cd.cells]
  | .same x y => by simp [Cd.put, Cd.cells]
  | .all ps => by simp [Cd.put, Cd.cells, Cd.putL_cells ps]
  | .one ps => by simp [Cd.put, Cd.cells, Cd.putL_cells ps]
  | .opp c => by simp [Cd.put, Cd.cells, Cd.put_cells c]
theorem Cd.putL_cells : ∀ ps : List Cd, Cd.cellsL (Cd.putL s ps) = (Cd.cellsL ps).map (Cell.put s)
  | [] => by simp [Cd.putL, Cd.cellsL]
  | c :: cs => by simp [Cd.putL, Cd.cellsL, Cd.put_cells c, Cd.putL_cells cs]
end
mutual
theorem Cd.put_dep : ∀ c : Cd, (c.put s).dep = c.dep
  | .truth b => by simp [Cd.put, Cd.dep]
  | .same x y => by simp [Cd.put, Cd.dep]
  | .all ps => by simp [Cd.put, Cd.dep, Cd.putL_dep ps]
  | .one ps => by simp [Cd.put, Cd.dep, Cd.putL_dep ps]
  | .opp c => by simp [Cd.put, Cd.dep, Cd.put_dep c]
theorem Cd.putL_dep : ∀ ps : List Cd, Cd.depL (Cd.putL s ps) = Cd.depL ps
  | [] => by simp [Cd.putL, Cd.depL]
  | c :: cs => by simp [Cd.putL, Cd.depL, Cd.put_dep c, Cd.putL_dep cs]
end
mutual
theorem Cd.put_wid : ∀ c : Cd, (c.put s).wid = c.wid
  | .truth b => by simp [Cd.put, Cd.wid]
  | .same x y => by simp [Cd.put, Cd.wid]
  | .all ps => by simp only [Cd.put, Cd.wid, Cd.putL_wid ps]; rw [Cd.putL_eq, List.length_map]
  | .one ps => by simp only [Cd.put, Cd.wid, Cd.putL_wid ps]; rw [Cd.putL_eq, List.length_map]
  | .opp c => by simp [Cd.put, Cd.wid, Cd.put_wid c]
theorem Cd.putL_wid : ∀ ps : List Cd, Cd.widL (Cd.putL s ps) = Cd.widL ps
  | [] => by simp [Cd.putL, Cd.widL]
  | c :: cs => by simp [Cd.putL, Cd.widL, Cd.put_wid c, Cd.putL_wid cs]
end
end
theorem cell_de (x : Cell) (st : List D) : deref st x.d = some x.d := by cases x <;> rfl
end Pgm
namespace Pgm
open PySem MT
variable {st : List D}
structure Tb where
  cols : List Str
  lines : List (List Cell × Cd)
  kept : Cd
def lineT (p : List Cell × Cd) : D := .tup [.tup (p.1.map Cell.d), p.2.d]
def Tb.fs (t : Tb) : List (Nat × D) := [(11, .tup (t.cols.map .str)), (12, .tup (t.lines.map lineT)), (13, t.kept.d)]
def Tb.d (t : Tb) : D := .obj 18 t.fs
def lgOf (p : List Cell × Cd) : List Str := p.1.filterMap Cell.gapO ++ p.2.gapsS
def Tb.gapL (t : Tb) : List Str := t.kept.gapsS ++ t.lines.flatMap lgOf
def Tb.gapsS (t : Tb) : List Str := ssetS t.gapL
def tupR (l : List Int) : D := .tup (l.map .int)
def lineV (f : Str → Int) (p : List Cell × Cd) : List Int := p.1.map (Cell.at f)
def Tb.there (t : Tb) (f : Str → Int) : List (List Int) := (t.lines.filter fun p => p.2.holds f).map (lineV f)
section
variable {P : Pg} {wf : Nat}
/-- a condition that the machine can walk -/
structure CdOk (n : Nat) (c : Cd) : Prop where
  dep : c.dep + 4 ≤ n
  cel : c.cells.length < 4000
  gap : c.gapsS.length < 64
  wid : c.wid < 1000
structure TbOk (n : Nat) (t : Tb) : Prop where
  kept : CdOk n t.kept
  cnd : ∀ p ∈ t.lines, CdOk n p.2
  row : ∀ p ∈ t.lines, p.1.length = t.cols.length
  cols : t.cols.length < 64
  few : t.lines.length < 64
  gl : t.gapL.length < 4000
  gs : t.gapsS.length < 64
theorem CdOk.pos {n : Nat} {c : Cd} (h : CdOk n c) : 5 ≤ n := by have := c.dep_pos; have := h.dep; omega
theorem CdOk.mono {n m : Nat} {c : Cd} (h : CdOk n c) (l : n ≤ m) : CdOk m c := ⟨by have := h.dep; omega, h.cel, h.gap, h.wid⟩
end
end Pgm
namespace Pgm
open PySem MT
mutual
def Cd.w : Cd → D
  | .truth b => .tup [.str "truth", .bl b]
  | .same x y => .tup [.str "same", x.d, y.d]
  | .opp c => .tup [.str "not", c.w]
  | .all cs => .tup [.str "all", .lst (Cd.ws cs)]
  | .one cs => .tup [.str "one", .lst (Cd.ws cs)]
def Cd.ws : List Cd → List D
  | [] => []
  | c :: cs => c.w :: Cd.ws cs
end
/-- a drawn condition: of these cells, at most so deep -/
structure CInv (pool : List Cell) (d : Nat) (c : Cd) : Prop where
  dep : c.dep ≤ d + 1
  wid : c.wid ≤ 3
  cel : ∀ x ∈ c.cells, x ∈ pool
  len : c.cells.length ≤ 2 * 3 ^ d
theorem CInv.truth (pool : List Cell) (d : Nat) (b : Bool) : CInv pool d (.truth b) := ⟨by simp [Cd.dep], by simp [Cd.wid], by simp [Cd.cells], by simp [Cd.cells]⟩
theorem pow3_pos (d : Nat) : 1 ≤ 3 ^ d := Nat.one_le_pow _ _ (by omega)
theorem CInv.same {pool : List Cell} (d : Nat) {x y : Cell} (hx : x ∈ pool) (hy : y ∈ pool) : CInv pool d (.same x y) := ⟨by simp [Cd.dep], by simp [Cd.wid], by simp [Cd.cells, hx, hy], by have := pow3_pos d; simp [Cd.cells]; omega⟩
theorem CInv.opp {pool : List Cell} {d : Nat} {c : Cd} (h : CInv pool d c) : CInv pool (d + 1) (.opp c) := ⟨by have := h.dep; simp [Cd.dep]; omega, by have := h.wid; simp [Cd.wid]; omega, by simpa [Cd.cells] using h.cel, by have := h.len; have := pow3_pos d; simp [Cd.cells, Nat.pow_succ]; omega⟩
end Pgm
namespace MT
open PySem
section
variable {Φ : CT} {io : List Nat}
/-- r ends well, and then P -/
def R.Q {α : Type} (r : R α) (P : α → Env → Prop) : Prop := match r with
  | .ok a e => P a e
  | _ => False
theorem R.Q.ok {α : Type} {r : R α} {P : α → Env → Prop} (h : r.Q P) : ∃ a e, r = .ok a e ∧ P a e := by
  cases r with
  | ok a e => exact ⟨a, e, rfl, h⟩
  | exc x e => exact h.elim
  | stuck => exact h.elim
/-- one turn of a comprehension -/
def lcB (io : List Nat) (tg : IT) (ft : Env → R Bool) (fe : Env → R Val) (d : D) (en : Env) : R (Option D) := match asgT io tg d en with
  | some en => (ft en).bind fun b en => if b = true then (fe en).bind fun v en => .ok (some v.d) en else .ok none en
  | none => .stuck
def lcE (io own : List Nat) (tg : IT) (k : ItK) (r : R (List Opd)) (ft : Env → R Bool) (fe : Env → R Val) : R Val :=
  (r.bind fun os e => itR k os e).bind fun items e1 =>
    if items.length < lineD ∧ (∀ i ∈ own, i ∉ io ∧ i < e1.length) then
      (lcL own (lcB io tg ft fe) items (wipeE e1 own)).bind fun ds e2 => .ok ⟨.lst ds, true⟩ (backE e2 e1 own)
    else .stuck
theorem ev_lcQ {own : List Nat} {tg : IT} {k : ItK} {it ifs : IEs} {elt : IE} {e : Env} : ev Φ io (.lc own tg k it ifs elt) e = lcE io own tg k (evo Φ io it e) (evt Φ io ifs) (ev Φ io elt) := by
  unfold ev; rfl
/-- one turn of a loop -/
def loopB (io : List Nat) (t : IT) (fb : Env → Xr) (d : D) (e : Env) : Xr := match asgT io t d e with
  | some e => fb e
  | none => .stuck
def loopE (io : List Nat) (t : IT) (k : ItK) (r : R (List Opd)) (fb : Env → Xr) : Xr := (r.bind fun os e => itR k os e).x fun items e => forL (loopB io t fb) items e
theorem ex_loopQ {t : IT} {k : ItK} {it : IEs} {body : ISs} {e : Env} : ex Φ io (.loop t k it body) e = loopE io t k (evo Φ io it e) (exs Φ io body) := by
  unfold ex; rfl
theorem wipe_len : ∀ (own : List Nat) (e : Env), (wipeE e own).sl.length = e.sl.length ∧ (wipeE e own).st = e.st
  | [], e => ⟨rfl, rfl⟩
  | i :: own, e => by
    obtain ⟨a, b⟩ := wipe_len own (e.set i none)
    refine ⟨?_, ?_⟩
    · show (wipeE (e.set i none) own).sl.length = _
      rw [a]; simp [Env.set]
    · show (wipeE (e.set i none) own).st = _
      rw [b]; rfl
theorem wipe_get : ∀ (own : List Nat) (e : Env) (j : Nat), j ∉ own → (wipeE e own).sl[j]? = e.sl[j]?
  | [], e, j, _ => rfl
  | i :: own, e, j, h => by
    show (wipeE (e.set i none) own).sl[j]? = _
    rw [wipe_get own _ j fun z => h (List.mem_cons_of_mem _ z)]
    have : i ≠ j := fun z => h (z ▸ List.mem_cons_self)
    simp [Env.set, List.getElem?_set, this]
theorem back_len (old : Env) : ∀ (own : List Nat) (e : Env), (backE e old own).sl.length = e.sl.length ∧ (backE e old own).st = e.st
  | [], e => ⟨rfl, rfl⟩
  | i :: own, e => by
    obtain ⟨a, b⟩ := back_len old own (e.set i (slot old i))
    refine ⟨?_, ?_⟩
    · show (backE (e.set i (slot old i)) old own).sl.length = _
      rw [a]; simp [Env.set]
    · show (backE (e.set i (slot old i)) old own).st = _
      rw [b]; rfl
theorem back_not (old : Env) : ∀ (own : List Nat) (e : Env) (j : Nat), j ∉ own → (backE e old own).sl[j]? = e.sl[j]?
  | [], e, j, _ => rfl
  | i :: own, e, j, h => by
    show (backE (e.set i (slot old i)) old own).sl[j]? = _
    rw [back_not old own _ j fun z => h (List.mem_cons_of_mem _ z)]
    have : i ≠ j := fun z => h (z ▸ List.mem_cons_self)
    simp [Env.set, List.getElem?_set, this]
theorem back_in (old : Env) : ∀ (own : List Nat) (e : Env) (j : Nat), j ∈ own → j < e.sl.length → j < old.sl.length → (backE e old own).sl[j]? = old.sl[j]?
  | [], e, j, h, _, _ => by cases h
  | i :: own, e, j, h, l, l2 => by
    show (backE (e.set i (slot old i)) old own).sl[j]? = _
    by_cases hj : j ∈ own
    · exact back_in old own _ j hj (by simpa [Env.set] using l) l2
    · have e1 : i = j := (List.mem_cons.mp h).elim Eq.symm fun h => absurd h hj
      subst e1
      rw [back_not old own _ i hj]
      simp [Env.set, slot, l, l2]
theorem back_wipe (own : List Nat) (e : Env) (h : ∀ i ∈ own, i < e.sl.length) : backE (wipeE e own) e own = e := by
  have h1 : (backE (wipeE e own) e own).sl = e.sl := by
    refine List.ext_getElem? fun j => ?_
    by_cases hj : j ∈ own
    · exact back_in e own _ j hj (by rw [(wipe_len own e).1]; exact h j hj) (h j hj)
    · rw [back_not e own _ j hj, wipe_get own e j hj]
  have h2 : (backE (wipeE e own) e own).st = e.st := by rw [(back_len e own _).2, (wipe_len own e).2]
  cases hq : backE (wipeE e own) e own
  rw [hq] at h1 h2
  cases e
  simp_all
theorem lcL_P {α : Type} {own : List Nat} {t : D → Env → R (Option D)} {E : Env} (r : α → D) (g : α → Option D) : ∀ (xs : List α), (∀ x ∈ xs, ∃ e1, t (r x) E = .ok (g x) e1 ∧ wipeE e1 own = E) → lcL own t (xs.map r) E = .ok (xs.filterMap g) E
  | [], _ => rfl
  | x :: xs, k => by
    obtain ⟨e1, h1, h2⟩ := k x List.mem_cons_self
    have ih := lcL_P r g xs fun y hy => k y (List.mem_cons_of_mem _ hy)
    rw [List.map_cons]
    unfold lcL
    rw [h1]
    show (lcL own t (xs.map r) (wipeE e1 own)).bind _ = _
    rw [h2, ih]
    cases h5 : g x with
    | none => rw [List.filterMap_cons_none h5]; rfl
    | some y => rw [List.filterMap_cons_some h5]; rfl
variable {own : List Nat} {tg : IT} {k : ItK} {os : List Opd} {e : Env} {ft : Env → R Bool} {fe : Env → R Val}
theorem lcE_P {α : Type} (xs : List α) (r : α → D) (g : α → Option D) (h1 : (rawsO os e).bind (itemsD k) = some (xs.map r)) (hl : xs.length < 16777216) (h2 : ∀ i ∈ own, i ∉ io ∧ i < (shares e (noSlots [] os)).sl.length)
    (step : ∀ x ∈ xs, (lcB io tg ft fe (r x) (wipeE (shares e (noSlots [] os)) own)).Q fun o e2 => o = g x ∧ wipeE e2 own = wipeE (shares e (noSlots [] os)) own) : lcE io own tg k (.ok os e) ft fe = .ok ⟨.lst (xs.filterMap g), true⟩ (shares e (noSlots [] os)) := by
  have h4 := lcL_P (own := own) (t := lcB io tg ft fe) (E := wipeE (shares e (noSlots [] os)) own) r g xs fun x hx => by
    obtain ⟨o, e2, h, ho, hw⟩ := (step x hx).ok
    exact ⟨e2, by rw [h, ho], hw⟩
  have h3 : itR k os e = .ok (xs.map r) (shares e (noSlots [] os)) := by unfold itR; rw [h1]
  show (itR k os e).bind _ = _
  rw [h3]
  show (if (xs.map r).length < lineD ∧ (∀ i ∈ own, i ∉ io ∧ i < (shares e (noSlots [] os)).length) then (lcL own (lcB io tg ft fe) (xs.map r) (wipeE (shares e (noSlots [] os)) own)).bind fun ds e2 => R.ok (⟨.lst ds, true⟩ : Val) (backE e2 (shares e (noSlots [] os)) own) else .stuck) = _
  rw [if_pos ⟨by rw [List.length_map]; exact hl, h2⟩, h4]
  show R.ok (⟨.lst (xs.filterMap g), true⟩ : Val) (backE (wipeE (shares e (noSlots [] os)) own) (shares e (noSlots [] os)) own) = _
  rw [back_wipe _ _ fun i hi => (h2 i hi).2]
/-- each one made something -/
theorem lcE_M {α : Type} (xs : List α) (r : α → D) (g : α → D) (h1 : (rawsO os e).bind (itemsD k) = some (xs.map r)) (hl : xs.length < 16777216) (h2 : ∀ i ∈ own, i ∉ io ∧ i < (shares e (noSlots [] os)).sl.length)
    (step : ∀ x ∈ xs, (lcB io tg ft fe (r x) (wipeE (shares e (noSlots [] os)) own)).Q fun o e2 => o = some (g x) ∧ wipeE e2 own = wipeE (shares e (noSlots [] os)) own) : lcE io own tg k (.ok os e) ft fe = .ok ⟨.lst (xs.map g), true⟩ (shares e (noSlots [] os)) := by
  rw [lcE_P xs r (fun x => some (g x)) h1 hl h2 step]
  have : xs.filterMap (fun x => some (g x)) = xs.map g := congrFun (List.filterMap_eq_map (f := g)) xs
  rw [this]
/-- some of them -/
theorem lcE_F {α : Type} (xs : List α) (r : α → D) (p : α → Bool) (g : α → D) (h1 : (rawsO os e).bind (itemsD k) = some (xs.map r)) (hl : xs.length < 16777216) (h2 : ∀ i ∈ own, i ∉ io ∧ i < (shares e (noSlots [] os)).sl.length)
    (step : ∀ x ∈ xs, (lcB io tg ft fe (r x) (wipeE (shares e (noSlots [] os)) own)).Q fun o e2 => o = (if p x = true then some (g x) else none) ∧ wipeE e2 own = wipeE (shares e (noSlots [] os)) own) : lcE io own tg k (.ok os e) ft fe = .ok ⟨.lst ((xs.filter p).map g), true⟩ (shares e (noSlots [] os)) := by
  rw [lcE_P xs r (fun x => if p x = true then some (g x) else none) h1 hl h2 step]
  have : xs.filterMap (fun x => if p x = true then some (g x) else none) = (xs.filter p).map g := by
    clear step hl h1
    induction xs with
    | nil => rfl
    | cons x xs ih => by_cases h : p x = true <;> simp [h, ih]
  rw [this]
/-- with changes of the rest: what is made is of some sort -/
theorem lcE_X {α : Type} (xs : List α) (r : α → D) {q : R Val} (hq : lcE io own tg k (.ok os e) ft fe = q) (I : List α → List D → Env → Prop) (h1 : (rawsO os e).bind (itemsD k) = some (xs.map r)) (hl : xs.length < 16777216) (h2 : ∀ i ∈ own, i ∉ io ∧ i < (shares e (noSlots [] os)).sl.length)
    (h0 : I [] [] (wipeE (shares e (noSlots [] os)) own)) (step : ∀ pre x suf, xs = pre ++ x :: suf → ∀ ys e, I pre ys e → (lcB io tg ft fe (r x) e).Q fun o e2 => ∃ y, o = some y ∧ I (pre ++ [x]) (ys ++ [y]) (wipeE e2 own)) :
    ∃ ys e', q = .ok ⟨.lst ys, true⟩ (backE e' (shares e (noSlots [] os)) own) ∧ I xs ys e' := by
  have gen : ∀ (suf pre : List α) (ys : List D) (e : Env), xs = pre ++ suf → I pre ys e → ∃ zs e', lcL own (lcB io tg ft fe) (suf.map r) e = .ok zs e' ∧ I xs (ys ++ zs) e' := by
    intro suf
    induction suf with
    | nil => exact fun pre ys e h hI => ⟨[], e, rfl, by rw [List.append_nil]; rw [h, List.append_nil]; exact hI⟩
    | cons x suf ih =>
      intro pre ys e h hI
      obtain ⟨o, e1, a1, y, rfl, a2⟩ := (step pre x suf h ys e hI).ok
      obtain ⟨zs, e2, b1, b2⟩ := ih (pre ++ [x]) (ys ++ [y]) _ (by rw [h]; simp) a2
      refine ⟨y :: zs, e2, ?_, by simpa using b2⟩
      rw [List.map_cons]
      unfold lcL
      rw [a1]
      show (lcL own _ (suf.map r) (wipeE e1 own)).bind _ = _
      rw [b1]
      rfl
  obtain ⟨zs, e', a1, a2⟩ := gen xs [] [] _ rfl h0
  refine ⟨zs, e', ?_, by simpa using a2⟩
  subst hq
  have h3 : itR k os e = .ok (xs.map r) (shares e (noSlots [] os)) := by unfold itR; rw [h1]
  show (itR k os e).bind _ = _
  rw [h3]
  show (if (xs.map r).length < lineD ∧ (∀ i ∈ own, i ∉ io ∧ i < (shares e (noSlots [] os)).length) then (lcL own (lcB io tg ft fe) (xs.map r) (wipeE (shares e (noSlots [] os)) own)).bind fun ds e2 => R.ok (⟨.lst ds, true⟩ : Val) (backE e2 (shares e (noSlots [] os)) own) else .stuck) = _
  rw [if_pos ⟨by rw [List.length_map]; exact hl, h2⟩, a1]
  rfl
end
theorem ix_tup (xs : List D) (i : Int) : ixD (.tup xs) (.int i) = L2.atI xs i := rfl
theorem ix_str (z : Str) (i : Int) : ixD (.str z) (.int i) = if z.length ≤ lineD then (L2.atI z.cps.toList i).map fun c => .str ⟨#[c]⟩ else none := rfl
section
variable {io : List Nat} {N N' : Env → Prop} {Rt : Val → Env → Prop} {B C : Env → Prop} {Z : Exc → Env → Prop} {e : Env} {t : IT} {k : ItK} {os : List Opd} {fb : Env → Xr}
theorem W_forM {α : Type} {tn : D → Env → Xr} (xs : List α) (r : α → D) (I : List α → Env → Prop) (h0 : I [] e)
    (step : ∀ pre x suf, xs = pre ++ x :: suf → ∀ e, I pre e → (tn (r x) e).W (I (pre ++ [x])) Rt N (I (pre ++ [x])) Z) (done : ∀ e, I xs e → N e) : (forL tn (xs.map r) e).W N Rt B C Z := by
  have gen : ∀ (suf pre : List α) (e : Env), xs = pre ++ suf → I pre e → (forL tn (suf.map r) e).W N Rt B C Z := by
    intro suf
    induction suf with
    | nil => exact fun pre e h hI => done e (by rw [h, List.append_nil]; exact hI)
    | cons x suf ih =>
      intro pre e h hI
      have hs := step pre x suf h e hI
      rw [List.map_cons]
      unfold forL
      generalize tn (r x) e = y at hs
      have h' : xs = pre ++ [x] ++ suf := by rw [h]; simp
      cases y with
      | nx e => exact ih _ _ h' hs
      | ct e => exact ih _ _ h' hs
      | bk e => exact hs
      | rt v e => exact hs
      | exc x e => exact hs
      | stuck => exact hs
  exact gen xs [] e rfl h0
theorem loopE_eq {items : List D} (h1 : (rawsO os e).bind (itemsD k) = some items) : loopE io t k (.ok os e) fb = forL (loopB io t fb) items (shares e (noSlots [] os)) := by
  have h3 : itR k os e = .ok items (shares e (noSlots [] os)) := by unfold itR; rw [h1]
  show (itR k os e).x _ = _
  rw [h3]
  rfl
theorem W_loopM {α : Type} (xs : List α) (r : α → D) (I : List α → Env → Prop) (h1 : (rawsO os e).bind (itemsD k) = some (xs.map r)) (h0 : I [] (shares e (noSlots [] os)))
    (step : ∀ pre x suf, xs = pre ++ x :: suf → ∀ e, I pre e → (loopB io t fb (r x) e).W (I (pre ++ [x])) Rt N (I (pre ++ [x])) Z) (done : ∀ e, I xs e → N e) : (loopE io t k (.ok os e) fb).W N Rt B C Z := by
  rw [loopE_eq h1]
  exact W_forM xs r I h0 step done
/-- a range -/
theorem W_loopR (lo : Int) (n : Nat) (I : Nat → Env → Prop) (h1 : (rawsO os e).bind (itemsD k) = some (rangeD lo n)) (h0 : I 0 (shares e (noSlots [] os)))
    (step : ∀ i, i < n → ∀ e, I i e → (loopB io t fb (.int (lo + i)) e).W (I (i + 1)) Rt N (I (i + 1)) Z) (done : ∀ e, I n e → N e) : (loopE io t k (.ok os e) fb).W N Rt B C Z := by
  rw [loopE_eq h1]
  refine W_for I h0 ?_ ?_
  · intro i hi e hI
    have hl : i < n := by simpa [rangeD] using hi
    have : (rangeD lo n)[i] = .int (lo + i) := by simp [rangeD]
    rw [this]
    exact step i hl e hI
  · intro e hI
    have : (rangeD lo n).length = n := by simp [rangeD]
    rw [this] at hI
    exact done e hI
/-- enumerate -/
theorem W_loopN {α : Type} (xs : List α) (r : α → D) (I : List α → Env → Prop) (h1 : (rawsO os e).bind (itemsD k) = some (pairsE 0 (xs.map r))) (h0 : I [] (shares e (noSlots [] os)))
    (step : ∀ pre x suf, xs = pre ++ x :: suf → ∀ e, I pre e → (loopB io t fb (.tup [.int (pre.length : Nat), r x]) e).W (I (pre ++ [x])) Rt N (I (pre ++ [x])) Z) (done : ∀ e, I xs e → N e) : (loopE io t k (.ok os e) fb).W N Rt B C Z := by
  rw [loopE_eq h1]
  have gen : ∀ (suf pre : List α) (e : Env), xs = pre ++ suf → I pre e → (forL (loopB io t fb) (pairsE pre.length (suf.map r)) e).W N Rt B C Z := by
    intro suf
    induction suf with
    | nil => exact fun pre e h hI => done e (by rw [h, List.append_nil]; exact hI)
    | cons x suf ih =>
      intro pre e h hI
      have hs := step pre x suf h e hI
      rw [List.map_cons]
      unfold pairsE forL
      generalize loopB io t fb (.tup [.int (pre.length : Nat), r x]) e = y at hs
      have h' : xs = pre ++ [x] ++ suf := by rw [h]; simp
      have hl : pre.length + 1 = (pre ++ [x]).length := by simp
      rw [hl]
      cases y with
      | nx e => exact ih _ _ h' hs
      | ct e => exact ih _ _ h' hs
      | bk e => exact hs
      | rt v e => exact hs
      | exc x e => exact hs
      | stuck => exact hs
  exact gen xs [] _ rfl h0
end
end MT
namespace Pgm
open PySem MT
theorem fl_cell (c : Cell) : flatD c.d = true := by cases c <;> rfl
theorem pl_cell (c : Cell) : plainD c.d = true := by cases c <;> rfl
theorem de_cd (c : Cd) (st : List D) : deref st c.d = some c.d := by rw [Cd.d_eq]; rfl
theorem fl_cd (c : Cd) : flatD c.d = false := by rw [Cd.d_eq]; rfl
theorem cw_tup (c : Cd) : ∃ l, c.w = .tup l := by cases c <;> simp [Cd.w]
theorem de_cw (c : Cd) (st : List D) : deref st c.w = some c.w := by obtain ⟨l, h⟩ := cw_tup c; rw [h]; rfl
theorem fl_cw (c : Cd) : flatD c.w = false := by obtain ⟨l, h⟩ := cw_tup c; rw [h]; rfl
theorem de_tb (t : Tb) (st : List D) : deref st t.d = some t.d := rfl
theorem fl_tb (t : Tb) : flatD t.d = false := rfl
theorem de_tupR (l : List Int) (st : List D) : deref st (tupR l) = some (tupR l) := rfl
theorem tup_fold (l : List Int) : D.tup (l.map .int) = tupR l := rfl
theorem fl_tupR (l : List Int) : flatD (tupR l) = false := rfl
theorem ty_cell (Φ : CT) (c : Cell) : isTy Φ c.d .str = some c.gapO.isSome := by cases c <;> rfl
theorem memD_strs' (n : Str) (vs : List Str) : memD (.str n) (vs.map D.str) = some (decide (n ∈ vs)) := by
  unfold memD
  rw [if_pos ⟨rfl, by simp [flatD]⟩]
  congr 1
  rw [List.any_map]
  refine Bool.eq_iff_iff.mpr ?_
  simp only [List.any_eq_true, decide_eq_true_eq, Function.comp, eqG]
  constructor
  · rintro ⟨x, hx, e⟩
    rw [← eq_of_beq e]; exact hx
  · exact fun h => ⟨n, h, by simp⟩
theorem memD_bls' (b : Bool) (bs : List Bool) : memD (.bl b) (bs.map .bl) = some (bs.any (· == b)) := by
  unfold memD
  rw [if_pos ⟨rfl, by simp [flatD]⟩, List.any_map]
  congr 1
theorem biD_all (bs : List Bool) : biD .all [.lst (bs.map .bl)] = some ⟨.bl (bs.all id), false⟩ := by
  simp [biD, blsD_map]
theorem biD_any (bs : List Bool) : biD .any [.lst (bs.map .bl)] = some ⟨.bl (bs.any id), false⟩ := by
  simp [biD, blsD_map]
/-- == of rows of ints, of lists of such -/
theorem eqNi (k : Nat) (a b : Int) : eqN k (.int a) (.int b) = some (a == b) := by cases k <;> rfl
theorem eqNs (k : Nat) (a b : Str) : eqN k (.str a) (.str b) = some (a == b) := by cases k <;> rfl
theorem eqL_map {α : Type} [BEq α] (f : D → D → Option Bool) (r : α → D) (h : ∀ a b, f (r a) (r b) = some (a == b)) : ∀ xs ys : List α, eqL f (xs.map r) (ys.map r) = some (xs == ys)
  | [], [] => rfl
  | [], _ :: _ => rfl
  | _ :: _, [] => rfl
  | x :: xs, y :: ys => by
    have ih := eqL_map f r h xs ys
    simp [eqL, h, ih]
theorem eqN_tupR (k : Nat) (a b : List Int) : eqN (k + 1) (tupR a) (tupR b) = some (a == b) := eqL_map _ _ (eqNi k) a b
theorem len_beq {α : Type} [BEq α] : ∀ {xs ys : List α}, xs.length ≠ ys.length → (xs == ys) = false
  | [], [], h => absurd rfl h
  | [], _ :: _, _ => rfl
  | _ :: _, [], _ => rfl
  | x :: xs, y :: ys, h => by
    have := len_beq (xs := xs) (ys := ys) (by simpa using h)
    show (x == y && xs == ys) = false
    rw [this]; simp
theorem eqD_lst {α : Type} [BEq α] (r : α → D) (h : ∀ a b, eqN 49 (r a) (r b) = some (a == b)) (xs ys : List α) : eqD (.lst (xs.map r)) (.lst (ys.map r)) = some (xs == ys) := by
  show (if (xs.map r).length = (ys.map r).length then eqL (eqN 49) (xs.map r) (ys.map r) else some false) = _
  by_cases hl : xs.length = ys.length
  · rw [if_pos (by simpa using hl)]; exact eqL_map _ _ h xs ys
  · rw [if_neg (by simpa using hl), len_beq hl]
theorem eqD_rows (xs ys : List (List Int)) : eqD (.lst (xs.map tupR)) (.lst (ys.map tupR)) = some (xs == ys) := eqD_lst tupR (fun a b => eqN_tupR 48 a b) xs ys
theorem eqD_tupR (a b : List Int) : eqD (tupR a) (tupR b) = some (a == b) := eqL_map _ _ (eqNi 49) a b
theorem eqD_ints (xs ys : List Int) : eqD (.lst (xs.map .int)) (.lst (ys.map .int)) = some (xs == ys) := eqD_lst D.int (fun a b => eqNi 49 a b) xs ys
theorem eqD_strs (xs ys : List Str) : eqD (.lst (xs.map .str)) (.lst (ys.map .str)) = some (xs == ys) := eqD_lst D.str (fun a b => eqNs 49 a b) xs ys
theorem memT_rows (a : List Int) : ∀ xs : List (List Int), memT (tupR a) (xs.map tupR) = some (xs.any (· == a))
  | [] => rfl
  | x :: xs => by
    have ih := memT_rows a xs
    simp [memT, eqD_tupR, ih]
theorem memD_rows (a : List Int) (xs : List (List Int)) : memD (tupR a) (xs.map tupR) = some (decide (a ∈ xs)) := by
  have h : memD (tupR a) (xs.map tupR) = memT (tupR a) (xs.map tupR) := by
    unfold memD
    rw [if_neg (fun z => by simp [fl_tupR] at z)]
    rfl
  rw [h, memT_rows]
  congr 1
  refine Bool.eq_iff_iff.mpr ?_
  simp
theorem ty_tupR_str (Φ : CT) (l : List Int) : isTy Φ (tupR l) .str = some false := rfl
theorem ty_tupR_int (Φ : CT) (l : List Int) : isTy Φ (tupR l) .int = some false := rfl
theorem ty_tupR_bool (Φ : CT) (l : List Int) : isTy Φ (tupR l) .bool = some false := rfl
theorem ty_tupR_list (Φ : CT) (l : List Int) : isTy Φ (tupR l) .list = some false := rfl
theorem ty_tupR_tuple (Φ : CT) (l : List Int) : isTy Φ (tupR l) .tuple = some true := rfl
theorem ty_tupR_dict (Φ : CT) (l : List Int) : isTy Φ (tupR l) .dict = some false := rfl
theorem items_tupR (l : List Int) : itemsD .seq [tupR l] = some (l.map .int) := rfl
theorem len_tupR (l : List Int) : lenD (tupR l) = some l.length := by simp [tupR, lenD]
theorem ix_tupR (l : List Int) (i : Int) : ixD (tupR l) (.int i) = L2.atI (l.map .int) i := rfl
theorem memD_rep (n : Nat) : memD (.bl true) (List.replicate n (.bl false)) = some false := by
  rw [show List.replicate n (D.bl false) = (List.replicate n false).map .bl by simp, memD_bls']
  simp
theorem TbOk.mono {n m : Nat} {t : Tb} (h : TbOk n t) (l : n ≤ m) : TbOk m t := ⟨h.kept.mono l, fun p hp => (h.cnd p hp).mono l, h.row, h.cols, h.few, h.gl, h.gs⟩
theorem memD_tf {α : Type} (xs : List α) : memD (.bl true) (xs.map fun _ => D.bl false) = some false := by
  rw [show (xs.map fun _ => D.bl false) = (xs.map fun _ => false).map .bl by rw [List.map_map]; rfl, memD_bls']
  simp
end Pgm
namespace MT
open PySem
section
variable {e : Env} {N : Env → Prop} {Rt : Val → Env → Prop} {B C : Env → Prop} {Z : Exc → Env → Prop} {io : List Nat} {t : IT}
theorem W_loopK {Φ : CT} {α : Type} {j : Nat} {o : Bool} {kvs : List (L2.Key × D)} {body : ISs} (xs : List α) (r : α → D) (I : List α → Env → Prop) (hs : slot e j = some ⟨.dK kvs, o⟩) (hk : kvs.map (fun p : L2.Key × D => dKey p.1) = xs.map r) (h0 : I [] (e.set j (some ⟨.dK kvs, false⟩)))
    (step : ∀ pre x suf, xs = pre ++ x :: suf → ∀ e, I pre e → (loopB io t (exs Φ io body) (r x) e).W (I (pre ++ [x])) Rt N (I (pre ++ [x])) fun _ _ => False) (done : ∀ e, I xs e → N e) : (ex Φ io (.loopL t .keys j body) e).W N Rt B C Z := by
  unfold ex
  rw [hs]
  show (match forL (loopB io t (exs Φ io body)) (kvs.map fun p : L2.Key × D => dKey p.1) (share e j) with
          | .exc _ _ => Xr.stuck
          | r => r).W N Rt B C Z
  have hsh : share e j = e.set j (some ⟨.dK kvs, false⟩) := by unfold share; rw [hs]
  rw [hsh, hk]
  have key : (forL (loopB io t (exs Φ io body)) (xs.map r) (e.set j (some ⟨.dK kvs, false⟩))).W N Rt B C fun _ _ => False := by
    have gen : ∀ (suf pre : List α) (e : Env), xs = pre ++ suf → I pre e → (forL (loopB io t (exs Φ io body)) (suf.map r) e).W N Rt B C fun _ _ => False := by
      intro suf
      induction suf with
      | nil => exact fun pre e h hI => done e (by rw [h, List.append_nil]; exact hI)
      | cons x suf ih =>
        intro pre e h hI
        have hs := step pre x suf h e hI
        rw [List.map_cons]
        unfold forL
        generalize loopB io t (exs Φ io body) (r x) e = y at hs
        have h' : xs = pre ++ [x] ++ suf := by rw [h]; simp
        cases y with
        | nx e => exact ih _ _ h' hs
        | ct e => exact ih _ _ h' hs
        | bk e => exact hs
        | rt v e => exact hs
        | exc x e => exact hs
        | stuck => exact hs
    exact gen xs [] _ rfl h0
  generalize forL (loopB io t (exs Φ io body)) (xs.map r) (e.set j (some ⟨.dK kvs, false⟩)) = y at key
  cases y with
  | exc x e => exact key.elim
  | nx e => exact key
  | ct e => exact key
  | bk e => exact key
  | rt v e => exact key
  | stuck => exact key
end
end MT
namespace MT
open PySem
section
variable {Φ : CT} {io : List Nat} {e : Env} {os : List Opd}
@[simp] theorem q1 : ev Φ io (.cst d) e = (.ok ⟨d, false⟩ e) := by first | (rw [ev.eq_1]; done) | (rw [ev.eq_1]; rfl)
@[simp] theorem q2 : ev Φ io (.var i) e = (match slot e i with
    | some v => if v.own = true ∧ i ∈ io then .stuck else .ok ⟨v.d, false⟩ (share e i)
    | none => .stuck) := by first | (rw [ev.eq_2]; done) | (rw [ev.eq_2]; rfl)
@[simp] theorem q3 : ev Φ io (.neg a) e = ((ev Φ io a e).bind fun v e => match v.d with
    | .int i => .ok ⟨.int (-i), false⟩ e
    | _ => .stuck) := by first | (rw [ev.eq_3]; done) | (rw [ev.eq_3]; rfl)
@[simp] theorem q4 : ev Φ io (.not a) e = ((ev Φ io a e).bind fun v e => boolR v fun b => .ok ⟨.bl (!b), false⟩ e) := by first | (rw [ev.eq_4]; done) | (rw [ev.eq_4]; rfl)
@[simp] theorem q5 : ev Φ io (.and a b) e = ((ev Φ io a e).bind fun v e => boolR v fun c => if c = true then ev Φ io b e else .ok ⟨.bl false, false⟩ e) := by first | (rw [ev.eq_5]; done) | (rw [ev.eq_5]; rfl)
@[simp] theorem q6 : ev Φ io (.or a b) e = ((ev Φ io a e).bind fun v e => boolR v fun c => if c = true then .ok ⟨.bl true, false⟩ e else ev Φ io b e) := by first | (rw [ev.eq_6]; done) | (rw [ev.eq_6]; rfl)
@[simp] theorem q7 : ev Φ io (.ite c a b) e = ((ev Φ io c e).bind fun v e => boolR v fun c => if c = true then ev Φ io a e else ev Φ io b e) := by first | (rw [ev.eq_7]; done) | (rw [ev.eq_7]; rfl)
@[simp] theorem q8 : ev Φ io (.bin op a b) e = ((mkO a (ev Φ io a) e).bind fun x e => (mkO b (ev Φ io b) e).bind fun y e =>
      match x.get e, y.get e with
      | some dx, some dy => R.opt (binD op dx dy) e
      | _, _ => .stuck) := by first | (rw [ev.eq_8]; done) | (rw [ev.eq_8]; rfl)
@[simp] theorem q9 : ev Φ io (.cmp op a b) e = ((mkO a (ev Φ io a) e).bind fun x e => (mkO b (ev Φ io b) e).bind fun y e =>
      match x.get e, y.get e with
      | some dx, some dy => R.opt ((cmpD op dx dy).map fun b => ⟨.bl b, false⟩) e
      | _, _ => .stuck) := by first | (rw [ev.eq_9]; done) | (rw [ev.eq_9]; rfl)
@[simp] theorem q10 : ev Φ io (.lst es) e = ((evs Φ io es e).bind fun ds e => if ds.length ≤ 16777216 then .ok ⟨.lst ds, true⟩ e else .stuck) := by first | (rw [ev.eq_10]; done) | (rw [ev.eq_10]; rfl)
@[simp] theorem q11 : ev Φ io (.tup es) e = ((evs Φ io es e).bind fun ds e => if ds.length ≤ 16777216 then .ok ⟨.tup ds, false⟩ e else .stuck) := by first | (rw [ev.eq_11]; done) | (rw [ev.eq_11]; rfl)
@[simp] theorem q12 : ev Φ io (.dct es) e = ((evs Φ io es e).bind fun ds e => R.opt ((pairsD [] ds).map fun kvs => ⟨.dK kvs, true⟩) e) := by first | (rw [ev.eq_12]; done) | (rw [ev.eq_12]; rfl)
@[simp] theorem q13 : ev Φ io .dctT e = (.ok ⟨.dT [], true⟩ e) := by first | (rw [ev.eq_13]; done) | (rw [ev.eq_13]; rfl)
@[simp] theorem q14 : ev Φ io (.ix a i) e = ((mkO a (ev Φ io a) e).bind fun x e => (mkO i (ev Φ io i) e).bind fun y e =>
      match x.get e, y.get e with
      | some dx, some dy => R.opt ((ixD dx dy).map fun d => ⟨d, false⟩) e
      | _, _ => .stuck) := by first | (rw [ev.eq_14]; done) | (rw [ev.eq_14]; rfl)
@[simp] theorem q15 : ev Φ io (.sl00 a) e = ((mkO a (ev Φ io a) e).bind fun x e => match x.get e with
      | some dx => R.opt (slD dx none none) e
      | _ => .stuck) := by first | (rw [ev.eq_15]; done) | (rw [ev.eq_15]; rfl)
@[simp] theorem q16 : ev Φ io (.sl10 a lo) e = ((mkO a (ev Φ io a) e).bind fun x e => (ev Φ io lo e).bind fun l e => intR l fun l => match x.get e with
      | some dx => R.opt (slD dx (some l) none) e
      | _ => .stuck) := by first | (rw [ev.eq_16]; done) | (rw [ev.eq_16]; rfl)
@[simp] theorem q17 : ev Φ io (.sl01 a hi) e = ((mkO a (ev Φ io a) e).bind fun x e => (ev Φ io hi e).bind fun l e => intR l fun l => match x.get e with
      | some dx => R.opt (slD dx none (some l)) e
      | _ => .stuck) := by first | (rw [ev.eq_17]; done) | (rw [ev.eq_17]; rfl)
@[simp] theorem q18 : ev Φ io (.sl11 a lo hi) e = ((mkO a (ev Φ io a) e).bind fun x e => (ev Φ io lo e).bind fun l e => intR l fun l => (ev Φ io hi e).bind fun h e => intR h fun h => match x.get e with
      | some dx => R.opt (slD dx (some l) (some h)) e
      | _ => .stuck) := by first | (rw [ev.eq_18]; done) | (rw [ev.eq_18]; rfl)
@[simp] theorem q19 : ev Φ io (.fld a f) e = ((mkO a (ev Φ io a) e).bind fun x e => match x.get e with
      | some (.obj c fs) => if Φ.fld c f = true ∧ fs.all (fun p => Φ.fld c p.1) = true then R.opt ((getA fs f).map fun d => ⟨d, false⟩) e else .stuck
      | _ => .stuck) := by first | (rw [ev.eq_19]; done) | (rw [ev.eq_19]; rfl)
@[simp] theorem q20 : ev Φ io (.bi b es) e = ((evo Φ io es e).bind fun os e => R.opt ((getsO os e).bind (biD b)) e) := by first | (rw [ev.eq_20]; done) | (rw [ev.eq_20]; rfl)
@[simp] theorem q21 : ev Φ io (.isi a ts) e = ((mkO a (ev Φ io a) e).bind fun x e => R.opt ((x.get e).bind fun d => (isiD Φ d ts).map fun b => ⟨.bl b, false⟩) e) := by first | (rw [ev.eq_21]; done) | (rw [ev.eq_21]; rfl)
@[simp] theorem q22 : ev Φ io (.get2 a k d) e = ((mkO a (ev Φ io a) e).bind fun x e => match x.get e with
      | some (.dK _) => (ev Φ io k e).bind fun k e => (ev Φ io d e).bind fun d e => (match x.get e, keyD k.d with
        | some (.dK kvs), some k => .ok ⟨(getA kvs k).getD d.d, false⟩ e
        | _, _ => .stuck)
      | _ => .stuck) := by first | (rw [ev.eq_22]; done) | (rw [ev.eq_22]; rfl)
@[simp] theorem q23 : ev Φ io (.call j es) e = ((evo Φ io es e).bind fun os e => callO Φ j os e) := by first | (rw [ev.eq_23]; done) | (rw [ev.eq_23]; rfl)
@[simp] theorem q24 : ev Φ io (.mk c es) e = ((evo Φ io es e).bind fun os e => match Φ.init c with
      | some j => match rawsO os e with
        | some ds => match Φ.call j e.st (.obj c [] :: ds) with
          | .ok v [o] st => if Φ.io j = [true] ∧ v.own = false then (match v.d with
            | .non => .ok ⟨o, true⟩ ((shares e (noSlots [] os)).withSt st)
            | _ => .stuck) else .stuck
          | .exc x st => if Φ.io j = [true] then .exc x ((shares e (noSlots [] os)).withSt st) else .stuck
          | _ => .stuck
        | none => .stuck
      | none => .stuck) := by first | (rw [ev.eq_24]; done) | (rw [ev.eq_24]; rfl)
@[simp] theorem q25 : ev Φ io (.meth a m es) e = ((mkO a (ev Φ io a) e).bind fun x e => match x.get e with
      | some (.obj c fs) => if fs.all (fun p => Φ.fld c p.1) = true then (match Φ.meth c m with
        | some j => (evo Φ io es e).bind fun os e => callO Φ j (x :: os) e
        | none => .stuck) else .stuck
      | _ => .stuck) := by first | (rw [ev.eq_25]; done) | (rw [ev.eq_25]; rfl)
@[simp] theorem q26 : ev Φ io (.mu i m es) e = (match slot e i with
      | some v0 => if v0.own = true ∧ preM m v0.d = true then (evs Φ io es e).bind fun ds e => (match slot e i with
          | some v => if v.own = true then (match muD m v.d ds with
            | some (d', r) => .ok ⟨r, false⟩ (e.set i (some ⟨d', true⟩))
            | none => .stuck) else .stuck
          | none => .stuck) else .stuck
      | none => .stuck) := by first | (rw [ev.eq_26]; done) | (rw [ev.eq_26]; rfl)
@[simp] theorem q27 : ev Φ io (.cel a) e = ((ev Φ io a e).bind fun v e => if v.own = true then .ok ⟨.rf e.st.length, false⟩ (e.withSt (e.st ++ [v.d])) else .stuck) := by first | (rw [ev.eq_27]; done) | (rw [ev.eq_27]; rfl)
@[simp] theorem q28 : ev Φ io (.muC a m es) e = ((mkO a (ev Φ io a) e).bind fun x e => (match x.raw e with
      | some (.rf n) => (match e.st[n]? with
        | some d0 => if preM m d0 = true then (evs Φ io es e).bind fun ds e => (match (e.st[n]?).bind fun d => muD m d ds with
          | some (d', r) => .ok ⟨r, false⟩ (e.withSt (e.st.set n d'))
          | none => .stuck) else .stuck
        | none => .stuck)
      | _ => .stuck)) := by first | (rw [ev.eq_28]; done) | (rw [ev.eq_28]; rfl)
@[simp] theorem q29 : ev Φ io (.opn o es) e = ((evo Φ io es e).bind fun os e => R.opt ((getsO os e).bind (onD o)) e) := by first | (rw [ev.eq_29]; done) | (rw [ev.eq_29]; rfl)
@[simp] theorem q30 : ev Φ io (.fldX a f) e = ((mkO a (ev Φ io a) e).bind fun x e => match x.get e with
      | some (.exn c [(f', d)]) => if f' = f ∧ Φ.init c = some f then .ok ⟨d, false⟩ e else .stuck
      | _ => .stuck) := by first | (rw [ev.eq_30]; done) | (rw [ev.eq_30]; rfl)
@[simp] theorem q31 : ev Φ io (.isiX a ts) e = ((mkO a (ev Φ io a) e).bind fun x e => match x.get e with
      | some (.exn c _) => R.opt ((isiX Φ c ts).map fun b => ⟨.bl b, false⟩) e
      | _ => .stuck) := by first | (rw [ev.eq_31]; done) | (rw [ev.eq_31]; rfl)
@[simp] theorem q32 : ev Φ io (.callF j es) e = ((evo Φ io es e).bind fun os e => callFO Φ j os e) := by first | (rw [ev.eq_34]; done) | (rw [ev.eq_34]; rfl)
@[simp] theorem q33 : ev Φ io (.methF a m es) e = ((mkO a (ev Φ io a) e).bind fun x e => match x.get e with
      | some (.obj c fs) => if fs.all (fun p => Φ.fld c p.1) = true then (match Φ.meth c m with
        | some j => (evo Φ io es e).bind fun os e => callFO Φ j (x :: os) e
        | none => .stuck) else .stuck
      | _ => .stuck) := by first | (rw [ev.eq_35]; done) | (rw [ev.eq_35]; rfl)
@[simp] theorem q34 : ev Φ io (.orv a b) e = ((ev Φ io a e).bind fun v e => orR v e (ev Φ io b e)) := by first | (rw [ev.eq_36]; done) | (rw [ev.eq_36]; rfl)
@[simp] theorem q35 : ev Φ io (.cmpR op a b) e = ((mkO a (ev Φ io a) e).bind fun x e => (mkO b (ev Φ io b) e).bind fun y e => match (x.get e).bind (resD e.st), (y.get e).bind (resD e.st) with
      | some dx, some dy => R.opt ((cmpD op dx dy).map fun b => ⟨.bl b, false⟩) e
      | _, _ => .stuck) := by first | (rw [ev.eq_37]; done) | (rw [ev.eq_37]; rfl)
@[simp] theorem q36 : ex Φ io (.expr a) e = ((ev Φ io a e).x fun _ e => .nx e) := by first | (rw [ex.eq_1]; done) | (rw [ex.eq_1]; rfl)
@[simp] theorem q37 : ex Φ io (.asg (.nm i) a) e = ((ev Φ io a e).x fun v e => setV io i v e) := by first | (rw [ex.eq_2]; done) | (rw [ex.eq_2]; rfl)
@[simp] theorem q38 : ex Φ io (.put i k v) e = ((ev Φ io v e).x fun v e => if (slot e i).isSome = true then (ev Φ io k e).x fun k e => (match slot e i with
    | some s => if s.own = true then (match muD .put s.d [k.d, v.d] with
      | some (d', _) => .nx (e.set i (some ⟨d', true⟩))
      | none => .stuck) else .stuck
    | none => .stuck) else .stuck) := by first | (rw [ex.eq_4]; done) | (rw [ex.eq_4]; rfl)
@[simp] theorem q39 : ex Φ io (.setF i f v) e = ((ev Φ io v e).x fun v e => match slot e i with
    | some ⟨.obj c fs, true⟩ => if fs.length < 900 ∧ Φ.fld c f = true ∧ fs.all (fun p => Φ.fld c p.1) = true then .nx (e.set i (some ⟨.obj c (setA fs f v.d), true⟩)) else .stuck
    | _ => .stuck) := by first | (rw [ex.eq_5]; done) | (rw [ex.eq_5]; rfl)
@[simp] theorem q40 : ex Φ io (.ite c a b) e = ((ev Φ io c e).x fun v e => match v.d with
    | .bl true => exs Φ io a e
    | .bl false => exs Φ io b e
    | _ => .stuck) := by first | (rw [ex.eq_8]; done) | (rw [ex.eq_8]; rfl)
@[simp] theorem q41 : ex Φ io (.loopL t k i body) e = (match slot e i with
      | some v => (match itemsL k v.d with
        | some items => (match forL (fun d e => match asgT io t d e with
          | some e => exs Φ io body e
          | none => .stuck) items (share e i) with
          | .exc _ _ => .stuck
          | r => r)
        | none => .stuck)
      | none => .stuck) := by first | (rw [ex.eq_10]; done) | (rw [ex.eq_10]; rfl)
@[simp] theorem q42 : ex Φ io (.whl c body) e = (whileL (ev Φ io c) (exs Φ io body) Φ.wf e) := by first | (rw [ex.eq_13]; done) | (rw [ex.eq_13]; rfl)
@[simp] theorem q43 : ex Φ io .brk e = (.bk e) := by first | (rw [ex.eq_14]; done) | (rw [ex.eq_14]; rfl)
@[simp] theorem q44 : ex Φ io .cont e = (.ct e) := by first | (rw [ex.eq_15]; done) | (rw [ex.eq_15]; rfl)
@[simp] theorem q45 : ex Φ io .pass e = (.nx e) := by first | (rw [ex.eq_16]; done) | (rw [ex.eq_16]; rfl)
@[simp] theorem q46 : ex Φ io (.aug i op a) e = (match slot e i with
    | some v => (ev Φ io a e).x fun y e => (match op, v.d, y.d with
      | .Add, .int m, .int n => setV io i ⟨.int (m + n), false⟩ e
      | .Sub, .int m, .int n => setV io i ⟨.int (m - n), false⟩ e
      | _, _, _ => .stuck)
    | none => .stuck) := by first | (rw [ex.eq_17]; done) | (rw [ex.eq_17]; rfl)
@[simp] theorem q47 : ex Φ io .never e = (.stuck) := by first | (rw [ex.eq_18]; done) | (rw [ex.eq_18]; rfl)
@[simp] theorem q48 : ex Φ io (.raise c es) e = ((evs Φ io es e).x fun ds e => match Φ.init c with
    | none => (match es with
      | .nil => .exc ⟨c, []⟩ e
      | _ => .stuck)
    | some f => (match ds with
      | [d] => if flatD d = true then .exc ⟨c, [(f, d)]⟩ e else .stuck
      | _ => .stuck)) := by first | (rw [ex.eq_19]; done) | (rw [ex.eq_19]; rfl)
@[simp] theorem q49 : ex Φ io (.putC a k v) e = ((ev Φ io v e).x fun v e => (mkO a (ev Φ io a) e).x fun x e => (match x.raw e with
      | some (.rf n) => (ev Φ io k e).x fun k e => (match (e.st[n]?).bind fun d => muD .put d [k.d, v.d] with
        | some (d', _) => .nx (e.withSt (e.st.set n d'))
        | none => .stuck)
      | _ => .stuck)) := by first | (rw [ex.eq_20]; done) | (rw [ex.eq_20]; rfl)
@[simp] theorem q50 : ex Φ io (.tri body c i hd els) e = (match exs Φ io body e with
    | .nx e => exs Φ io els e
    | .exc x e => (match xisa Φ x.c c with
      | some true => (match i with
        | some i => if i ∈ io ∨ e.length ≤ i then .stuck else (exs Φ io hd (e.set i (some ⟨.exn x.c x.fs, false⟩))).wipe i
        | none => (exs Φ io hd e).calm)
      | some false => .exc x e
      | none => .stuck)
    | r => r) := by first | (rw [ex.eq_21]; done) | (rw [ex.eq_21]; rfl)
@[simp] theorem q51 : ex Φ io (.asg (.tp ts) a) e = ((ev Φ io a e).x fun v e => match asgT io (.tp ts) v.d e with
    | some e => .nx e
    | none => .stuck) := by rw [ex.eq_3] <;> first | rfl | (intro i h; cases h)
@[simp] theorem q52 : ex Φ io (.ret a) e = (match a with
    | .var i => (match slot e i with
      | some v => if i ∈ io then .stuck else .rt v e
      | none => .stuck)
    | a => (ev Φ io a e).x fun v e => .rt v e) := by cases a <;> (unfold ex; rfl)
@[simp] theorem q_lc {own : List Nat} {tg : IT} {k : ItK} {it ifs : IEs} {elt : IE} {e : Env} : ev Φ io (.lc own tg k it ifs elt) e = lcE io own tg k (evo Φ io it e) (evt Φ io ifs) (ev Φ io elt) := ev_lcQ
@[simp] theorem q_loop {t : IT} {k : ItK} {it : IEs} {body : ISs} {e : Env} : ex Φ io (.loop t k it body) e = loopE io t k (evo Φ io it e) (exs Φ io body) := ex_loopQ
@[simp] theorem q_evs0 : evs Φ io .nil e = .ok [] e := by first | (rw [evs.eq_1]; done) | (rw [evs.eq_1]; rfl)
@[simp] theorem q_evs1 : evs Φ io (.cons a es) e = (ev Φ io a e).bind fun v e => (evs Φ io es e).bind fun ds e => .ok (v.d :: ds) e := by first | (rw [evs.eq_2]; done) | (rw [evs.eq_2]; rfl)
@[simp] theorem q_evo0 : evo Φ io .nil e = .ok [] e := by first | (rw [evo.eq_1]; done) | (rw [evo.eq_1]; rfl)
@[simp] theorem q_evo1 : evo Φ io (.cons a es) e = (mkO a (ev Φ io a) e).bind fun x e => (evo Φ io es e).bind fun os e => .ok (x :: os) e := by first | (rw [evo.eq_2]; done) | (rw [evo.eq_2]; rfl)
@[simp] theorem q_evt0 : evt Φ io .nil e = .ok true e := by first | (rw [evt.eq_1]; done) | (rw [evt.eq_1]; rfl)
@[simp] theorem q_evt1 : evt Φ io (.cons a es) e = (ev Φ io a e).bind fun v e => boolR v fun b => .ok b e := by first | (rw [evt.eq_2]; done) | (rw [evt.eq_2]; rfl)
@[simp] theorem q_mkO {r : Env → R Val} : mkO a r e = (match a with
  | .var i => (match slot e i with
    | some _ => .ok (.rd i) e
    | none => .stuck)
  | _ => (r e).bind fun v e => .ok (.tmp v) e) := by cases a <;> rfl
@[simp] theorem q_slot : slot e i = (match e.sl[i]? with
  | some o => o
  | none => none) := rfl
@[simp] theorem q_b1 {α β : Type} {a : α} {f : α → Env → R β} : (R.ok a e).bind f = f a e := rfl
@[simp] theorem q_b2 {α β : Type} {x : Exc} {f : α → Env → R β} : (R.exc x e).bind f = .exc x e := rfl
@[simp] theorem q_b3 {α β : Type} {f : α → Env → R β} : (R.stuck : R α).bind f = .stuck := rfl
@[simp] theorem q_x1 {α : Type} {a : α} {f : α → Env → Xr} : (R.ok a e).x f = f a e := rfl
@[simp] theorem q_x2 {α : Type} {x : Exc} {f : α → Env → Xr} : (R.exc x e).x f = .exc x e := rfl
@[simp] theorem q_x3 {α : Type} {f : α → Env → Xr} : (R.stuck : R α).x f = .stuck := rfl
@[simp] theorem q_get {o : Opd} : o.get e = (o.raw e).bind (deref e.st) := rfl
@[simp] theorem q_raw1 {v : Val} : (Opd.tmp v).raw e = some v.d := rfl
@[simp] theorem q_raw2 : (Opd.rd i).raw e = (slot e i).map (·.d) := rfl
@[simp] theorem q_gs0 : getsO [] e = some [] := rfl
@[simp] theorem q_gs1 {o : Opd} {os : List Opd} : getsO (o :: os) e = (o.get e).bind fun d => (getsO os e).map (d :: ·) := rfl
@[simp] theorem q_rs0 : rawsO [] e = some [] := rfl
@[simp] theorem q_rs1 {o : Opd} {os : List Opd} : rawsO (o :: os) e = (o.raw e).bind fun d => (rawsO os e).map (d :: ·) := rfl
@[simp] theorem q_shares : shares e is = is.foldl share e := rfl
@[simp] theorem q_share : share e i = (match slot e i with
  | some v => e.set i (some ⟨v.d, false⟩)
  | none => e) := rfl
@[simp] theorem q_ns1 {bs : List Bool} {o : Opd} {os : List Opd} : noSlots (true :: bs) (o :: os) = noSlots bs os := rfl
@[simp] theorem q_ns2 {bs : List Bool} {os : List Opd} : noSlots (false :: bs) (.rd i :: os) = i :: noSlots bs os := rfl
@[simp] theorem q_ns3 {bs : List Bool} {v : Val} {os : List Opd} : noSlots (false :: bs) (.tmp v :: os) = noSlots bs os := rfl
@[simp] theorem q_ns4 {os : List Opd} : noSlots [] (.rd i :: os) = i :: noSlots [] os := rfl
@[simp] theorem q_ns5 {v : Val} {os : List Opd} : noSlots [] (.tmp v :: os) = noSlots [] os := rfl
@[simp] theorem q_ns6 : noSlots [] [] = [] := rfl
@[simp] theorem q_ns7 {b : Bool} {bs : List Bool} : noSlots (b :: bs) [] = [] := by cases b <;> rfl
@[simp] theorem q_set {o : Option Val} : e.set i o = ⟨e.sl.set i o, e.st⟩ := rfl
@[simp] theorem q_withSt {st : List D} : e.withSt st = ⟨e.sl, st⟩ := rfl
@[simp] theorem q_opt1 {α : Type} {a : α} : R.opt (some a) e = .ok a e := rfl
@[simp] theorem q_opt2 {α : Type} : R.opt (none : Option α) e = .stuck := rfl
@[simp] theorem q_setV {v : Val} : setV io i v e = if i ∈ io ∨ e.sl.length ≤ i then .stuck else .nx (e.set i (some v)) := rfl
@[simp] theorem q_or1 {c o : Bool} {k : R Val} : orR ⟨.bl c, o⟩ e k = if c = true then .ok ⟨.bl true, false⟩ e else k := rfl
@[simp] theorem q_or2 {o : Bool} {k : R Val} : orR ⟨.non, o⟩ e k = k := rfl
@[simp] theorem q_or3 {o : Bool} {k : R Val} {x : D} {xs : List D} : orR ⟨.tup (x :: xs), o⟩ e k = .ok ⟨.tup (x :: xs), o⟩ e := rfl
@[simp] theorem q_intR {α : Type} {j : Int} {o : Bool} {f : Int → R α} : intR ⟨.int j, o⟩ f = f j := rfl
@[simp] theorem q_boolR {α : Type} {b o : Bool} {f : Bool → R α} : boolR ⟨.bl b, o⟩ f = f b := rfl
@[simp] theorem q_callO : callO Φ j os e = if ioOk (Φ.io j) os e = true ∧ (ioSlots (Φ.io j) os).Nodup ∧ (∀ i ∈ ioSlots (Φ.io j) os, i ∉ noSlots (Φ.io j) os) then
    (match rawsO os e with
    | none => .stuck
    | some ds => match Φ.call j e.st ds with
      | .ok v outs st => if outs.length = (ioSlots (Φ.io j) os).length then
          (if v.own = false ∧ flatD v.d = true ∧ outs.all plainD = true ∧ st = [] then .ok v (putsO e (ioSlots (Φ.io j) os) outs) else .ok v ((putsO (shares e (noSlots (Φ.io j) os)) (ioSlots (Φ.io j) os) outs).withSt st)) else .stuck
      | .exc x st => .exc x ((killO (shares e (noSlots (Φ.io j) os)) (ioSlots (Φ.io j) os)).withSt st)
      | .stuck => .stuck)
  else .stuck := rfl
@[simp] theorem q_callFO : callFO Φ j os e = (match Φ.io j with
  | [] => (match rawsO os e with
    | none => .stuck
    | some ds => match Φ.call j e.st ds with
      | .ok v [] st => if (freeV v || lendV (ownLens e) v) = true ∧ freeS e.st st = true then .ok v (e.withSt (st.take e.st.length)) else .stuck
      | _ => .stuck)
  | _ => .stuck) := rfl
@[simp] theorem q_freeV {v : Val} : freeV v = if v.own = true then plainD v.d else flatD v.d := rfl
@[simp] theorem q_freeS {st st' : List D} : freeS st st' = (decide (st.length ≤ st'.length) && (st'.take st.length).all plainD) := rfl
@[simp] theorem q_killO : killO e is = is.foldl (fun e i => e.set i none) e := rfl
@[simp] theorem q_wipeE : wipeE e is = is.foldl (fun e i => e.set i none) e := rfl
@[simp] theorem q_backE {old : Env} : backE e old is = is.foldl (fun e i => e.set i (slot old i)) e := rfl
@[simp] theorem q_io1 {os : List Opd} : ioOk [] os e = true := rfl
@[simp] theorem q_io2 {bs : List Bool} {os : List Opd} : ioOk (true :: bs) (.rd i :: os) e = ((match slot e i with
    | some v => v.own
    | none => false) && ioOk bs os e) := rfl
@[simp] theorem q_io3 {bs : List Bool} {v : Val} {os : List Opd} : ioOk (true :: bs) (.tmp v :: os) e = false := rfl
@[simp] theorem q_io4 {bs : List Bool} {o : Opd} {os : List Opd} : ioOk (false :: bs) (o :: os) e = ioOk bs os e := rfl
@[simp] theorem q_is1 {bs : List Bool} {os : List Opd} : ioSlots (true :: bs) (.rd i :: os) = i :: ioSlots bs os := rfl
@[simp] theorem q_is2 {bs : List Bool} {o : Opd} {os : List Opd} : ioSlots (false :: bs) (o :: os) = ioSlots bs os := rfl
@[simp] theorem q_is3 {os : List Opd} : ioSlots [] os = [] := by cases os <;> rfl
@[simp] theorem q_is4 {b : Bool} {bs : List Bool} : ioSlots (b :: bs) [] = [] := by cases b <;> rfl
@[simp] theorem q_po1 {d : D} {ds : List D} : putsO e (i :: is) (d :: ds) = putsO (e.set i (some ⟨d, true⟩)) is ds := rfl
@[simp] theorem q_po2 {ds : List D} : putsO e [] ds = e := by cases ds <;> rfl
@[simp] theorem q_isi0 {d : D} : isiD Φ d [] = some false := rfl
@[simp] theorem q_isi1 {d : D} {t : Ty} {ts : List Ty} : isiD Φ d (t :: ts) = (isTy Φ d t).bind fun b => if b = true then some true else isiD Φ d ts := rfl
@[simp] theorem q_isx0 {c : Nat} : isiX Φ c [] = some false := rfl
@[simp] theorem q_isx1 {c t : Nat} {ts : List Nat} : isiX Φ c (t :: ts) = (xisa Φ c t).bind fun b => if b = true then some true else isiX Φ c ts := rfl
@[simp] theorem q_wp1 : (Xr.nx e).wipe i = .nx (e.set i none) := rfl
@[simp] theorem q_wp2 {v : Val} : (Xr.rt v e).wipe i = .rt v (e.set i none) := rfl
@[simp] theorem q_wp3 : (Xr.bk e).wipe i = .bk (e.set i none) := rfl
@[simp] theorem q_wp4 : (Xr.ct e).wipe i = .ct (e.set i none) := rfl
@[simp] theorem q_cm1 : (Xr.nx e).calm = .nx e := rfl
@[simp] theorem q_cm2 {v : Val} : (Xr.rt v e).calm = .rt v e := rfl
@[simp] theorem q_asg1 {d : D} : asgT io (.nm i) d e = if i ∈ io ∨ e.sl.length ≤ i then none else some (e.set i (some ⟨d, false⟩)) := rfl
@[simp] theorem q_asg2 {ds : List D} : asgT io (.tp ts) (.tup ds) e = asgTs io ts ds e := rfl
@[simp] theorem q_asg3 {ds : List D} : asgT io (.tp ts) (.lst ds) e = asgTs io ts ds e := rfl
@[simp] theorem q_asg4 : asgTs io .nil [] e = some e := rfl
@[simp] theorem q_asg5 {t : IT} {d : D} {ds : List D} : asgTs io (.cons t ts) (d :: ds) e = (asgT io t d e).bind fun e => asgTs io ts ds e := rfl
@[simp] theorem q_lcB {tg : IT} {ft : Env → R Bool} {fe : Env → R Val} {d : D} : lcB io tg ft fe d e = (match asgT io tg d e with
  | some en => (ft en).bind fun b en => if b = true then (fe en).bind fun v en => .ok (some v.d) en else .ok none en
  | none => .stuck) := rfl
@[simp] theorem q_loopB {t : IT} {fb : Env → Xr} {d : D} : loopB io t fb d e = (match asgT io t d e with
  | some e => fb e
  | none => .stuck) := rfl
@[simp] theorem q_RQ {α : Type} {a : α} {P : α → Env → Prop} : (R.ok a e).Q P ↔ P a e := Iff.rfl
@[simp] theorem q_Wnx {N : Env → Prop} {Rt : Val → Env → Prop} {B C : Env → Prop} {Z : Exc → Env → Prop} : (Xr.nx e).W N Rt B C Z ↔ N e := Iff.rfl
@[simp] theorem q_Wrt {v : Val} {N : Env → Prop} {Rt : Val → Env → Prop} {B C : Env → Prop} {Z : Exc → Env → Prop} : (Xr.rt v e).W N Rt B C Z ↔ Rt v e := Iff.rfl
@[simp] theorem q_Wbk {N : Env → Prop} {Rt : Val → Env → Prop} {B C : Env → Prop} {Z : Exc → Env → Prop} : (Xr.bk e).W N Rt B C Z ↔ B e := Iff.rfl
@[simp] theorem q_Wct {N : Env → Prop} {Rt : Val → Env → Prop} {B C : Env → Prop} {Z : Exc → Env → Prop} : (Xr.ct e).W N Rt B C Z ↔ C e := Iff.rfl
@[simp] theorem q_Wexc {x : Exc} {N : Env → Prop} {Rt : Val → Env → Prop} {B C : Env → Prop} {Z : Exc → Env → Prop} : (Xr.exc x e).W N Rt B C Z ↔ Z x e := Iff.rfl
@[simp] theorem q_add {a b : Int} : binD .Add (.int a) (.int b) = some ⟨.int (a + b), false⟩ := rfl
@[simp] theorem q_sub {a b : Int} : binD .Sub (.int a) (.int b) = some ⟨.int (a - b), false⟩ := rfl
@[simp] theorem q_mul {a b : Int} : binD .Mult (.int a) (.int b) = if smallI a || smallI b || decide (PySem.Builtin.Int.intBits a + PySem.Builtin.Int.intBits b ≤ 134217728) then some ⟨.int (a * b), false⟩ else none := rfl
@[simp] theorem q_div {a b : Int} : binD .FloorDiv (.int a) (.int b) = if 0 < b ∧ b < 2 ^ 2000 then some ⟨.int (a / b), false⟩ else none := rfl
@[simp] theorem q_mod {a b : Int} : binD .Mod (.int a) (.int b) = if 0 < b then some ⟨.int (a % b), false⟩ else none := rfl
@[simp] theorem q_pow {a b : Int} : binD .Pow (.int a) (.int b) = if 0 ≤ b ∧ b ≤ 1000000 ∧ a.natAbs < 2 ^ 64 then some ⟨.int (a ^ b.toNat), false⟩ else none := rfl
@[simp] theorem q_addS {x y : Str} : binD .Add (.str x) (.str y) = if x.length + y.length ≤ 16777216 then some ⟨.str (x ++ y), false⟩ else none := rfl
@[simp] theorem q_addL {x y : List D} : binD .Add (.lst x) (.lst y) = if x.length + y.length ≤ 16777216 then some ⟨.lst (x ++ y), true⟩ else none := rfl
@[simp] theorem q_addT {x y : List D} : binD .Add (.tup x) (.tup y) = if x.length + y.length ≤ 16777216 then some ⟨.tup (x ++ y), false⟩ else none := rfl
@[simp] theorem q_eq {a b : D} : cmpD .Eq a b = eqD a b := rfl
@[simp] theorem q_ne {a b : D} : cmpD .NotEq a b = (eqD a b).map (!·) := rfl
@[simp] theorem q_lt {a b : Int} : cmpD .Lt (.int a) (.int b) = some (decide (a < b)) := rfl
@[simp] theorem q_ltS {a b : Str} : cmpD .Lt (.str a) (.str b) = some (strLt a b) := rfl
@[simp] theorem q_le {a b : Int} : cmpD .LtE (.int a) (.int b) = some (decide (a ≤ b)) := rfl
@[simp] theorem q_gt {a b : Int} : cmpD .Gt (.int a) (.int b) = some (decide (b < a)) := rfl
@[simp] theorem q_ge {a b : Int} : cmpD .GtE (.int a) (.int b) = some (decide (b ≤ a)) := rfl
@[simp] theorem q_inL {a : D} {xs : List D} : cmpD .In a (.lst xs) = memD a xs := rfl
@[simp] theorem q_inT {a : D} {xs : List D} : cmpD .In a (.tup xs) = memD a xs := rfl
@[simp] theorem q_inK {a : D} {kvs : List (L2.Key × D)} : cmpD .In a (.dK kvs) = (keyD a).map fun k => (getA kvs k).isSome := rfl
@[simp] theorem q_ninL {a : D} {xs : List D} : cmpD .NotIn a (.lst xs) = (memD a xs).map (!·) := rfl
@[simp] theorem q_ninT {a : D} {xs : List D} : cmpD .NotIn a (.tup xs) = (memD a xs).map (!·) := rfl
@[simp] theorem q_ninK {a : D} {kvs : List (L2.Key × D)} : cmpD .NotIn a (.dK kvs) = (keyD a).map fun k => !(getA kvs k).isSome := rfl
@[simp] theorem q_slL {xs : List D} {lo hi : Option Int} : slD (.lst xs) lo hi = some ⟨.lst (cutD xs lo hi), true⟩ := rfl
@[simp] theorem q_slS {xs : List Int} {lo hi : Option Int} : slD (.scr xs) lo hi = some ⟨.lst ((cutD xs lo hi).map D.int), true⟩ := rfl
@[simp] theorem q_slZ {z : Str} {lo hi : Option Int} : slD (.str z) lo hi = if z.length ≤ 16777216 then some ⟨.str (L2.cutS z lo hi), false⟩ else none := rfl
@[simp] theorem q_slT {xs : List D} {lo hi : Option Int} : slD (.tup xs) lo hi = some ⟨.tup (cutD xs lo hi), false⟩ := rfl
@[simp] theorem q_kI {a : Int} : keyD (.int a) = some (.inl a) := rfl
@[simp] theorem q_kS {a : Str} : keyD (.str a) = some (.inr a) := rfl
@[simp] theorem q_mput {a : D} {ds : List D} : muD .put a ds = (muPut a ds).map fun d => (d, .non) := rfl
@[simp] theorem q_mputK {kvs : List (L2.Key × D)} {k v : D} : muPut (.dK kvs) [k, v] = (keyD k).bind fun k => if kvs.length < 16777216 then some (.dK (putA kvs k v)) else none := rfl
@[simp] theorem q_mputL {xs : List D} {k : Int} {v : D} : muPut (.lst xs) [.int k, v] = (L2.ixN xs.length k).map fun j => .lst (xs.set j v) := rfl
@[simp] theorem q_mdcl {kvs : List (L2.Key × D)} : muD .dclear (.dK kvs) [] = some (.dK [], .non) := rfl
@[simp] theorem q_mdpop {kvs : List (L2.Key × D)} {k : D} : muD .dpop (.dK kvs) [k] = (keyD k).bind fun k => (getA kvs k).map fun d => (.dK (dropA kvs k), d) := rfl
@[simp] theorem q_mapp {xs : List D} {d : D} : muD .append (.lst xs) [d] = if xs.length < 16777216 then some (.lst (xs ++ [d]), .non) else none := rfl
@[simp] theorem q_mext {xs ys : List D} : muD .extend (.lst xs) [.lst ys] = if xs.length + ys.length ≤ 16777216 then some (.lst (xs ++ ys), .non) else none := rfl
@[simp] theorem q_mins {xs : List D} {i : Int} {d : D} : muD .insert (.lst xs) [.int i, d] = if xs.length < 16777216 ∧ 0 ≤ i ∧ i < 2 ^ 63 then some (.lst (xs.take i.toNat ++ [d] ++ xs.drop i.toNat), .non) else none := rfl
@[simp] theorem q_mpopA {xs : List D} {i : Int} : muD .popAt (.lst xs) [.int i] = if 0 ≤ i ∧ i < 2 ^ 63 then (xs[i.toNat]?).map fun d => (.lst (xs.eraseIdx i.toNat), d) else none := rfl
@[simp] theorem q_mpop {xs : List D} : muD .pop (.lst xs) [] = (xs[xs.length - 1]?).map fun d => (.lst xs.dropLast, d) := rfl
@[simp] theorem q_mclr {xs : List D} : muD .clear (.lst xs) [] = some (.lst [], .non) := rfl
@[simp] theorem q_pm1 {xs : List D} : preM .append (.lst xs) = true := rfl
@[simp] theorem q_pm2 {xs : List D} : preM .insert (.lst xs) = true := rfl
@[simp] theorem q_pm3 {xs : List D} : preM .popAt (.lst xs) = true := rfl
@[simp] theorem q_pm4 {xs : List D} : preM .extend (.lst xs) = true := rfl
@[simp] theorem q_pm5 {xs : List D} : preM .pop (.lst xs) = true := rfl
@[simp] theorem q_pm6 {xs : List D} : preM .clear (.lst xs) = true := rfl
@[simp] theorem q_pm7 {kvs : List (L2.Key × D)} : preM .dclear (.dK kvs) = true := rfl
@[simp] theorem q_pm8 {kvs : List (L2.Key × D)} : preM .dpop (.dK kvs) = true := rfl
@[simp] theorem q_mdset {kvs : List (L2.Key × D)} {k v : D} : muD .dsetd (.dK kvs) [k, v] = (keyD k).bind fun k => if kvs.length < 16777216 then some (match getA kvs k with
        | some d => (.dK kvs, d)
        | none => (.dK (putA kvs k v), v)) else none := rfl
@[simp] theorem q_pm9 {kvs : List (L2.Key × D)} : preM .dsetd (.dK kvs) = true := rfl
@[simp] theorem q_bl {d : D} : biD .len [d] = (lenD d).map fun (n : Nat) => ⟨.int (n : Int), false⟩ := by cases h : lenD d <;> simp [biD, h]
@[simp] theorem q_bs {ds : List D} : biD .sorted [.lst ds] = sortD ds := rfl
@[simp] theorem q_bll {ds : List D} : biD .list [.lst ds] = some ⟨.lst ds, true⟩ := rfl
@[simp] theorem q_blt {ds : List D} : biD .list [.tup ds] = some ⟨.lst ds, true⟩ := rfl
@[simp] theorem q_bd {kvs : List (L2.Key × D)} : biD .dict [.dK kvs] = some ⟨.dK kvs, true⟩ := rfl
@[simp] theorem q_bdl {ds : List D} : biD .dict [.lst ds] = (pairsP ds).map fun kvs => ⟨.dK (mergeA [] kvs), true⟩ := rfl
@[simp] theorem q_bmx {i j : Int} : biD .max2 [.int i, .int j] = some ⟨.int (if j > i then j else i), false⟩ := rfl
@[simp] theorem q_bmn {i j : Int} : biD .min2 [.int i, .int j] = some ⟨.int (if j < i then j else i), false⟩ := rfl
@[simp] theorem q_bsum {ds : List D} : biD .sum [.lst ds] = (intsD ds).map fun ns => ⟨.int ns.sum, false⟩ := rfl
@[simp] theorem q_bany {ds : List D} : biD .any [.lst ds] = (blsD ds).map fun ns => ⟨.bl (ns.any id), false⟩ := rfl
@[simp] theorem q_ball {ds : List D} : biD .all [.lst ds] = (blsD ds).map fun ns => ⟨.bl (ns.all id), false⟩ := rfl
@[simp] theorem q_otl {ds : List D} : onD .tup [.lst ds] = some ⟨.tup ds, false⟩ := rfl
@[simp] theorem q_ott {ds : List D} : onD .tup [.tup ds] = some ⟨.tup ds, false⟩ := rfl
@[simp] theorem q_omx {j : Int} {ds : List D} : onD (.maxd j) [.lst ds] = (intsD ds).map fun ns => ⟨.int (maxI ns j), false⟩ := rfl
@[simp] theorem q_ovl {kvs : List (L2.Key × D)} : onD .vals [.dK kvs] = some ⟨.lst (kvs.map (·.2)), true⟩ := rfl
@[simp] theorem q_oti {j : Int} : onD .toi [.int j] = some ⟨.int j, false⟩ := rfl
@[simp] theorem q_otb {b : Bool} : onD .toi [.bl b] = some ⟨.int (if b then 1 else 0), false⟩ := rfl
@[simp] theorem q_oct {ds : List D} {a : Str} : onD .cnt [.lst ds, .str a] = (strsD ds).map fun ys => ⟨.int (ys.count a : Nat), false⟩ := rfl
@[simp] theorem q_pd0 {acc : List (L2.Key × D)} : pairsD acc [] = some acc := rfl
@[simp] theorem q_pd1 {acc : List (L2.Key × D)} {k v : D} {r : List D} : pairsD acc (k :: v :: r) = (keyD k).bind fun k => pairsD (setA acc k v) r := rfl
@[simp] theorem q_sA0 {k : L2.Key} {v : D} : setA ([] : List (L2.Key × D)) k v = [(k, v)] := rfl
@[simp] theorem q_is_1   : cmpD .Is .non .non = some true := rfl
@[simp] theorem q_is_2   : cmpD .IsNot .non .non = some false := rfl
@[simp] theorem q_is_3 {x : Bool} {y : Bool} : cmpD .Is (.bl x) (.bl y) = some (decide (x = y)) := rfl
@[simp] theorem q_is_4 {x : Bool} {y : Bool} : cmpD .IsNot (.bl x) (.bl y) = some (!decide (x = y)) := rfl
@[simp] theorem q_is_5 {x : Bool}  : cmpD .Is (.bl x) .non = some false := rfl
@[simp] theorem q_is_6 {x : Bool}  : cmpD .IsNot (.bl x) .non = some true := rfl
@[simp] theorem q_is_7 {x : Int}  : cmpD .Is (.int x) .non = some false := rfl
@[simp] theorem q_is_8 {x : Int}  : cmpD .IsNot (.int x) .non = some true := rfl
@[simp] theorem q_is_9 {x : Str}  : cmpD .Is (.str x) .non = some false := rfl
@[simp] theorem q_is_10 {x : Str}  : cmpD .IsNot (.str x) .non = some true := rfl
@[simp] theorem q_is_11 {x : List D}  : cmpD .Is (.lst x) .non = some false := rfl
@[simp] theorem q_is_12 {x : List D}  : cmpD .IsNot (.lst x) .non = some true := rfl
@[simp] theorem q_is_13 {x : List D}  : cmpD .Is (.tup x) .non = some false := rfl
@[simp] theorem q_is_14 {x : List D}  : cmpD .IsNot (.tup x) .non = some true := rfl
@[simp] theorem q_is_15 {x : List (L2.Key × D)}  : cmpD .Is (.dK x) .non = some false := rfl
@[simp] theorem q_is_16 {x : List (L2.Key × D)}  : cmpD .IsNot (.dK x) .non = some true := rfl
@[simp] theorem q_is_17 {x : Nat} {x2 : List (Nat × D)}  : cmpD .Is (.obj x x2) .non = some false := rfl
@[simp] theorem q_is_18 {x : Nat} {x2 : List (Nat × D)}  : cmpD .IsNot (.obj x x2) .non = some true := rfl
@[simp] theorem q_is_19  {y : Bool} : cmpD .Is .non (.bl y) = some false := rfl
@[simp] theorem q_is_20  {y : Bool} : cmpD .IsNot .non (.bl y) = some true := rfl
@[simp] theorem q_b_non_str  : isB .non .str = false := rfl
@[simp] theorem q_b_non_int  : isB .non .int = false := rfl
@[simp] theorem q_b_non_bool  : isB .non .bool = false := rfl
@[simp] theorem q_b_non_list  : isB .non .list = false := rfl
@[simp] theorem q_b_non_tuple  : isB .non .tuple = false := rfl
@[simp] theorem q_b_non_dict  : isB .non .dict = false := rfl
@[simp] theorem q_b_non_cls  {c : Nat} : isB .non (.cls c) = false := rfl
@[simp] theorem q_b_bl_str {x : Bool} : isB (.bl x) .str = false := rfl
@[simp] theorem q_b_bl_int {x : Bool} : isB (.bl x) .int = true := rfl
@[simp] theorem q_b_bl_bool {x : Bool} : isB (.bl x) .bool = true := rfl
@[simp] theorem q_b_bl_list {x : Bool} : isB (.bl x) .list = false := rfl
@[simp] theorem q_b_bl_tuple {x : Bool} : isB (.bl x) .tuple = false := rfl
@[simp] theorem q_b_bl_dict {x : Bool} : isB (.bl x) .dict = false := rfl
@[simp] theorem q_b_bl_cls {x : Bool} {c : Nat} : isB (.bl x) (.cls c) = false := rfl
@[simp] theorem q_b_int_str {x : Int} : isB (.int x) .str = false := rfl
@[simp] theorem q_b_int_int {x : Int} : isB (.int x) .int = true := rfl
@[simp] theorem q_b_int_bool {x : Int} : isB (.int x) .bool = false := rfl
@[simp] theorem q_b_int_list {x : Int} : isB (.int x) .list = false := rfl
@[simp] theorem q_b_int_tuple {x : Int} : isB (.int x) .tuple = false := rfl
@[simp] theorem q_b_int_dict {x : Int} : isB (.int x) .dict = false := rfl
@[simp] theorem q_b_int_cls {x : Int} {c : Nat} : isB (.int x) (.cls c) = false := rfl
@[simp] theorem q_b_str_str {x : Str} : isB (.str x) .str = true := rfl
@[simp] theorem q_b_str_int {x : Str} : isB (.str x) .int = false := rfl
@[simp] theorem q_b_str_bool {x : Str} : isB (.str x) .bool = false := rfl
@[simp] theorem q_b_str_list {x : Str} : isB (.str x) .list = false := rfl
@[simp] theorem q_b_str_tuple {x : Str} : isB (.str x) .tuple = false := rfl
@[simp] theorem q_b_str_dict {x : Str} : isB (.str x) .dict = false := rfl
@[simp] theorem q_b_str_cls {x : Str} {c : Nat} : isB (.str x) (.cls c) = false := rfl
@[simp] theorem q_b_lst_str {x : List D} : isB (.lst x) .str = false := rfl
@[simp] theorem q_b_lst_int {x : List D} : isB (.lst x) .int = false := rfl
@[simp] theorem q_b_lst_bool {x : List D} : isB (.lst x) .bool = false := rfl
@[simp] theorem q_b_lst_list {x : List D} : isB (.lst x) .list = true := rfl
@[simp] theorem q_b_lst_tuple {x : List D} : isB (.lst x) .tuple = false := rfl
@[simp] theorem q_b_lst_dict {x : List D} : isB (.lst x) .dict = false := rfl
@[simp] theorem q_b_lst_cls {x : List D} {c : Nat} : isB (.lst x) (.cls c) = false := rfl
@[simp] theorem q_b_tup_str {x : List D} : isB (.tup x) .str = false := rfl
@[simp] theorem q_b_tup_int {x : List D} : isB (.tup x) .int = false := rfl
@[simp] theorem q_b_tup_bool {x : List D} : isB (.tup x) .bool = false := rfl
@[simp] theorem q_b_tup_list {x : List D} : isB (.tup x) .list = false := rfl
@[simp] theorem q_b_tup_tuple {x : List D} : isB (.tup x) .tuple = true := rfl
@[simp] theorem q_b_tup_dict {x : List D} : isB (.tup x) .dict = false := rfl
@[simp] theorem q_b_tup_cls {x : List D} {c : Nat} : isB (.tup x) (.cls c) = false := rfl
@[simp] theorem q_b_dK_str {x : List (L2.Key × D)} : isB (.dK x) .str = false := rfl
@[simp] theorem q_b_dK_int {x : List (L2.Key × D)} : isB (.dK x) .int = false := rfl
@[simp] theorem q_b_dK_bool {x : List (L2.Key × D)} : isB (.dK x) .bool = false := rfl
@[simp] theorem q_b_dK_list {x : List (L2.Key × D)} : isB (.dK x) .list = false := rfl
@[simp] theorem q_b_dK_tuple {x : List (L2.Key × D)} : isB (.dK x) .tuple = false := rfl
@[simp] theorem q_b_dK_dict {x : List (L2.Key × D)} : isB (.dK x) .dict = true := rfl
@[simp] theorem q_b_dK_cls {x : List (L2.Key × D)} {c : Nat} : isB (.dK x) (.cls c) = false := rfl
@[simp] theorem sde_non (st : List D)  : deref st .non = some .non := rfl
@[simp] theorem sde_bl (st : List D) (b : Bool) : deref st (.bl b) = some (.bl b) := rfl
@[simp] theorem sde_int (st : List D) (i : Int) : deref st (.int i) = some (.int i) := rfl
@[simp] theorem sde_str (st : List D) (s : Str) : deref st (.str s) = some (.str s) := rfl
@[simp] theorem sde_lst (st : List D) (xs : List D) : deref st (.lst xs) = some (.lst xs) := rfl
@[simp] theorem sde_tup (st : List D) (xs : List D) : deref st (.tup xs) = some (.tup xs) := rfl
@[simp] theorem sde_dK (st : List D) (kvs : List (L2.Key × D)) : deref st (.dK kvs) = some (.dK kvs) := rfl
@[simp] theorem sde_obj (st : List D) (c : Nat) (fs : List (Nat × D)) : deref st (.obj c fs) = some (.obj c fs) := rfl
@[simp] theorem sde_scr (st : List D) (ns : List Int) : deref st (.scr ns) = some (.scr ns) := rfl
@[simp] theorem sde_exn (st : List D) (c : Nat) (fs : List (Nat × D)) : deref st (.exn c fs) = some (.exn c fs) := rfl
@[simp] theorem sde_rf (st : List D) (n : Nat) : deref st (.rf n) = st[n]? := rfl
@[simp] theorem sfl_non  : flatD .non = true := rfl
@[simp] theorem sfl_bl (b : Bool) : flatD (.bl b) = true := rfl
@[simp] theorem sfl_int (i : Int) : flatD (.int i) = true := rfl
@[simp] theorem sfl_str (s : Str) : flatD (.str s) = true := rfl
@[simp] theorem sfl_lst (xs : List D) : flatD (.lst xs) = false := rfl
@[simp] theorem sfl_tup (xs : List D) : flatD (.tup xs) = false := rfl
@[simp] theorem sfl_dK (kvs : List (L2.Key × D)) : flatD (.dK kvs) = false := rfl
@[simp] theorem sfl_obj (c : Nat) (fs : List (Nat × D)) : flatD (.obj c fs) = false := rfl
@[simp] theorem sfl_scr (ns : List Int) : flatD (.scr ns) = false := rfl
@[simp] theorem sfl_exn (c : Nat) (fs : List (Nat × D)) : flatD (.exn c fs) = false := rfl
@[simp] theorem spl_non  : plainD .non = true := rfl
@[simp] theorem spl_bl (b : Bool) : plainD (.bl b) = true := rfl
@[simp] theorem spl_int (i : Int) : plainD (.int i) = true := rfl
@[simp] theorem spl_str (s : Str) : plainD (.str s) = true := rfl
@[simp] theorem spl_lst (xs : List D) : plainD (.lst xs) = xs.all flatD := rfl
@[simp] theorem spl_tup (xs : List D) : plainD (.tup xs) = false := rfl
@[simp] theorem spl_dK (kvs : List (L2.Key × D)) : plainD (.dK kvs) = false := rfl
@[simp] theorem spl_obj (c : Nat) (fs : List (Nat × D)) : plainD (.obj c fs) = fs.all fun p => flatD p.2 := rfl
@[simp] theorem spl_scr (ns : List Int) : plainD (.scr ns) = false := rfl
@[simp] theorem spl_exn (c : Nat) (fs : List (Nat × D)) : plainD (.exn c fs) = false := rfl
@[simp] theorem sty_non (Φ : CT)  (t : Ty) : isTy Φ .non t = some (isB .non t) := rfl
@[simp] theorem sty_bl (Φ : CT) (b : Bool) (t : Ty) : isTy Φ (.bl b) t = some (isB (.bl b) t) := rfl
@[simp] theorem sty_int (Φ : CT) (i : Int) (t : Ty) : isTy Φ (.int i) t = some (isB (.int i) t) := rfl
@[simp] theorem sty_str (Φ : CT) (s : Str) (t : Ty) : isTy Φ (.str s) t = some (isB (.str s) t) := rfl
@[simp] theorem sty_lst (Φ : CT) (xs : List D) (t : Ty) : isTy Φ (.lst xs) t = some (isB (.lst xs) t) := rfl
@[simp] theorem sty_tup (Φ : CT) (xs : List D) (t : Ty) : isTy Φ (.tup xs) t = some (isB (.tup xs) t) := rfl
@[simp] theorem sty_dK (Φ : CT) (kvs : List (L2.Key × D)) (t : Ty) : isTy Φ (.dK kvs) t = some (isB (.dK kvs) t) := rfl
@[simp] theorem sty_obj (Φ : CT) (c : Nat) (fs : List (Nat × D)) (c2 : Nat) : isTy Φ (.obj c fs) (.cls c2) = (Φ.isa c c).bind fun _ => Φ.isa c c2 := rfl
@[simp] theorem sty_obj_str (Φ : CT) (c : Nat) (fs : List (Nat × D)) : isTy Φ (.obj c fs) .str = (Φ.isa c c).map fun _ => false := rfl
@[simp] theorem sty_obj_int (Φ : CT) (c : Nat) (fs : List (Nat × D)) : isTy Φ (.obj c fs) .int = (Φ.isa c c).map fun _ => false := rfl
@[simp] theorem sty_obj_bool (Φ : CT) (c : Nat) (fs : List (Nat × D)) : isTy Φ (.obj c fs) .bool = (Φ.isa c c).map fun _ => false := rfl
@[simp] theorem sty_obj_list (Φ : CT) (c : Nat) (fs : List (Nat × D)) : isTy Φ (.obj c fs) .list = (Φ.isa c c).map fun _ => false := rfl
@[simp] theorem sty_obj_tuple (Φ : CT) (c : Nat) (fs : List (Nat × D)) : isTy Φ (.obj c fs) .tuple = (Φ.isa c c).map fun _ => false := rfl
@[simp] theorem sty_obj_dict (Φ : CT) (c : Nat) (fs : List (Nat × D)) : isTy Φ (.obj c fs) .dict = (Φ.isa c c).map fun _ => false := rfl
@[simp] theorem sit_lst (xs : List D) : itemsD .seq [.lst xs] = some xs := rfl
@[simp] theorem sit_scr (ns : List Int) : itemsD .seq [.scr ns] = some (ns.map D.int) := rfl
@[simp] theorem sit_tup (xs : List D) : itemsD .seq [.tup xs] = some xs := rfl
@[simp] theorem sit_str (z : Str) : itemsD .seq [.str z] = some (z.cps.toList.map fun c => .str ⟨#[c]⟩) := rfl
@[simp] theorem sit_r1 (j : Int) : itemsD .range1 [.int j] = if big62 j then some (rangeD 0 j.toNat) else none := rfl
@[simp] theorem sit_r2 (i j : Int) : itemsD .range2 [.int i, .int j] = if big62 i && big62 j then some (rangeD i (j - i).toNat) else none := rfl
@[simp] theorem sit_enum (xs : List D) : itemsD .enum [.lst xs] = some (pairsE 0 xs) := rfl
@[simp] theorem sit_zll (xs ys : List D) : itemsD .zip [.lst xs, .lst ys] = some (zipD xs ys) := rfl
@[simp] theorem sit_ztl (xs ys : List D) : itemsD .zip [.tup xs, .lst ys] = some (zipD xs ys) := rfl
@[simp] theorem sit_zlt (xs ys : List D) : itemsD .zip [.lst xs, .tup ys] = some (zipD xs ys) := rfl
@[simp] theorem sit_ztt (xs ys : List D) : itemsD .zip [.tup xs, .tup ys] = some (zipD xs ys) := rfl
@[simp] theorem sitk_lst (xs : List D) : itemsD .seqK [.lst xs] = some xs := rfl
@[simp] theorem sitk_tup (xs : List D) : itemsD .seqK [.tup xs] = some xs := rfl
@[simp] theorem sitk_dK (kvs : List (L2.Key × D)) : itemsD .seqK [.dK kvs] = some (kvs.map fun p => dKey p.1) := rfl
@[simp] theorem sit_rev (xs : List D) : itemsD .rev [.lst xs] = some xs.reverse := rfl
@[simp] theorem sln_lst (xs : List D) : lenD (.lst xs) = some xs.length := rfl
@[simp] theorem sln_tup (xs : List D) : lenD (.tup xs) = some xs.length := rfl
@[simp] theorem sln_scr (xs : List Int) : lenD (.scr xs) = some xs.length := rfl
@[simp] theorem sln_str (z : Str) : lenD (.str z) = if z.length ≤ 16777216 then some z.length else none := rfl
@[simp] theorem sln_dK (kvs : List (L2.Key × D)) : lenD (.dK kvs) = some kvs.length := rfl
@[simp] theorem six_lst (xs : List D) (i : Int) : ixD (.lst xs) (.int i) = L2.atI xs i := rfl
@[simp] theorem six_tup (xs : List D) (i : Int) : ixD (.tup xs) (.int i) = L2.atI xs i := rfl
@[simp] theorem six_scr (xs : List Int) (i : Int) : ixD (.scr xs) (.int i) = (L2.atI xs i).map D.int := rfl
@[simp] theorem six_str (z : Str) (i : Int) : ixD (.str z) (.int i) = if z.length ≤ 16777216 then (L2.atI z.cps.toList i).map fun c => .str ⟨#[c]⟩ else none := rfl
@[simp] theorem six_dK (kvs : List (L2.Key × D)) (k : D) : ixD (.dK kvs) k = (keyD k).bind fun k => getA kvs k := rfl
end
end MT
namespace Pgm
open PySem MT
@[simp] theorem g_cell_de : type_of% @cell_de := @cell_de
@[simp] theorem g_fl_cell : type_of% @fl_cell := @fl_cell
@[simp] theorem g_pl_cell : type_of% @pl_cell := @pl_cell
@[simp] theorem g_de_cd : type_of% @de_cd := @de_cd
@[simp] theorem g_fl_cd : type_of% @fl_cd := @fl_cd
@[simp] theorem g_de_cw : type_of% @de_cw := @de_cw
@[simp] theorem g_fl_cw : type_of% @fl_cw := @fl_cw
@[simp] theorem g_de_tb : type_of% @de_tb := @de_tb
@[simp] theorem g_fl_tb : type_of% @fl_tb := @fl_tb
@[simp] theorem g_de_tupR : type_of% @de_tupR := @de_tupR
@[simp] theorem g_fl_tupR : type_of% @fl_tupR := @fl_tupR
@[simp] theorem g_tup_fold : type_of% @tup_fold := @tup_fold
@[simp] theorem g_ty_tupR_str : type_of% @ty_tupR_str := @ty_tupR_str
@[simp] theorem g_ty_tupR_int : type_of% @ty_tupR_int := @ty_tupR_int
@[simp] theorem g_ty_tupR_bool : type_of% @ty_tupR_bool := @ty_tupR_bool
@[simp] theorem g_ty_tupR_list : type_of% @ty_tupR_list := @ty_tupR_list
@[simp] theorem g_ty_tupR_tuple : type_of% @ty_tupR_tuple := @ty_tupR_tuple
@[simp] theorem g_ty_tupR_dict : type_of% @ty_tupR_dict := @ty_tupR_dict
@[simp] theorem g_items_tupR : type_of% @items_tupR := @items_tupR
@[simp] theorem g_len_tupR : type_of% @len_tupR := @len_tupR
@[simp] theorem g_ix_tupR : type_of% @ix_tupR := @ix_tupR
@[simp] theorem g_memD_rep : type_of% @memD_rep := @memD_rep
@[simp] theorem g_memD_tf : type_of% @memD_tf := @memD_tf
@[simp] theorem g_ty_cell : type_of% @ty_cell := @ty_cell
@[simp] theorem g_memD_strs_ : type_of% @memD_strs' := @memD_strs'
@[simp] theorem g_memD_bls_ : type_of% @memD_bls' := @memD_bls'
@[simp] theorem g_memD_ints : type_of% @memD_ints := @memD_ints
@[simp] theorem g_memD_rows : type_of% @memD_rows := @memD_rows
@[simp] theorem g_biD_all : type_of% @biD_all := @biD_all
@[simp] theorem g_biD_any : type_of% @biD_any := @biD_any
@[simp] theorem g_biD_sum : type_of% @biD_sum := @biD_sum
@[simp] theorem g_eqD_int : type_of% @eqD_int := @eqD_int
@[simp] theorem g_eqD_str : type_of% @eqD_str := @eqD_str
@[simp] theorem g_eqD_bl : type_of% @eqD_bl := @eqD_bl
@[simp] theorem g_eqD_rows : type_of% @eqD_rows := @eqD_rows
@[simp] theorem g_eqD_tupR : type_of% @eqD_tupR := @eqD_tupR
@[simp] theorem g_eqD_ints : type_of% @eqD_ints := @eqD_ints
@[simp] theorem g_eqD_strs : type_of% @eqD_strs := @eqD_strs
@[simp] theorem g_eq_nil : type_of% @eq_nil := @eq_nil
@[simp] theorem g_at3_0 : type_of% @at3_0 := @at3_0
@[simp] theorem g_at3_1 : type_of% @at3_1 := @at3_1
@[simp] theorem g_at3_2 : type_of% @at3_2 := @at3_2
@[simp] theorem g_at3_3 : type_of% @at3_3 := @at3_3
@[simp] theorem g_at_neg1 : type_of% @at_neg1 := @at_neg1
@[simp] theorem g_intsD_map : type_of% @intsD_map := @intsD_map
@[simp] theorem g_strsD_map : type_of% @strsD_map := @strsD_map
@[simp] theorem g_blsD_map : type_of% @blsD_map := @blsD_map
@[simp] theorem g_sortD_ints : type_of% @sortD_ints := @sortD_ints
@[simp] theorem g_wd_tt : type_of% @wd_tt := @wd_tt
@[simp] theorem g_wd_st : type_of% @wd_st := @wd_st
@[simp] theorem g_wd_at : type_of% @wd_at := @wd_at
@[simp] theorem g_wd_ot : type_of% @wd_ot := @wd_ot
@[simp] theorem g_wd_nt : type_of% @wd_nt := @wd_nt
@[simp] theorem g_wd_ts : type_of% @wd_ts := @wd_ts
@[simp] theorem g_wd_ss : type_of% @wd_ss := @wd_ss
@[simp] theorem g_wd_as : type_of% @wd_as := @wd_as
@[simp] theorem g_wd_os : type_of% @wd_os := @wd_os
@[simp] theorem g_wd_ns : type_of% @wd_ns := @wd_ns
@[simp] theorem g_wd_ta : type_of% @wd_ta := @wd_ta
@[simp] theorem g_wd_sa : type_of% @wd_sa := @wd_sa
@[simp] theorem g_wd_aa : type_of% @wd_aa := @wd_aa
@[simp] theorem g_wd_oa : type_of% @wd_oa := @wd_oa
@[simp] theorem g_wd_na : type_of% @wd_na := @wd_na
@[simp] theorem g_wd_to : type_of% @wd_to := @wd_to
@[simp] theorem g_wd_so : type_of% @wd_so := @wd_so
@[simp] theorem g_wd_ao : type_of% @wd_ao := @wd_ao
@[simp] theorem g_wd_oo : type_of% @wd_oo := @wd_oo
@[simp] theorem g_wd_no : type_of% @wd_no := @wd_no
@[simp] theorem g_wd_tn : type_of% @wd_tn := @wd_tn
@[simp] theorem g_wd_sn : type_of% @wd_sn := @wd_sn
@[simp] theorem g_wd_an : type_of% @wd_an := @wd_an
@[simp] theorem g_wd_on : type_of% @wd_on := @wd_on
@[simp] theorem g_wd_nn : type_of% @wd_nn := @wd_nn
end Pgm
namespace K21
open PySem MT Pgm
@[simp] theorem io_35 {n : Nat} : (pg.ct 63 n).io 35 = [] := rfl
@[simp] theorem io_37 {n : Nat} : (pg.ct 63 n).io 37 = [] := rfl
@[simp] theorem io_38 {n : Nat} : (pg.ct 63 n).io 38 = [] := rfl
@[simp] theorem io_39 {n : Nat} : (pg.ct 63 n).io 39 = [] := rfl
@[simp] theorem io_40 {n : Nat} : (pg.ct 63 n).io 40 = [] := rfl
@[simp] theorem io_41 {n : Nat} : (pg.ct 63 n).io 41 = [] := rfl
@[simp] theorem io_300 {n : Nat} : (pg.ct 63 n).io 300 = [] := rfl
@[simp] theorem io_301 {n : Nat} : (pg.ct 63 n).io 301 = [] := rfl
@[simp] theorem io_302 {n : Nat} : (pg.ct 63 n).io 302 = [] := rfl
@[simp] theorem io_303 {n : Nat} : (pg.ct 63 n).io 303 = [] := rfl
@[simp] theorem io_304 {n : Nat} : (pg.ct 63 n).io 304 = [] := rfl
@[simp] theorem io_305 {n : Nat} : (pg.ct 63 n).io 305 = [] := rfl
@[simp] theorem io_306 {n : Nat} : (pg.ct 63 n).io 306 = [] := rfl
@[simp] theorem io_307 {n : Nat} : (pg.ct 63 n).io 307 = [] := rfl
@[simp] theorem io_308 {n : Nat} : (pg.ct 63 n).io 308 = [] := rfl
@[simp] theorem io_309 {n : Nat} : (pg.ct 63 n).io 309 = [] := rfl
@[simp] theorem io_310 {n : Nat} : (pg.ct 63 n).io 310 = [] := rfl
@[simp] theorem io_311 {n : Nat} : (pg.ct 63 n).io 311 = [] := rfl
@[simp] theorem io_312 {n : Nat} : (pg.ct 63 n).io 312 = [] := rfl
@[simp] theorem io_313 {n : Nat} : (pg.ct 63 n).io 313 = [] := rfl
theorem cj {n j : Nat} {f : DefI} {st ds : List D} {r : CR} (h : pg.defs j = some f) (hr : runDef (pg.ct 63 n) f st ds = r) : (pg.ct 63 (n + 1)).call j st ds = r := (call_eq h st ds).trans hr
theorem cxw {n j : Nat} {f : DefI} {st ds : List D} {Q : Val → Prop} (h : pg.defs j = some f) (hr : ∃ v, Q v ∧ runDef (pg.ct 63 n) f st ds = .ok v [] st) : ∃ v, Q v ∧ (pg.ct 63 (n + 1)).call j st ds = .ok v [] st := by
  obtain ⟨v, h1, h2⟩ := hr
  exact ⟨v, h1, cj h h2⟩
end K21
namespace Pgm
open PySem MT
@[simp] theorem wd_yt : (("any" : Str) == "truth") = false := by decide +kernel
@[simp] theorem wd_ys : (("any" : Str) == "same") = false := by decide +kernel
@[simp] theorem wd_yn : (("any" : Str) == "not") = false := by decide +kernel
@[simp] theorem wd_ya : (("any" : Str) == "all") = false := by decide +kernel
mutual
def Cd.v : Cd → D
  | .truth b => .tup [.str "truth", .bl b]
  | .same x y => .tup [.str "same", x.d, y.d]
  | .opp c => .tup [.str "not", c.v]
  | .all cs => .tup [.str "all", .lst (Cd.vs cs)]
  | .one cs => .tup [.str "any", .lst (Cd.vs cs)]
def Cd.vs : List Cd → List D
  | [] => []
  | c :: cs => c.v :: Cd.vs cs
end
theorem cv_tup (c : Cd) : ∃ l, c.v = .tup l := by cases c <;> simp [Cd.v]
@[simp] theorem de_cv (c : Cd) (st : List D) : deref st c.v = some c.v := by obtain ⟨l, h⟩ := cv_tup c; rw [h]; rfl
@[simp] theorem fl_cv (c : Cd) : flatD c.v = false := by obtain ⟨l, h⟩ := cv_tup c; rw [h]; rfl
@[simp] theorem it_tupl (ds : List D) : itemsD .tupl [.tup ds] = some ds := rfl
theorem strs_at {xs : List Str} {i : Nat} (h : i < xs.length) : L2.atI (xs.map D.str) (i : Int) = some (.str xs[i]) := by
  unfold L2.atI L2.ixN
  rw [List.length_map, if_pos (by omega), if_pos (by omega), Option.bind_some, List.getElem?_map, Int.toNat_natCast, List.getElem?_eq_getElem h]
  rfl
def lvOf (p : List Cell × Cd) : List Int := p.1.filterMap Cell.valO ++ p.2.standS
def Tb.valL (t : Tb) : List Int := t.kept.standS ++ t.lines.flatMap lvOf
def Tb.standS (t : Tb) : List Int := ssetI t.valL
end Pgm
namespace Pgm
open PySem MT
structure TbS (n : Nat) (t : Tb) : Prop where
  ok : TbOk n t
  ks : t.kept.standS.length < 64
  cs : ∀ p ∈ t.lines, p.2.standS.length < 64
  vl : t.valL.length < 4000
  vs : t.standS.length < 64
theorem TbS.mono {n m : Nat} {t : Tb} (h : TbS n t) (l : n ≤ m) : TbS m t := ⟨h.ok.mono l, h.ks, h.cs, h.vl, h.vs⟩
def putP (s : Str → Cell) (p : List Cell × Cd) : List Cell × Cd := (p.1.map (Cell.put s), p.2.put s)
def putT (s : Str → Cell) (t : Tb) : Tb := ⟨t.cols, t.lines.map (putP s), t.kept.put s⟩
/-- out of some gaps and values -/
def Cell.ofP (gs : List Str) (vs : List Int) : Cell → Prop
  | .gap g => g ∈ gs
  | .val v => v ∈ vs
structure CdW (gs : List Str) (vs : List Int) (d : Nat) (c : Cd) : Prop where
  dep : c.dep ≤ d
  wid : c.wid < 1000
  len : c.cells.length < 4000
  cel : ∀ x ∈ c.cells, x.ofP gs vs
structure TbW (gs : List Str) (vs : List Int) (d : Nat) (t : Tb) : Prop where
  gl : gs.length ≤ 16
  vl : vs.length ≤ 40
  nd : t.cols.Nodup
  cols : t.cols.length ≤ 16
  few : t.lines.length < 64
  row : ∀ p ∈ t.lines, p.1.length = t.cols.length
  cel : ∀ p ∈ t.lines, ∀ x ∈ p.1, x.ofP gs vs
  kept : CdW gs vs d t.kept
  cnd : ∀ p ∈ t.lines, CdW gs vs d p.2
section
variable {gs : List Str} {vs : List Int} {d : Nat}
theorem of_gap {x : Cell} (h : x.ofP gs vs) {g : Str} (e : x.gapO = some g) : g ∈ gs := by
  cases x with
  | gap y => cases e; exact h
  | val v => cases e
theorem of_val {x : Cell} (h : x.ofP gs vs) {v : Int} (e : x.valO = some v) : v ∈ vs := by
  cases x with
  | gap y => cases e
  | val w => cases e; exact h
theorem CdW.gaps {c : Cd} (h : CdW gs vs d c) : ∀ g ∈ c.gaps, g ∈ gs := fun g hg => by
  obtain ⟨x, hx, e⟩ := List.mem_filterMap.mp hg
  exact of_gap (h.cel x hx) e
theorem CdW.gapsS {c : Cd} (h : CdW gs vs d c) : ∀ g ∈ c.gapsS, g ∈ gs := fun g hg => h.gaps g ((ssetS_mem _ _).mp hg)
theorem CdW.standS {c : Cd} (h : CdW gs vs d c) : ∀ v ∈ c.standS, v ∈ vs := fun v hv => by
  obtain ⟨x, hx, e⟩ := List.mem_filterMap.mp ((ssetI_mem _ _).mp hv)
  exact of_val (h.cel x hx) e
theorem ssetI_nd (l : List Int) : (ssetI l).Nodup := (ssetI_rise l).imp fun h => by omega
theorem CdW.gl {c : Cd} (h : CdW gs vs d c) : c.gapsS.length ≤ gs.length := nodup_le (ssetS_nodup _) h.gapsS
theorem CdW.vl {c : Cd} (h : CdW gs vs d c) : c.standS.length ≤ vs.length := nodup_le (ssetI_nd _) h.standS
theorem CdW.ok {c : Cd} (h : CdW gs vs d c) (g : gs.length ≤ 16) {n : Nat} (hn : d + 4 ≤ n) : CdOk n c := ⟨by have := h.dep; omega, h.len, by have := h.gl; omega, h.wid⟩
theorem TbW.gapL {t : Tb} (h : TbW gs vs d t) : ∀ g ∈ t.gapL, g ∈ gs := fun g hg => by
  rcases List.mem_append.mp hg with hg | hg
  · exact h.kept.gapsS g hg
  · obtain ⟨p, hp, hg⟩ := List.mem_flatMap.mp hg
    rcases List.mem_append.mp hg with hg | hg
    · obtain ⟨x, hx, e⟩ := List.mem_filterMap.mp hg
      exact of_gap (h.cel p hp x hx) e
    · exact (h.cnd p hp).gapsS g hg
theorem TbW.valL {t : Tb} (h : TbW gs vs d t) : ∀ v ∈ t.valL, v ∈ vs := fun g hg => by
  rcases List.mem_append.mp hg with hg | hg
  · exact h.kept.standS g hg
  · obtain ⟨p, hp, hg⟩ := List.mem_flatMap.mp hg
    rcases List.mem_append.mp hg with hg | hg
    · obtain ⟨x, hx, e⟩ := List.mem_filterMap.mp hg
      exact of_val (h.cel p hp x hx) e
    · exact (h.cnd p hp).standS g hg
theorem put_of {s : Str → Cell} {gs2 : List Str} {vs2 : List Int} (hs : ∀ g ∈ gs, (s g).ofP gs2 vs2) (hv : ∀ v ∈ vs, v ∈ vs2) {x : Cell} (h : x.ofP gs vs) : (x.put s).ofP gs2 vs2 := by
  cases x with
  | gap g => exact hs g h
  | val v => exact hv v h
theorem CdW.put {s : Str → Cell} {gs2 : List Str} {vs2 : List Int} (hs : ∀ g ∈ gs, (s g).ofP gs2 vs2) (hv : ∀ v ∈ vs, v ∈ vs2) {c : Cd} (h : CdW gs vs d c) : CdW gs2 vs2 d (c.put s) :=
  ⟨by rw [Cd.put_dep]; exact h.dep, by rw [Cd.put_wid]; exact h.wid, by rw [Cd.put_cells, List.length_map]; exact h.len, fun x hx => by
    rw [Cd.put_cells] at hx
    obtain ⟨y, hy, rfl⟩ := List.mem_map.mp hx
    exact put_of hs hv (h.cel y hy)⟩
theorem TbW.put {s : Str → Cell} {gs2 : List Str} {vs2 : List Int} (hs : ∀ g ∈ gs, (s g).ofP gs2 vs2) (hv : ∀ v ∈ vs, v ∈ vs2) (g2 : gs2.length ≤ 16) (v2 : vs2.length ≤ 40) {t : Tb} (h : TbW gs vs d t) : TbW gs2 vs2 d (putT s t) where
  gl := g2
  vl := v2
  nd := h.nd
  cols := h.cols
  few := by show (t.lines.map (putP s)).length < 64; rw [List.length_map]; exact h.few
  row := fun p hp => by
    obtain ⟨q, hq, rfl⟩ := List.mem_map.mp hp
    show (q.1.map _).length = _
    rw [List.length_map]; exact h.row q hq
  cel := fun p hp x hx => by
    obtain ⟨q, hq, rfl⟩ := List.mem_map.mp hp
    obtain ⟨y, hy, rfl⟩ := List.mem_map.mp hx
    exact put_of hs hv (h.cel q hq y hy)
  kept := h.kept.put hs hv
  cnd := fun p hp => by
    obtain ⟨q, hq, rfl⟩ := List.mem_map.mp hp
    exact (h.cnd q hq).put hs hv
end
def pool (gs : List Str) (vs : List Int) : List Cell := gs.map Cell.gap ++ vs.map Cell.val
theorem pool_of {gs : List Str} {vs : List Int} {x : Cell} (h : x ∈ pool gs vs) : x.ofP gs vs := by
  rcases List.mem_append.mp h with h | h
  · obtain ⟨y, hy, rfl⟩ := List.mem_map.mp h; exact hy
  · obtain ⟨y, hy, rfl⟩ := List.mem_map.mp h; exact hy
theorem CInv.w {gs : List Str} {vs : List Int} {c : Cd} (h : CInv (pool gs vs) 2 c) : CdW gs vs 3 c := ⟨h.dep, by have := h.wid; omega, by have := h.len; omega, fun x hx => pool_of (h.cel x hx)⟩
theorem W_join {Φ : CT} {io : List Nat} {s : IS} {ss : ISs} {e : MT.Env} {N : MT.Env → Prop} {Rt : Val → MT.Env → Prop} {B C : MT.Env → Prop} {Z : Exc → MT.Env → Prop} (P : MT.Env → Prop) (h : (ex Φ io s e).W P Rt B C Z) (k : ∀ e', P e' → (exs Φ io ss e').W N Rt B C Z) : (exs Φ io (.cons s ss) e).W N Rt B C Z :=
  W_cons (h.imp k (fun _ _ h => h) (fun _ h => h) (fun _ h => h) fun _ _ h => h)
end Pgm
namespace Pgm
open PySem MT
end Pgm
namespace Pgm
open PySem MT
theorem CdW.mono {gs gs2 : List Str} {vs vs2 : List Int} {d d2 : Nat} {c : Cd} (h : CdW gs vs d c) (hg : ∀ g ∈ gs, g ∈ gs2) (hv : ∀ v ∈ vs, v ∈ vs2) (hd : d ≤ d2) : CdW gs2 vs2 d2 c :=
  ⟨by have := h.dep; omega, h.wid, h.len, fun x hx => by
    have := h.cel x hx
    cases x with
    | gap g => exact hg g this
    | val v => exact hv v this⟩
end Pgm
namespace Pgm
open PySem MT
end Pgm
namespace Pgm
open PySem MT
/-- a row with its cells in another order of the columns -/
def turP (names cols : List Str) (p : List Cell × Cd) : List Cell × Cd := (names.map fun m => p.1.getD (cols.idxOf m) (.val 0), p.2)
theorem sortS_permeq {xs ys : List Str} (h : xs.Perm ys) : sortS xs = sortS ys :=
  List.Perm.eq_of_pairwise (fun a b _ _ h1 h2 => (LtS.tot h2 h1)) (sortS_sorted xs) (sortS_sorted ys) (((sortS_perm xs).trans h).trans (sortS_perm ys).symm)
end Pgm
namespace Pgm
open PySem MT
def sameL (cs ds : List Cell) : List Cd := (cs.zip ds).map fun x => .same x.1 x.2
def nlC (cs : List Cell) (q : List Cell × Cd) : Cd := .opp (.all (q.2 :: sameL cs q.1))
def lessP (outs : List (List Cell × Cd)) (p : List Cell × Cd) : List Cell × Cd := (p.1, .all (p.2 :: outs.map (nlC p.1)))
def outsOf (a b : Tb) : List (List Cell × Cd) := b.lines.map (turP a.cols b.cols)
def les (a b : Tb) : Tb := ⟨a.cols, a.lines.map (lessP (outsOf a b)), .all [a.kept, b.kept]⟩
theorem CdW.opp {gs : List Str} {vs : List Int} {d : Nat} {c : Cd} (h : CdW gs vs d c) : CdW gs vs (d + 1) (.opp c) :=
  ⟨by have := h.dep; simp only [Cd.dep]; omega, by have := h.wid; simpa [Cd.wid] using this, by simpa [Cd.cells] using h.len, by simpa [Cd.cells] using h.cel⟩
end Pgm
namespace Pgm
open PySem MT
end Pgm
namespace Pgm
open PySem MT
end Pgm
namespace Pgm
open PySem MT
instance : DecidableEq Cell := fun a b => match a, b with
  | .gap x, .gap y => if h : x = y then .isTrue (by rw [h]) else .isFalse fun e => h (by cases e; rfl)
  | .val x, .val y => if h : x = y then .isTrue (by rw [h]) else .isFalse fun e => h (by cases e; rfl)
  | .gap _, .val _ => .isFalse fun e => by cases e
  | .val _, .gap _ => .isFalse fun e => by cases e
def Cell.isVal : Cell → Bool
  | .gap _ => false
  | .val _ => true
def Cell.key : Cell → L2.Key
  | .gap g => .inr g
  | .val v => .inl v
theorem Cell.key_inj {x y : Cell} (h : x.key = y.key) : x = y := by
  cases x <;> cases y <;> simp [Cell.key] at h <;> rw [h]
theorem keyD_cell (x : Cell) : keyD x.d = some x.key := by cases x <;> rfl
theorem dKey_cell (x : Cell) : dKey x.key = x.d := by cases x <;> rfl
/-- one thing assumed -/
abbrev Th := Cell × Cell × Bool
def thD (t : Th) : D := .tup [t.1.d, t.2.1.d, .bl t.2.2]
def mergeH (h : Cell → Cell) (a b : Cell) : Cell → Cell :=
  if h a = h b then h else if (h b).isVal = true then fun x => if h x = h a then h b else h x else fun x => if h x = h b then h a else h x
def addC (K : List Cell) (x : Cell) : List Cell := if x ∈ K then K else K ++ [x]
theorem addC_mem {K : List Cell} {x y : Cell} : y ∈ addC K x ↔ y ∈ K ∨ y = x := by
  unfold addC
  split
  · rename_i h
    exact ⟨.inl, fun z => z.elim id fun e => e ▸ h⟩
  · simp
def stepH (s : (Cell → Cell) × List Cell) (t : Th) : (Cell → Cell) × List Cell := (if t.2.2 = true then mergeH s.1 t.1 t.2.1 else s.1, addC (addC s.2 t.1) t.2.1)
def headsOf (T : List Th) : (Cell → Cell) × List Cell := T.foldl stepH (id, [])
structure HInv (h : Cell → Cell) (K : List Cell) : Prop where
  off : ∀ x, x ∉ K → h x = x
  ran : ∀ x ∈ K, h x ∈ K
  idem : ∀ x, h (h x) = h x
  val : ∀ x : Cell, x.isVal = true → (h x).isVal = true
theorem HInv.nil : HInv id [] := ⟨fun _ _ => rfl, fun _ h => h, fun _ => rfl, fun _ h => h⟩
theorem HInv.add {h : Cell → Cell} {K : List Cell} (H : HInv h K) (a : Cell) : HInv h (addC K a) where
  off := fun x hx => H.off x fun z => hx (addC_mem.mpr (.inl z))
  ran := fun x hx => by
    by_cases hk : x ∈ K
    · exact addC_mem.mpr (.inl (H.ran x hk))
    · rw [H.off x hk]; exact hx
  idem := H.idem
  val := H.val
/-- all that have the one head get the other -/
theorem HInv.turn {h : Cell → Cell} {K : List Cell} (H : HInv h K) {k g : Cell} (hk : k ∈ K) (hg : g ∈ K) (ek : h k = k) (eg : h g = g) (ne : k ≠ g) (hv : g.isVal = true → k.isVal = true) : HInv (fun x => if h x = g then k else h x) K where
  off := fun x hx => by
    have e := H.off x hx
    show (if h x = g then k else h x) = x
    rw [if_neg (by rw [e]; intro z; exact hx (z ▸ hg)), e]
  ran := fun x hx => by
    show (if h x = g then k else h x) ∈ K
    split
    · exact hk
    · exact H.ran x hx
  idem := fun x => by
    show (if h (if h x = g then k else h x) = g then k else h (if h x = g then k else h x)) = (if h x = g then k else h x)
    by_cases e : h x = g
    · rw [if_pos e, ek, if_neg ne]
    · rw [if_neg e, H.idem, if_neg e]
  val := fun x hx => by
    show (if h x = g then k else h x).isVal = true
    have := H.val x hx
    split
    · rename_i e; exact hv (e ▸ this)
    · exact this
theorem HInv.merge {h : Cell → Cell} {K : List Cell} (H : HInv h K) {a b : Cell} (ha : a ∈ K) (hb : b ∈ K) : HInv (mergeH h a b) K := by
  unfold mergeH
  split
  · exact H
  · rename_i ne
    split
    · rename_i hv
      exact H.turn (H.ran b hb) (H.ran a ha) (H.idem b) (H.idem a) (fun e => ne e.symm) fun _ => hv
    · rename_i hv
      exact H.turn (H.ran a ha) (H.ran b hb) (H.idem a) (H.idem b) ne fun e => absurd e hv
theorem HInv.step {s : (Cell → Cell) × List Cell} (H : HInv s.1 s.2) (t : Th) : HInv (stepH s t).1 (stepH s t).2 := by
  have H2 := (H.add t.1).add t.2.1
  unfold stepH
  split
  · exact H2.merge (addC_mem.mpr (.inl (addC_mem.mpr (.inr rfl)))) (addC_mem.mpr (.inr rfl))
  · exact H2
def mergeL (L : Cell → Int) (a b : Cell) : Cell → Int := fun x => if L x = L a then L b else L x
def stepL (L : Cell → Int) (t : Th) : Cell → Int := if t.2.2 = true then mergeL L t.1 t.2.1 else L
/-- the same parted -/
def Par (P : List Cell) (h : Cell → Cell) (L : Cell → Int) : Prop := ∀ x ∈ P, ∀ y ∈ P, h x = h y ↔ L x = L y
theorem turn_iff {α : Type} [DecidableEq α] {u v k g : α} (ne : k ≠ g) : (if u = g then k else u) = (if v = g then k else v) ↔ u = v ∨ ((u = k ∨ u = g) ∧ (v = k ∨ v = g)) := by
  by_cases hu : u = g <;> by_cases hv : v = g
  · rw [if_pos hu, if_pos hv]
    exact ⟨fun _ => .inl (hu.trans hv.symm), fun _ => rfl⟩
  · rw [if_pos hu, if_neg hv]
    exact ⟨fun e => .inr ⟨.inr hu, .inl e.symm⟩, fun e => by
      rcases e with e | ⟨_, e⟩
      · exact absurd (e.symm.trans hu) hv
      · exact (e.resolve_right hv).symm⟩
  · rw [if_neg hu, if_pos hv]
    exact ⟨fun e => .inr ⟨.inl e, .inr hv⟩, fun e => by
      rcases e with e | ⟨e, _⟩
      · exact absurd (e.trans hv) hu
      · exact e.resolve_right hu⟩
  · rw [if_neg hu, if_neg hv]
    exact ⟨.inl, fun e => by
      rcases e with e | ⟨e, f⟩
      · exact e
      · exact (e.resolve_right hu).trans (f.resolve_right hv).symm⟩
theorem Par.merge {P : List Cell} {h : Cell → Cell} {L : Cell → Int} (p : Par P h L) {a b : Cell} (ha : a ∈ P) (hb : b ∈ P) : Par P (mergeH h a b) (mergeL L a b) := by
  intro x hx y hy
  have pab := p a ha b hb
  unfold mergeH mergeL
  by_cases e : h a = h b
  · rw [if_pos e]
    have e2 := pab.mp e
    have : ∀ z, (if L z = L a then L b else L z) = L z := fun z => by
      split
      · rename_i q; rw [q, e2]
      · rfl
    rw [this, this]
    exact p x hx y hy
  · rw [if_neg e]
    have e2 : L b ≠ L a := fun z => e (pab.mpr z.symm)
    have ex := p x hx
    have ey := p y hy
    have key : (h x = h y ∨ ((h x = h a ∨ h x = h b) ∧ (h y = h a ∨ h y = h b))) ↔ (L x = L y ∨ ((L x = L b ∨ L x = L a) ∧ (L y = L b ∨ L y = L a))) := by
      rw [ex y hy, ex a ha, ex b hb, ey a ha, ey b hb, Or.comm (a := L x = L a), Or.comm (a := L y = L a)]
    split
    · show (if h x = h a then h b else h x) = (if h y = h a then h b else h y) ↔ _
      rw [turn_iff (fun z => e z.symm), turn_iff e2, ← key]
      rw [Or.comm (a := h x = h b), Or.comm (a := h y = h b)]
    · show (if h x = h b then h a else h x) = (if h y = h b then h a else h y) ↔ _
      rw [turn_iff e, turn_iff e2, ← key]
theorem Par.step {P : List Cell} {s : (Cell → Cell) × List Cell} {L : Cell → Int} (p : Par P s.1 L) {t : Th} (ha : t.1 ∈ P) (hb : t.2.1 ∈ P) : Par P (stepH s t).1 (stepL L t) := by
  unfold stepH stepL
  split
  · exact p.merge ha hb
  · exact p
theorem Par.all {P : List Cell} : ∀ (T : List Th) {s : (Cell → Cell) × List Cell} {L : Cell → Int}, Par P s.1 L → (∀ t ∈ T, t.1 ∈ P ∧ t.2.1 ∈ P) → Par P (T.foldl stepH s).1 (T.foldl stepL L)
  | [], _, _, p, _ => p
  | t :: T, _, _, p, h => Par.all T (p.step (h t List.mem_cons_self).1 (h t List.mem_cons_self).2) fun u hu => h u (List.mem_cons_of_mem _ hu)
end Pgm
namespace Pgm
open PySem MT
abbrev Row := List Cell × Cd
def cellAt (cs : List Cell) (k : Nat) : Cell := cs.getD k (.val 0)
/-- the values at some places -/
def vsAt (f : Str → Int) (cs : List Cell) (ps : List Nat) : List Int := ps.map fun k => (cellAt cs k).at f
def Kp (f : Str → Int) (ps fs : List Nat) (p o : Row) : Prop := p.2.holds f = true → o.2.holds f = true → vsAt f p.1 ps = vsAt f o.1 ps → vsAt f p.1 fs = vsAt f o.1 fs
theorem Kp.symm {f : Str → Int} {ps fs : List Nat} {p o : Row} (h : Kp f ps fs p o) : Kp f ps fs o p := fun a b c => (h b a c.symm).symm
theorem Kp.refl (f : Str → Int) (ps fs : List Nat) (p : Row) : Kp f ps fs p p := fun _ _ _ => rfl
end Pgm
namespace Pgm
open PySem MT
end Pgm
namespace Pgm
open PySem MT
def hD (h : Cell → Cell) (K : List Cell) : List (L2.Key × D) := K.map fun x => (x.key, (h x).d)
theorem key_ne {x y : Cell} (h : x ≠ y) : ¬ x.key = y.key := fun e => h (Cell.key_inj e)
theorem eqN_cells (n : Nat) (x y : Cell) : eqN n x.d y.d = some (decide (x = y)) := by
  cases x with
  | gap a => cases y with
    | gap b =>
      rw [show (Cell.gap a).d = .str a from rfl, show (Cell.gap b).d = .str b from rfl]
      cases n <;> (show some (a == b) = _; congr 1; by_cases h : a = b <;> simp [h])
    | val b => cases n <;> (show some false = _; congr 1)
  | val a => cases y with
    | gap b => cases n <;> (show some false = _; congr 1)
    | val b => cases n <;> (show some (a == b) = _; congr 1; by_cases h : a = b <;> simp [h])
theorem eqD_cells (x y : Cell) : eqD x.d y.d = some (decide (x = y)) := eqN_cells 50 x y
theorem eqN_bls (n : Nat) (a b : Bool) : eqN n (.bl a) (.bl b) = some (a == b) := by cases n <;> rfl
theorem eqD_th (t u : Th) : eqD (thD t) (thD u) = some (decide (t = u)) := by
  obtain ⟨a, b, s⟩ := t
  obtain ⟨x, y, r⟩ := u
  show eqL (eqN 49) [a.d, b.d, .bl s] [x.d, y.d, .bl r] = _
  have h1 := eqN_cells 49 a x
  have h2 := eqN_cells 49 b y
  have h3 := eqN_bls 49 s r
  simp only [eqL, h1, h2, h3]
  by_cases e1 : a = x <;> by_cases e2 : b = y <;> by_cases e3 : s = r <;> simp [e1, e2, e3]
theorem memD_th (t : Th) : ∀ T : List Th, memD (thD t) (T.map thD) = some (decide (t ∈ T)) := fun T => by
  have key : memT (thD t) (T.map thD) = some (decide (t ∈ T)) := by
    induction T with
    | nil => simp [memT]
    | cons u T ih =>
      show (eqD (thD u) (thD t)).bind _ = _
      rw [eqD_th, ih]
      simp only [Option.bind_some, Option.map_some, List.mem_cons]
      congr 1
      by_cases e : u = t
      · simp [e]
      · have e2 : ¬ t = u := fun z => e z.symm
        simp [e, e2]
  unfold memD
  rw [if_neg (by simp [thD, flatD])]
  exact key
end Pgm
namespace K21
open PySem MT Pgm
variable {st : List D}
theorem values_call (n : Nat) (cs : List Cell) (cl : cs.length < 1000000) : (pg.ct 63 (n + 1)).call 35 st [.lst (cs.map Cell.d)] = .ok ⟨.lst ((cs.filter Cell.isVal).map Cell.d), true⟩ [] st := by
  refine cj rfl ?_
  refine run_of rfl rfl (by decide) ?_
  rw [show argsE [] [.lst (cs.map Cell.d)] ++ List.replicate (fi35.nsl - fi35.nps) none = [some ⟨.lst (cs.map Cell.d), false⟩, none] from rfl]
  show (exs _ [] ir35 _).W _ _ _ _ _
  unfold ir35
  refine no_implicit_lambda% (W_cons ?_)
  simp [Env.length]
  rw [lcE_F (cs) (Cell.d) (Cell.isVal) (Cell.d) (by simp [Env.length]) (by omega) (by simp [Env.length]) (fun x hx => by cases x <;> simp [Env.length, Cell.d, Cell.isVal])]
  simp [Env.length]
end K21
namespace Pgm
open PySem MT
def lD (L : Cell → Int) (K : List Cell) : List (L2.Key × D) := K.map fun x => (x.key, .int (L x))
def updL (L : Cell → Int) (x : Cell) (v : Int) : Cell → Int := fun z => if z = x then v else L z
theorem lD_len (L : Cell → Int) (K : List Cell) : (lD L K).length = K.length := by simp [lD]
theorem get_lD (L : Cell → Int) (x : Cell) : ∀ K : List Cell, getA (lD L K) x.key = if x ∈ K then some (.int (L x)) else none
  | [] => rfl
  | y :: ys => by
    show (if y.key = x.key then some (.int (L y)) else getA (lD L ys) x.key) = _
    by_cases e : y = x
    · subst e; simp
    · have e2 : ¬ x = y := fun z => e z.symm
      rw [if_neg (key_ne e), get_lD L x ys]
      simp [e2]
theorem lD_any (L : Cell → Int) (x : Cell) (K : List Cell) : ((lD L K).any fun p => decide (p.1 = x.key)) = decide (x ∈ K) := by
  induction K with
  | nil => simp [lD]
  | cons y ys ih =>
    have ih : ((ys.map fun x => ((x.key, .int (L x)) : L2.Key × D)).any fun p => decide (p.1 = x.key)) = decide (x ∈ ys) := ih
    simp only [lD, List.map_cons, List.any_cons, ih, List.mem_cons]
    by_cases e : y = x
    · simp [e]
    · have e2 : ¬ x = y := fun z => e z.symm
      simp [key_ne e, e2]
theorem put_lD (L : Cell → Int) (x : Cell) (v : Int) (K : List Cell) : putA (lD L K) x.key (.int v) = lD (updL L x v) (addC K x) := by
  unfold putA addC
  rw [lD_any]
  by_cases e : x ∈ K
  · rw [decide_eq_true e, if_pos rfl, if_pos e]
    unfold lD
    rw [List.map_map]
    refine List.map_congr_left fun y hy => ?_
    simp only [Function.comp, updL]
    by_cases q : y = x
    · subst q; simp
    · simp [q, key_ne q]
  · rw [decide_eq_false e, if_neg (by simp), if_neg e]
    unfold lD
    rw [List.map_append]
    congr 1
    · refine List.map_congr_left fun y hy => ?_
      have q : ¬ y = x := fun z => e (by rw [← z]; exact hy)
      simp [updL, q]
    · simp [updL]
theorem lD_congr {L L' : Cell → Int} {K : List Cell} (e : ∀ x ∈ K, L x = L' x) : lD L K = lD L' K := List.map_congr_left fun x hx => by rw [e x hx]
/-- the places in a pool -/
def placeL (P : List Cell) : Cell → Int := fun x => (P.idxOf x : Int)
theorem placeL_par (P : List Cell) : Par P id (placeL P) := fun x hx y hy => by
  unfold placeL
  constructor
  · intro e; rw [show x = y from e]
  · intro e
    have e : P.idxOf x = P.idxOf y := by omega
    have h1 := List.getElem_idxOf (List.idxOf_lt_length_iff.mpr hx)
    have h2 := List.getElem_idxOf (List.idxOf_lt_length_iff.mpr hy)
    show x = y
    rw [← h1, ← h2]
    congr 1
theorem place_put {P pre suf : List Cell} {x : Cell} (nd : P.Nodup) (e : P = pre ++ x :: suf) : putA (lD (placeL P) pre) x.key (.int (pre.length : Int)) = lD (placeL P) (pre ++ [x]) := by
  have hn : x ∉ pre := fun h => by
    rw [e] at nd
    exact (List.nodup_append.mp nd).2.2 x h x List.mem_cons_self rfl
  rw [put_lD]
  unfold addC
  rw [if_neg hn]
  refine lD_congr fun z hz => ?_
  unfold updL
  split
  · rename_i q
    subst q
    unfold placeL
    rw [e, List.idxOf_append, if_neg hn]
    simp
  · rfl
/-- the labels while they are turned -/
def twL (L : Cell → Int) (a b : Cell) (pre : List Cell) : Cell → Int := fun z => if z ∈ pre ∧ L z = L a then L b else L z
theorem twL_nil (L : Cell → Int) (a b : Cell) : twL L a b [] = L := by funext z; unfold twL; rw [if_neg (by simp)]
theorem twL_b (L : Cell → Int) (a b : Cell) (pre : List Cell) : twL L a b pre b = L b := by unfold twL; split <;> rfl
theorem twL_put {L : Cell → Int} {a b x : Cell} {pre : List Cell} (q : twL L a b pre x = L a) {K : List Cell} : lD (updL (twL L a b pre) x (L b)) K = lD (twL L a b (pre ++ [x])) K := by
  have hg : L x = L a := by
    unfold twL at q
    split at q
    · rename_i m; exact m.2
    · exact q
  refine lD_congr fun z _ => ?_
  unfold updL twL
  by_cases e : z = x
  · subst e; rw [if_pos rfl, if_pos ⟨by simp, hg⟩]
  · rw [if_neg e]
    by_cases m : z ∈ pre ∧ L z = L a
    · rw [if_pos m, if_pos ⟨List.mem_append_left _ m.1, m.2⟩]
    · rw [if_neg m, if_neg fun w => m ⟨(List.mem_append.mp w.1).resolve_right (by simpa using e), w.2⟩]
theorem twL_skip {L : Cell → Int} {a b x : Cell} {pre : List Cell} (q : twL L a b pre x ≠ L a) : twL L a b (pre ++ [x]) = twL L a b pre := by
  funext z
  unfold twL at q ⊢
  by_cases m : z ∈ pre ∧ L z = L a
  · rw [if_pos m, if_pos ⟨List.mem_append_left _ m.1, m.2⟩]
  · rw [if_neg m]
    refine if_neg fun w => ?_
    rcases List.mem_append.mp w.1 with w1 | w1
    · exact m ⟨w1, w.2⟩
    · have e := List.mem_singleton.mp w1
      subst e
      rw [if_neg m] at q
      exact q w.2
theorem twL_all {L : Cell → Int} {a b : Cell} {P : List Cell} : lD (twL L a b P) P = lD (mergeL L a b) P := lD_congr fun z hz => by
  unfold twL mergeL
  by_cases e : L z = L a
  · rw [if_pos ⟨hz, e⟩, if_pos e]
  · rw [if_neg fun w => e w.2, if_neg e]
end Pgm
namespace Pgm
open PySem MT
def Adj (T : List Th) (x y : Cell) : Prop := (x, y, true) ∈ T ∨ (y, x, true) ∈ T
theorem Adj.symm {T : List Th} {x y : Cell} (h : Adj T x y) : Adj T y x := Or.symm h
def nb1 (c : Cell) (t : Th) : List Cell := if t.2.2 = true then (if t.1 = c then [t.2.1] else []) ++ (if t.2.1 = c then [t.1] else []) else []
def nbs (T : List Th) (c : Cell) : List Cell := T.flatMap (nb1 c)
theorem nbs_mem {T : List Th} {c y : Cell} : y ∈ nbs T c ↔ Adj T c y := by
  unfold nbs Adj
  rw [List.mem_flatMap]
  constructor
  · rintro ⟨⟨a, b, s⟩, ht, h⟩
    unfold nb1 at h
    cases s with
    | false => simp at h
    | true =>
      simp only [if_true, List.mem_append] at h
      rcases h with h | h
      · split at h
        · rename_i e; subst e; rw [List.mem_singleton] at h; subst h; exact .inl ht
        · cases h
      · split at h
        · rename_i e; subst e; rw [List.mem_singleton] at h; subst h; exact .inr ht
        · cases h
  · rintro (h | h)
    · exact ⟨_, h, by simp [nb1]⟩
    · exact ⟨_, h, by simp [nb1]⟩
theorem nbs_len (T : List Th) (c : Cell) : (nbs T c).length ≤ 2 * T.length := by
  unfold nbs
  induction T with
  | nil => simp
  | cons t T ih =>
    rw [List.flatMap_cons, List.length_append, List.length_cons]
    have : (nb1 c t).length ≤ 2 := by
      unfold nb1
      split
      · rw [List.length_append]
        have : ∀ (p : Prop) [Decidable p] (x : Cell), (if p then [x] else []).length ≤ 1 := fun p _ x => by split <;> simp
        have h1 := this (t.1 = c) t.2.1
        have h2 := this (t.2.1 = c) t.1
        omega
      · simp
    omega
abbrev hd (T : List Th) : Cell → Cell := (headsOf T).1
theorem mergeH_iff {h : Cell → Cell} {a b x y : Cell} : mergeH h a b x = mergeH h a b y ↔ h x = h y ∨ ((h x = h a ∨ h x = h b) ∧ (h y = h a ∨ h y = h b)) := by
  unfold mergeH
  by_cases e : h a = h b
  · rw [if_pos e]
    refine ⟨.inl, fun h => ?_⟩
    rcases h with h | ⟨h1, h2⟩
    · exact h
    · rw [← e] at h1 h2
      exact (h1.elim id id).trans (h2.elim id id).symm
  · rw [if_neg e]
    split
    · show (if h x = h a then h b else h x) = (if h y = h a then h b else h y) ↔ _
      rw [turn_iff fun z => e z.symm, Or.comm (a := h x = h b), Or.comm (a := h y = h b)]
    · show (if h x = h b then h a else h x) = (if h y = h b then h a else h y) ↔ _
      rw [turn_iff e]
theorem stepH_eq {s : (Cell → Cell) × List Cell} {t : Th} {x y : Cell} (h : s.1 x = s.1 y) : (stepH s t).1 x = (stepH s t).1 y := by
  unfold stepH
  split
  · exact mergeH_iff.mpr (.inl h)
  · exact h
theorem heads_mono : ∀ (T : List Th) (s : (Cell → Cell) × List Cell) {x y : Cell}, s.1 x = s.1 y → (T.foldl stepH s).1 x = (T.foldl stepH s).1 y
  | [], _, _, _, h => h
  | t :: T, s, _, _, h => heads_mono T (stepH s t) (stepH_eq h)
theorem heads_said {T : List Th} {a b : Cell} (h : (a, b, true) ∈ T) : hd T a = hd T b := by
  obtain ⟨pre, suf, rfl⟩ := List.append_of_mem h
  unfold hd headsOf
  rw [List.foldl_append, List.foldl_cons]
  refine heads_mono suf _ ?_
  unfold stepH
  exact mergeH_iff.mpr (.inr ⟨.inl rfl, .inr rfl⟩)
theorem heads_adj {T : List Th} {x y : Cell} (h : Adj T x y) : hd T x = hd T y := h.elim heads_said fun h => (heads_said h).symm
theorem heads_closed' (S : Cell → Prop) : ∀ (T : List Th) (s : (Cell → Cell) × List Cell), (∀ x y, s.1 x = s.1 y → (S x ↔ S y)) → (∀ t ∈ T, t.2.2 = true → (S t.1 ↔ S t.2.1)) → ∀ x y, (T.foldl stepH s).1 x = (T.foldl stepH s).1 y → (S x ↔ S y)
  | [], _, h, _, x, y, e => h x y e
  | t :: T, s, h, hT, x, y, e => by
    refine heads_closed' S T (stepH s t) (fun x y e => ?_) (fun u hu => hT u (List.mem_cons_of_mem _ hu)) x y e
    unfold stepH at e
    split at e
    · rename_i hs
      have ab := hT t List.mem_cons_self hs
      have e : mergeH s.1 t.1 t.2.1 x = mergeH s.1 t.1 t.2.1 y := e
      rcases mergeH_iff.mp e with e | ⟨e1, e2⟩
      · exact h x y e
      · have k1 : S x ↔ S t.1 := e1.elim (h x _) fun e => (h x _ e).trans ab.symm
        have k2 : S y ↔ S t.1 := e2.elim (h y _) fun e => (h y _ e).trans ab.symm
        exact k1.trans k2.symm
    · exact h x y e
/-- what goes over from cell to cell that are said to be alike goes over all that are joined -/
theorem heads_closed (S : Cell → Prop) {T : List Th} (hT : ∀ t ∈ T, t.2.2 = true → (S t.1 ↔ S t.2.1)) {x y : Cell} (h : hd T x = hd T y) : S x ↔ S y :=
  heads_closed' S T (id, []) (fun x y e => by rw [show x = y from e]) hT x y h
inductive Walk (T : List Th) (c : Cell) : Cell → List Cell → Prop
  | one : Walk T c c [c]
  | snoc {k y : Cell} {w : List Cell} : Walk T c k w → Adj T k y → Walk T c y (w ++ [y])
def Stands (T : List Th) (x : Cell) : Prop := ∃ t ∈ T, x = t.1 ∨ x = t.2.1
theorem Adj.stands {T : List Th} {x y : Cell} (h : Adj T x y) : Stands T y := h.elim (fun h => ⟨_, h, .inr rfl⟩) fun h => ⟨_, h, .inl rfl⟩
theorem Walk.head {T : List Th} {c k : Cell} {w : List Cell} (h : Walk T c k w) : hd T k = hd T c := by
  induction h with
  | one => rfl
  | snoc _ a ih => exact (heads_adj a).symm.trans ih
theorem Walk.stands {T : List Th} {c k : Cell} {w : List Cell} (h : Walk T c k w) : k = c ∨ Stands T k := by
  cases h with
  | one => exact .inl rfl
  | snoc _ a => exact .inr a.stands
/-- the chains from a cell -/
structure Chains (T : List Th) (c : Cell) (w : Cell → List Cell) (K : List Cell) : Prop where
  nd : K.Nodup
  self : c ∈ K
  walk : ∀ k ∈ K, Walk T c k (w k)
  closed : ∀ x ∈ K, ∀ y, Adj T x y → y ∈ K
  wlen : ∀ k ∈ K, (w k).length ≤ K.length
theorem Chains.mem {T : List Th} {c : Cell} {w : Cell → List Cell} {K : List Cell} (h : Chains T c w K) {x : Cell} : x ∈ K ↔ hd T x = hd T c := by
  refine ⟨fun hx => (h.walk x hx).head, fun e => ?_⟩
  refine (heads_closed (· ∈ K) (fun t ht hs => ?_) e).mpr h.self
  obtain ⟨a, b, s⟩ := t
  simp only at hs; subst hs
  exact ⟨fun q => h.closed a q b (.inl ht), fun q => h.closed b q a (.inr ht)⟩
/-- while they are made: W waits -/
structure ChI (T : List Th) (c : Cell) (w : Cell → List Cell) (K W : List Cell) : Prop where
  nd : K.Nodup
  self : c ∈ K
  walk : ∀ k ∈ K, Walk T c k (w k)
  sub : ∀ x ∈ W, x ∈ K
  done : ∀ x ∈ K, x ∉ W → ∀ y, Adj T x y → y ∈ K
  wlen : ∀ k ∈ K, (w k).length ≤ K.length
  wc : W.length ≤ K.length
theorem ChI.start (T : List Th) (c : Cell) : ChI T c (fun _ => [c]) [c] [c] :=
  ⟨by simp, by simp, fun k hk => by rw [List.mem_singleton.mp hk]; exact .one, fun x h => h, fun x h n => absurd h n, by simp, by simp⟩
theorem ChI.chains {T : List Th} {c : Cell} {w : Cell → List Cell} {K : List Cell} (h : ChI T c w K []) : Chains T c w K :=
  ⟨h.nd, h.self, h.walk, fun x hx y a => h.done x hx (by simp) y a, h.wlen⟩
/-- while one's neighbours are gone through -/
structure ChN (T : List Th) (c here : Cell) (pre : List Cell) (w : Cell → List Cell) (K W : List Cell) (p q : Nat) : Prop where
  nd : K.Nodup
  self : c ∈ K
  hereK : here ∈ K
  walk : ∀ k ∈ K, Walk T c k (w k)
  sub : ∀ x ∈ W, x ∈ K
  seen : ∀ y ∈ pre, y ∈ K
  done : ∀ x ∈ K, x ∉ W → x ≠ here → ∀ y, Adj T x y → y ∈ K
  count : K.length + p = W.length + q
  wlen : ∀ k ∈ K, (w k).length ≤ K.length
  wc : W.length ≤ K.length
theorem ChI.pop {T : List Th} {c here : Cell} {w : Cell → List Cell} {K W : List Cell} (h : ChI T c w K (here :: W)) : ChN T c here [] w K W W.length K.length :=
  ⟨h.nd, h.self, h.sub _ List.mem_cons_self, h.walk, fun x hx => h.sub x (List.mem_cons_of_mem _ hx), by simp, fun x hx n ne y a => h.done x hx (fun z => (List.mem_cons.mp z).elim ne n) y a, Nat.add_comm _ _, h.wlen, by have := h.wc; rw [List.length_cons] at this; omega⟩
theorem ChN.old {T : List Th} {c here x : Cell} {pre : List Cell} {w : Cell → List Cell} {K W : List Cell} {p q : Nat} (h : ChN T c here pre w K W p q) (hx : x ∈ K) : ChN T c here (pre ++ [x]) w K W p q :=
  { h with seen := fun y hy => (List.mem_append.mp hy).elim (h.seen y) fun z => by rw [List.mem_singleton.mp z]; exact hx }
def updW (w : Cell → List Cell) (x : Cell) (l : List Cell) : Cell → List Cell := fun z => if z = x then l else w z
theorem ChN.new {T : List Th} {c here x : Cell} {pre : List Cell} {w : Cell → List Cell} {K W : List Cell} {p q : Nat} (h : ChN T c here pre w K W p q) (hx : x ∉ K) (ha : Adj T here x) : ChN T c here (pre ++ [x]) (updW w x (w here ++ [x])) (K ++ [x]) (W ++ [x]) p q where
  nd := by
    rw [List.nodup_append]
    exact ⟨h.nd, by simp, fun u hu b hb e => by rw [List.mem_singleton] at hb; subst hb; subst e; exact hx hu⟩
  self := List.mem_append_left _ h.self
  hereK := List.mem_append_left _ h.hereK
  walk := fun k hk => by
    unfold updW
    split
    · rename_i e; rw [e]; exact (h.walk here h.hereK).snoc ha
    · rename_i e
      exact h.walk k ((List.mem_append.mp hk).resolve_right (by simpa using e))
  sub := fun y hy => (List.mem_append.mp hy).elim (fun z => List.mem_append_left _ (h.sub y z)) fun z => List.mem_append_right _ z
  seen := fun y hy => (List.mem_append.mp hy).elim (fun z => List.mem_append_left _ (h.seen y z)) fun z => List.mem_append_right _ z
  done := fun y hy n ne z a => by
    rcases List.mem_append.mp hy with g | g
    · exact List.mem_append_left _ (h.done y g (fun z => n (List.mem_append_left _ z)) ne z a)
    · exact absurd (List.mem_append_right _ g) n
  count := by
    have := h.count
    rw [List.length_append, List.length_append]; simp; omega
  wlen := fun k hk => by
    unfold updW
    rw [List.length_append, List.length_singleton]
    split
    · have := h.wlen here h.hereK
      rw [List.length_append, List.length_singleton]; omega
    · rename_i e
      have := h.wlen k ((List.mem_append.mp hk).resolve_right (by simpa using e))
      omega
  wc := by
    have := h.wc
    rw [List.length_append, List.length_append]; simp; omega
theorem ChN.all {T : List Th} {c here : Cell} {w : Cell → List Cell} {K W : List Cell} {p q : Nat} (h : ChN T c here (nbs T here) w K W p q) : ChI T c w K W :=
  ⟨h.nd, h.self, h.walk, h.sub, fun x hx n y a => by
    by_cases e : x = here
    · subst e; exact h.seen y (nbs_mem.mpr a)
    · exact h.done x hx n e y a, h.wlen, h.wc⟩
theorem nd_le {P K : List Cell} (nd : K.Nodup) (h : ∀ x ∈ K, x ∈ P) : K.length ≤ P.length := by
  induction K generalizing P with
  | nil => simp
  | cons x K ih =>
    obtain ⟨a, b, rfl⟩ := List.append_of_mem (h x List.mem_cons_self)
    rw [List.nodup_cons] at nd
    have := ih nd.2 (P := a ++ b) fun y hy => by
      have := h y (List.mem_cons_of_mem _ hy)
      rcases List.mem_append.mp this with q | q
      · exact List.mem_append_left _ q
      · rcases List.mem_cons.mp q with q | q
        · subst q; exact absurd hy nd.1
        · exact List.mem_append_right _ q
    simp at this ⊢
    omega
theorem ChN.le {T : List Th} {c here : Cell} {pre P : List Cell} {w : Cell → List Cell} {K W : List Cell} {p q : Nat} (h : ChN T c here pre w K W p q) (hc : c ∈ P) (hT : ∀ t ∈ T, t.1 ∈ P ∧ t.2.1 ∈ P) : K.length ≤ P.length :=
  nd_le h.nd fun x hx => by
    rcases (h.walk x hx).stands with rfl | ⟨t, ht, e⟩
    · exact hc
    · rcases e with rfl | rfl
      · exact (hT t ht).1
      · exact (hT t ht).2
theorem ChI.le {T : List Th} {c : Cell} {P : List Cell} {w : Cell → List Cell} {K W : List Cell} (h : ChI T c w K W) (hc : c ∈ P) (hT : ∀ t ∈ T, t.1 ∈ P ∧ t.2.1 ∈ P) : K.length ≤ P.length :=
  nd_le h.nd fun x hx => by
    rcases (h.walk x hx).stands with rfl | ⟨t, ht, e⟩
    · exact hc
    · rcases e with rfl | rfl
      · exact (hT t ht).1
      · exact (hT t ht).2
theorem Chains.le {T : List Th} {c : Cell} {P : List Cell} {w : Cell → List Cell} {K : List Cell} (h : Chains T c w K) (hc : c ∈ P) (hT : ∀ t ∈ T, t.1 ∈ P ∧ t.2.1 ∈ P) : K.length ≤ P.length :=
  nd_le h.nd fun x hx => by
    rcases (h.walk x hx).stands with rfl | ⟨t, ht, e⟩
    · exact hc
    · rcases e with rfl | rfl
      · exact (hT t ht).1
      · exact (hT t ht).2
def gcD (f : Cell → D) (K : List Cell) : List (L2.Key × D) := K.map fun x => (x.key, f x)
def updK (f : Cell → D) (x : Cell) (v : D) : Cell → D := fun z => if z = x then v else f z
theorem gcD_len (f : Cell → D) (K : List Cell) : (gcD f K).length = K.length := by simp [gcD]
theorem get_gcD (f : Cell → D) (x : Cell) : ∀ K : List Cell, getA (gcD f K) x.key = if x ∈ K then some (f x) else none
  | [] => rfl
  | y :: ys => by
    show (if y.key = x.key then some (f y) else getA (gcD f ys) x.key) = _
    by_cases e : y = x
    · subst e; simp
    · have e2 : ¬ x = y := fun z => e z.symm
      rw [if_neg (key_ne e), get_gcD f x ys]
      simp [e2]
theorem gcD_any (f : Cell → D) (x : Cell) (K : List Cell) : ((gcD f K).any fun p => decide (p.1 = x.key)) = decide (x ∈ K) := by
  induction K with
  | nil => simp [gcD]
  | cons y ys ih =>
    have ih : ((ys.map fun x => ((x.key, f x) : L2.Key × D)).any fun p => decide (p.1 = x.key)) = decide (x ∈ ys) := ih
    simp only [gcD, List.map_cons, List.any_cons, ih, List.mem_cons]
    by_cases e : y = x
    · simp [e]
    · have e2 : ¬ x = y := fun z => e z.symm
      simp [key_ne e, e2]
theorem put_gcD (f : Cell → D) (x : Cell) (v : D) (K : List Cell) : putA (gcD f K) x.key v = gcD (updK f x v) (addC K x) := by
  unfold putA addC
  rw [gcD_any]
  by_cases e : x ∈ K
  · rw [decide_eq_true e, if_pos rfl, if_pos e]
    unfold gcD
    rw [List.map_map]
    refine List.map_congr_left fun y hy => ?_
    simp only [Function.comp, updK]
    by_cases q : y = x
    · subst q; simp
    · simp [q, key_ne q]
  · rw [decide_eq_false e, if_neg (by simp), if_neg e]
    unfold gcD
    rw [List.map_append]
    congr 1
    · refine List.map_congr_left fun y hy => ?_
      have q : ¬ y = x := fun z => e (by rw [← z]; exact hy)
      simp [updK, q]
    · simp [updK]
theorem gcD_congr {f f' : Cell → D} {K : List Cell} (e : ∀ x ∈ K, f x = f' x) : gcD f K = gcD f' K := List.map_congr_left fun x hx => by rw [e x hx]
theorem gcD_keys (f : Cell → D) (K : List Cell) : (gcD f K).map (fun p => dKey p.1) = K.map Cell.d := by
  unfold gcD
  rw [List.map_map]
  exact List.map_congr_left fun x _ => dKey_cell x
/-- chains as a dict -/
def wF (w : Cell → List Cell) : Cell → D := fun x => .tup ((w x).map Cell.d)
theorem put_wF (w : Cell → List Cell) (x : Cell) (l : List Cell) (K : List Cell) : putA (gcD (wF w) K) x.key (.tup (l.map Cell.d)) = gcD (wF (updW w x l)) (addC K x) := by
  rw [put_gcD]
  refine gcD_congr fun z _ => ?_
  unfold updK wF updW
  split <;> rfl
def Clash (T : List Th) (w : List Cell) : Prop := ∃ a b, Walk T a b w ∧ ((a, b, false) ∈ T ∨ (a.isVal = true ∧ b.isVal = true ∧ a ≠ b))
structure NoClash (T : List Th) : Prop where
  apart : ∀ a b, (a, b, false) ∈ T → hd T b ≠ hd T a
  vals : ∀ t ∈ T, ∀ u v : Cell, u.isVal = true → v.isVal = true → hd T u = hd T t.1 → hd T v = hd T t.1 → u = v
/-- no two unlike values are joined -/
theorem NoClash.one {T : List Th} (h : NoClash T) {u v : Cell} (hu : u.isVal = true) (hv : v.isVal = true) (e : hd T u = hd T v) : u = v := by
  by_cases s : Stands T u
  · obtain ⟨t, ht, rfl | rfl⟩ := s
    · exact h.vals t ht _ v hu hv rfl e.symm
    · obtain ⟨a, b, s⟩ := t
      cases s with
      | true =>
        have := heads_said ht
        exact h.vals _ ht _ v hu hv this.symm (e.symm.trans this.symm)
      | false =>
        by_cases q : b = v
        · exact q
        · -- b is joined to another one by some thing
          have : (∃ t ∈ T, t.2.2 = true ∧ (t.1 = b ∨ t.2.1 = b)) := by
            refine Classical.byContradiction fun n => ?_
            have := (heads_closed (· = b) (T := T) (fun t ht hs => ⟨fun z => absurd ⟨t, ht, hs, .inl z⟩ n, fun z => absurd ⟨t, ht, hs, .inr z⟩ n⟩) e).mp rfl
            exact q this.symm
          obtain ⟨t2, ht2, hs, hb⟩ := this
          obtain ⟨x, y, s⟩ := t2
          simp only at hs hb; subst hs
          have j := heads_said ht2
          rcases hb with rfl | rfl
          · exact h.vals _ ht2 _ v hu hv rfl e.symm
          · exact h.vals _ ht2 _ v hu hv j.symm (e.symm.trans j.symm)
  · have := (heads_closed (· = u) (T := T) (fun t ht _ => ⟨fun z => absurd ⟨t, ht, .inl z.symm⟩ s, fun z => absurd ⟨t, ht, .inr z.symm⟩ s⟩) e).mp rfl
    exact this.symm
structure Agr (T : List Th) (f : Cell → Int) (K : List Cell) (tk : List Int) : Prop where
  nd : K.Nodup
  gap : ∀ x ∈ K, x.isVal = false
  stand : ∀ x ∈ K, Stands T x
  cls : ∀ x ∈ K, ∀ y : Cell, y.isVal = false → hd T y = hd T x → y ∈ K
  same : ∀ x ∈ K, ∀ y ∈ K, f x = f y ↔ hd T x = hd T y
  val : ∀ x ∈ K, ∀ n, Stands T (.val n) → (f x = n ↔ hd T x = hd T (.val n))
  tkv : ∀ n, Stands T (.val n) → n ∈ tk
  tkf : ∀ x ∈ K, f x ∈ tk
def setFv (f : Cell → Int) (pre : List Cell) (v : Int) : Cell → Int := fun z => if z ∈ pre then v else f z
def addG (K : List Cell) (pre : List Cell) : List Cell := (pre.filter fun x => !x.isVal).foldl addC K
theorem addG_mem : ∀ {pre K : List Cell} {y : Cell}, y ∈ addG K pre ↔ y ∈ K ∨ (y ∈ pre ∧ y.isVal = false) := by
  intro pre
  unfold addG
  induction pre with
  | nil => intro K y; simp
  | cons x pre ih =>
    intro K y
    rw [List.filter_cons]
    cases hx : x.isVal with
    | true =>
      simp only [Bool.not_true, Bool.false_eq_true, if_false]
      rw [ih, List.mem_cons]
      constructor
      · rintro (h | ⟨h1, h2⟩)
        · exact .inl h
        · exact .inr ⟨.inr h1, h2⟩
      · rintro (h | ⟨h1 | h1, h2⟩)
        · exact .inl h
        · subst h1; rw [hx] at h2; cases h2
        · exact .inr ⟨h1, h2⟩
    | false =>
      simp only [Bool.not_false, if_true]
      rw [List.foldl_cons, ih, addC_mem, List.mem_cons]
      constructor
      · rintro ((h | h) | ⟨h1, h2⟩)
        · exact .inl h
        · exact .inr ⟨.inl h, by rw [h]; exact hx⟩
        · exact .inr ⟨.inr h1, h2⟩
      · rintro (h | ⟨h1 | h1, h2⟩)
        · exact .inl (.inl h)
        · exact .inl (.inr h1)
        · exact .inr ⟨h1, h2⟩
theorem addC_nodup {K : List Cell} (h : K.Nodup) (x : Cell) : (addC K x).Nodup := by
  unfold addC
  split
  · exact h
  · rename_i hx
    rw [List.nodup_append]
    exact ⟨h, by simp, fun a ha b hb e => by rw [List.mem_singleton] at hb; subst hb; subst e; exact hx ha⟩
theorem addG_nodup : ∀ {pre K : List Cell}, K.Nodup → (addG K pre).Nodup := by
  intro pre
  unfold addG
  generalize pre.filter (fun x => !x.isVal) = l
  induction l with
  | nil => exact fun h => h
  | cons x l ih => exact fun {K} h => ih (addC_nodup h x)
theorem addG_snoc (K pre : List Cell) (x : Cell) : addG K (pre ++ [x]) = if x.isVal = true then addG K pre else addC (addG K pre) x := by
  unfold addG
  rw [List.filter_append, List.foldl_append]
  cases hx : x.isVal <;> simp [hx]
theorem Agr.step {T : List Th} (nc : NoClash T) {f : Cell → Int} {K : List Cell} {tk : List Int} (A : Agr T f K tk) {c : Cell} (hc : Stands T c) (hg : c.isVal = false) (hn : c ∉ K) {w : Cell → List Cell} {Kc : List Cell} (C : Chains T c w Kc) {v : Int}
    (hv : (∃ n, (.val n) ∈ Kc ∧ v = n) ∨ ((∀ x ∈ Kc, x.isVal = false) ∧ v ∉ tk)) : Agr T (setFv f Kc v) (addG K Kc) (tk ++ [v]) := by
  have off : ∀ x ∈ K, x ∉ Kc := fun x hx z => hn (A.cls x hx c hg (C.mem.mp z).symm)
  have fK : ∀ x ∈ K, setFv f Kc v x = f x := fun x hx => if_neg (off x hx)
  have fC : ∀ x ∈ Kc, setFv f Kc v x = v := fun x hx => if_pos hx
  have stK : ∀ x ∈ Kc, Stands T x := fun x hx => (C.walk x hx).stands.elim (fun e => by rw [e]; exact hc) id
  have neq : ∀ x ∈ K, f x ≠ v := fun x hx e => by
    rcases hv with ⟨n, hn, rfl⟩ | ⟨_, ht⟩
    · have := (A.val x hx v (stK _ hn)).mp e
      exact off x hx (C.mem.mpr (this.trans (C.mem.mp hn)))
    · exact ht (e ▸ A.tkf x hx)
  refine ⟨addG_nodup A.nd, fun x hx => ?_, fun x hx => ?_, fun x hx y hy e => ?_, fun x hx y hy => ?_, fun x hx n hs => ?_, fun n hs => List.mem_append_left _ (A.tkv n hs), fun x hx => ?_⟩
  · rcases addG_mem.mp hx with h | h
    · exact A.gap x h
    · exact h.2
  · rcases addG_mem.mp hx with h | h
    · exact A.stand x h
    · exact stK x h.1
  · rcases addG_mem.mp hx with h | h
    · exact addG_mem.mpr (.inl (A.cls x h y hy e))
    · exact addG_mem.mpr (.inr ⟨C.mem.mpr (e.trans (C.mem.mp h.1)), hy⟩)
  · rcases addG_mem.mp hx with h | h <;> rcases addG_mem.mp hy with g | g
    · rw [fK x h, fK y g]; exact A.same x h y g
    · rw [fK x h, fC y g.1]
      exact ⟨fun e => absurd e (neq x h), fun e => absurd (C.mem.mpr (e.trans (C.mem.mp g.1))) (off x h)⟩
    · rw [fC x h.1, fK y g]
      exact ⟨fun e => absurd e.symm (neq y g), fun e => absurd (C.mem.mpr (e.symm.trans (C.mem.mp h.1))) (off y g)⟩
    · rw [fC x h.1, fC y g.1]
      exact ⟨fun _ => (C.mem.mp h.1).trans (C.mem.mp g.1).symm, fun _ => rfl⟩
  · rcases addG_mem.mp hx with h | h
    · rw [fK x h]; exact A.val x h n hs
    · rw [fC x h.1]
      have hxc := C.mem.mp h.1
      rcases hv with ⟨m, hm, rfl⟩ | ⟨hnv, ht⟩
      · have hmc := C.mem.mp hm
        refine ⟨fun e => by subst e; exact hxc.trans hmc.symm, fun e => ?_⟩
        have := nc.one (u := .val v) (v := .val n) rfl rfl (hmc.trans (hxc.symm.trans e))
        injection this
      · refine ⟨fun e => absurd (e ▸ A.tkv n hs) ht, fun e => ?_⟩
        have := hnv (.val n) (C.mem.mpr (e.symm.trans hxc))
        cases this
  · rcases addG_mem.mp hx with h | h
    · rw [fK x h]; exact List.mem_append_left _ (A.tkf x h)
    · rw [fC x h.1]; simp
/-- what a cell comes to at a filling told so -/
def wth (f : Cell → Int) : Cell → Int
  | .val n => n
  | x => f x
theorem Agr.agree {T : List Th} {f : Cell → Int} {K : List Cell} {tk : List Int} (nc : NoClash T) (A : Agr T f K tk) (all : ∀ x, Stands T x → x.isVal = false → x ∈ K) {x y : Cell} (hx : Stands T x) (hy : Stands T y) : wth f x = wth f y ↔ hd T x = hd T y := by
  cases x with
  | gap a =>
    have ha := all _ hx rfl
    cases y with
    | gap b => exact A.same _ ha _ (all _ hy rfl)
    | val n => exact A.val _ ha n hy
  | val m =>
    cases y with
    | gap b => exact ⟨fun e => ((A.val _ (all _ hy rfl) m hx).mp e.symm).symm, fun e => ((A.val _ (all _ hy rfl) m hx).mpr e.symm).symm⟩
    | val n => exact ⟨fun e => by rw [show m = n from e], fun e => by
        have := nc.one (u := .val m) (v := .val n) rfl rfl e
        injection this⟩
end Pgm
namespace K21
open PySem MT Pgm
variable {st : List D}
theorem vals_call (n : Nat) (f : Cell → D) (K : List Cell) (cl : K.length < 1000000) : (pg.ct 63 (n + 1)).call 35 st [.dK (gcD f K)] = .ok ⟨.lst ((K.filter Cell.isVal).map Cell.d), true⟩ [] st := by
  have kk := gcD_keys f K
  have fk : itemsD .seqK [.dK (gcD f K)] = some (K.map Cell.d) := by rw [← kk]; rfl
  refine cj rfl ?_
  generalize gcD f K = G at *
  refine run_of rfl rfl (by decide) ?_
  rw [show argsE [] [.dK G] ++ List.replicate (fi35.nsl - fi35.nps) none = [some ⟨.dK G, false⟩, none] from rfl]
  show (exs _ [] ir35 _).W _ _ _ _ _
  unfold ir35
  refine no_implicit_lambda% (W_cons ?_)
  simp [Env.length]
  rw [lcE_F (K) (Cell.d) (Cell.isVal) (Cell.d) (by simp [Env.length, fk, -sitk_dK]) (by omega) (by simp [Env.length]) (fun x hx => by cases x <;> simp [Env.length, Cell.d, Cell.isVal])]
  simp [Env.length]
theorem nbs_call (n : Nat) (T : List Th) (tl : T.length < 1000) (c : Cell) : (pg.ct 63 (n + 1)).call 37 st [.lst (T.map thD), c.d] = .ok ⟨.lst ((nbs T c).map Cell.d), true⟩ [] st := by
  refine cj rfl ?_
  refine run_of rfl rfl (by decide) ?_
  rw [show argsE [] [.lst (T.map thD), c.d] ++ List.replicate (fi37.nsl - fi37.nps) none = [some ⟨.lst (T.map thD), false⟩, some ⟨c.d, false⟩, none, none, none, none] from rfl]
  show (exs _ [] ir37 _).W _ _ _ _ _
  unfold ir37
  refine no_implicit_lambda% (W_cons ?_)
  simp [Env.length]
  refine no_implicit_lambda% (W_cons ?_)
  simp [Env.length]
  obtain ⟨I, hI⟩ : ∃ I : List (Th) → MT.Env → Prop, I = fun pre e => ∃ (x3 x4 x5 : Option Val), e = ⟨[some ⟨.lst (T.map thD), false⟩, some ⟨c.d, false⟩, some ⟨.lst ((nbs pre c).map Cell.d), true⟩, x3, x4, x5], st⟩ ∧ True := ⟨_, rfl⟩
  refine no_implicit_lambda% (W_loopM (T) (thD) I (by simp [Env.length]) ?_ ?_ ?_)
  · rw [hI]; exact ⟨none, none, none, by simp [Env.length, nbs], trivial⟩
  · rintro pre t suf hx e he; rw [hI] at he; obtain ⟨x3, x4, x5, rfl, _⟩ := he
    have pl : pre.length < 1000 := by rw [hx] at tl; simp at tl; omega
    have nl : ((nbs pre c).map Cell.d).length < 16770000 := by
      have := nbs_len pre c
      rw [List.length_map]; omega
    obtain ⟨a, b, s⟩ := t
    have nxt : ∀ (L : List Cell) (x3 x4 x5 : Option Val), L = nb1 c (a, b, s) → I (pre ++ [(a, b, s)]) ⟨[some ⟨.lst (T.map thD), false⟩, some ⟨c.d, false⟩, some ⟨.lst ((nbs pre c).map Cell.d ++ L.map Cell.d), true⟩, x3, x4, x5], st⟩ := fun L x3 x4 x5 e => by
      rw [hI]
      refine ⟨x3, x4, x5, ?_, trivial⟩
      have : nbs (pre ++ [(a, b, s)]) c = nbs pre c ++ L := by rw [e]; simp [nbs]
      rw [this, List.map_append]
    clear hI hx
    generalize (nbs pre c).map Cell.d = N at *
    have e1 := eqD_cells a c
    have e2 := eqD_cells b c
    have l1 : N.length < 16777216 := by omega
    simp only [thD]
    simp [Env.length]
    cases s with
    | false =>
      refine no_implicit_lambda% (W_cons ?_)
      simp [Env.length]
      refine no_implicit_lambda% (W_nil ?_)
      refine no_implicit_lambda% (W_cons ?_)
      simp [Env.length]
      refine no_implicit_lambda% (W_nil (W_nil ?_))
      simpa using nxt [] _ _ _ (by simp [nb1])
    | true =>
      by_cases h1 : a = c
      · rw [decide_eq_true h1] at e1
        refine no_implicit_lambda% (W_cons ?_)
        simp [Env.length, e1]
        refine no_implicit_lambda% (W_cons ?_)
        simp [Env.length, l1]
        refine no_implicit_lambda% (W_nil ?_)
        have l2 : N.length + 1 < 16777216 := by omega
        by_cases h2 : b = c
        · rw [decide_eq_true h2] at e2
          refine no_implicit_lambda% (W_cons ?_)
          simp [Env.length, e2]
          refine no_implicit_lambda% (W_cons ?_)
          simp [Env.length, l1, l2]
          refine no_implicit_lambda% (W_nil (W_nil ?_))
          simpa using nxt [b, a] _ _ _ (by simp [nb1, h1, h2])
        · rw [decide_eq_false h2] at e2
          refine no_implicit_lambda% (W_cons ?_)
          simp [Env.length, e2]
          refine no_implicit_lambda% (W_nil (W_nil ?_))
          simpa using nxt [b] _ _ _ (by simp [nb1, h1, h2])
      · rw [decide_eq_false h1] at e1
        refine no_implicit_lambda% (W_cons ?_)
        simp [Env.length, e1]
        refine no_implicit_lambda% (W_nil ?_)
        by_cases h2 : b = c
        · rw [decide_eq_true h2] at e2
          refine no_implicit_lambda% (W_cons ?_)
          simp [Env.length, e2]
          refine no_implicit_lambda% (W_cons ?_)
          simp [Env.length, l1]
          refine no_implicit_lambda% (W_nil (W_nil ?_))
          simpa using nxt [a] _ _ _ (by simp [nb1, h1, h2])
        · rw [decide_eq_false h2] at e2
          refine no_implicit_lambda% (W_cons ?_)
          simp [Env.length, e2]
          refine no_implicit_lambda% (W_nil (W_nil ?_))
          simpa using nxt [] _ _ _ (by simp [nb1, h1, h2])
  · rintro e he; rw [hI] at he; obtain ⟨x3, x4, x5, rfl, _⟩ := he
    refine no_implicit_lambda% (W_cons ?_)
    simp [Env.length]
theorem chains_call (n : Nat) (T : List Th) (tl : T.length < 1000) (P : List Cell) (pl : P.length ≤ 60) (hT : ∀ t ∈ T, t.1 ∈ P ∧ t.2.1 ∈ P) (c : Cell) (hc : c ∈ P) :
    ∃ w K, Chains T c w K ∧ (pg.ct 63 (n + 2)).call 38 st [.lst (T.map thD), c.d] = .ok ⟨.dK (gcD (wF w) K), true⟩ [] st := by
  suffices h : ∃ v, (∃ w K, Chains T c w K ∧ v = ⟨.dK (gcD (wF w) K), true⟩) ∧ (pg.ct 63 (n + 2)).call 38 st [.lst (T.map thD), c.d] = .ok v [] st by
    obtain ⟨v, ⟨w, K, h1, rfl⟩, h⟩ := h
    exact ⟨w, K, h1, h⟩
  have c37 := fun h => nbs_call (st := st) n T tl h
  have pos : 0 < P.length := List.length_pos_iff.mpr fun e => by rw [e] at hc; cases hc
  have kd := keyD_cell
  refine cxw rfl ?_
  obtain ⟨TD, hTD⟩ : ∃ TD, TD = T.map thD := ⟨_, rfl⟩
  rw [← hTD] at c37 ⊢
  refine run_ex rfl rfl (by decide) ?_
  rw [show argsE [] [.lst TD, c.d] ++ List.replicate (fi38.nsl - fi38.nps) none = [some ⟨.lst TD, false⟩, some ⟨c.d, false⟩, none, none, none, none] from rfl]
  show (exs _ [] ir38 _).W _ _ _ _ _
  unfold ir38
  refine no_implicit_lambda% (W_cons ?_)
  simp [Env.length, kd]
  refine no_implicit_lambda% (W_cons ?_)
  simp [Env.length]
  refine no_implicit_lambda% (W_cons ?_)
  simp [Env.length]
  refine no_implicit_lambda% (W_while (fun k e => ∃ (w : Cell → List Cell) (K W : List Cell) (x4 x5 : Option Val), e = ⟨[some ⟨.lst TD, false⟩, some ⟨c.d, false⟩, some ⟨.dK (gcD (wF w) K), true⟩, some ⟨.lst (W.map Cell.d), true⟩, x4, x5], st⟩ ∧ ChI T c w K W ∧ k = (P.length - K.length) + W.length) 63 P.length _ (by omega) ⟨fun _ => [c], [c], [c], none, none, by simp [Env.length, gcD, wF], ChI.start T c, by simp; omega⟩ ?_)
  rintro k e ⟨w, K, W, x4, x5, rfl, hI, rfl⟩
  have kl := hI.le hc hT
  cases W with
  | nil =>
    have ne : eqD (.lst []) (.lst []) = some true := rfl
    refine ⟨false, ⟨[some ⟨.lst TD, false⟩, some ⟨c.d, false⟩, some ⟨.dK (gcD (wF w) K), true⟩, some ⟨.lst ([].map Cell.d), true⟩, x4, x5], st⟩, by simp [Env.length, ne], ?_⟩
    rw [if_neg (by simp)]
    refine no_implicit_lambda% (W_cons ?_)
    simp [Env.length]
    exact ⟨w, K, hI.chains, rfl⟩
  | cons here W =>
    have ne : eqD (.lst (here.d :: W.map Cell.d)) (.lst []) = some false := rfl
    refine ⟨true, ⟨[some ⟨.lst TD, false⟩, some ⟨c.d, false⟩, some ⟨.dK (gcD (wF w) K), true⟩, some ⟨.lst ((here :: W).map Cell.d), true⟩, x4, x5], st⟩, by simp [Env.length, ne], ?_⟩
    rw [if_pos rfl]
    have hK : here ∈ K := hI.sub here List.mem_cons_self
    have hP := hI.pop
    have c37 := c37 here
    clear hI
    refine no_implicit_lambda% (W_cons ?_)
    simp [Env.length]
    refine no_implicit_lambda% (W_cons ?_)
    simp [Env.length, c37]
    obtain ⟨I, hI⟩ : ∃ I : List (Cell) → MT.Env → Prop, I = fun pre e => ∃ (w2 : Cell → List Cell) (K2 W2 : List Cell) (x5 : Option Val), e = ⟨[some ⟨.lst TD, false⟩, some ⟨c.d, false⟩, some ⟨.dK (gcD (wF w2) K2), true⟩, some ⟨.lst (W2.map Cell.d), true⟩, some ⟨here.d, false⟩, x5], st⟩ ∧ ChN T c here pre w2 K2 W2 W.length K.length := ⟨_, rfl⟩
    refine no_implicit_lambda% (W_loopM (nbs T here) (Cell.d) I (by simp [Env.length]) ?_ ?_ ?_)
    · rw [hI]; exact ⟨w, K, W, _, rfl, hP⟩
    · rintro pre x suf hx e he; rw [hI] at he; obtain ⟨w2, K2, W2, x5, rfl, hJ⟩ := he
      have ha : Adj T here x := nbs_mem.mp (by rw [hx]; simp)
      have k2 := hJ.le hc hT
      have gh := get_gcD (wF w2) here K2
      rw [if_pos hJ.hereK] at gh
      have gx := get_gcD (wF w2) x K2
      have wd : wF w2 here = .tup ((w2 here).map Cell.d) := rfl
      have pt := put_wF w2 x (w2 here ++ [x]) K2
      rw [List.map_append] at pt
      have fl : (gcD (wF w2) K2).length < 16777216 := by rw [gcD_len]; omega
      have w2l : (W2.map Cell.d).length < 16777216 := by
        have := hJ.wc
        rw [List.length_map]; omega
      have hwl : ((w2 here).map Cell.d).length ≤ 16777215 := by
        have := hJ.wlen here hJ.hereK
        rw [List.length_map]; omega
      by_cases e : x ∈ K2
      · have nxt : ∀ x5, I (pre ++ [x]) ⟨[some ⟨.lst TD, false⟩, some ⟨c.d, false⟩, some ⟨.dK (gcD (wF w2) K2), true⟩, some ⟨.lst (W2.map Cell.d), true⟩, some ⟨here.d, false⟩, x5], st⟩ := fun x5 => by
          rw [hI]; exact ⟨w2, K2, W2, x5, rfl, hJ.old e⟩
        clear hI
        rw [if_pos e] at gx
        simp [Env.length]
        refine no_implicit_lambda% (W_cons ?_)
        simp [Env.length, kd, gx]
        refine no_implicit_lambda% (W_nil (W_nil ?_))
        exact nxt _
      · have nxt : ∀ x5, I (pre ++ [x]) ⟨[some ⟨.lst TD, false⟩, some ⟨c.d, false⟩, some ⟨.dK (gcD (wF (updW w2 x (w2 here ++ [x]))) (K2 ++ [x])), true⟩, some ⟨.lst (W2.map Cell.d ++ [x.d]), true⟩, some ⟨here.d, false⟩, x5], st⟩ := fun x5 => by
          rw [hI]; exact ⟨_, _, _, x5, by simp, hJ.new e ha⟩
        clear hI
        rw [if_neg e] at gx
        rw [show addC K2 x = K2 ++ [x] from if_neg e] at pt
        simp only [List.map_cons, List.map_nil] at pt
        generalize gcD (wF (updW w2 x (w2 here ++ [x]))) (K2 ++ [x]) = G2 at *
        generalize gcD (wF w2) K2 = G1 at *
        generalize W2.map Cell.d = WD at *
        rw [wd] at gh
        generalize (w2 here).map Cell.d = HW at *
        simp [Env.length]
        refine no_implicit_lambda% (W_cons ?_)
        simp [Env.length, kd, gx]
        refine no_implicit_lambda% (W_cons ?_)
        simp [Env.length, kd, gh, fl, pt, muPut, hwl]
        refine no_implicit_lambda% (W_cons ?_)
        simp [Env.length, w2l]
        refine no_implicit_lambda% (W_nil (W_nil ?_))
        exact nxt _
    · rintro e he; rw [hI] at he; obtain ⟨w2, K2, W2, x5, rfl, hJ⟩ := he
      refine no_implicit_lambda% (W_nil ?_)
      have := hJ.count
      have := hJ.le hc hT
      exact ⟨P.length - K2.length + W2.length, by omega, w2, K2, W2, ⟨_, _, rfl⟩, hJ.all, rfl⟩
end K21
namespace K21
open PySem MT Pgm
variable {st : List D}
theorem clash_call (n : Nat) (T : List Th) (tl : T.length < 1000) (P : List Cell) (pl : P.length ≤ 60) (hT : ∀ t ∈ T, t.1 ∈ P ∧ t.2.1 ∈ P) :
    ∃ v, ((v = ⟨.non, false⟩ ∧ NoClash T) ∨ ∃ w, v = ⟨.tup (w.map Cell.d), false⟩ ∧ Clash T w) ∧ (pg.ct 63 (n + 3)).call 39 st [.lst (T.map thD)] = .ok v [] st := by
  have c38 := fun c hc => chains_call (st := st) n T tl P pl hT c hc
  have c35 := fun f K h => vals_call (st := st) (n + 1) f K h
  have kd := keyD_cell
  obtain ⟨Q, hQ⟩ : ∃ Q : Val → Prop, Q = fun v => (v = ⟨.non, false⟩ ∧ NoClash T) ∨ ∃ w, v = ⟨.tup (w.map Cell.d), false⟩ ∧ Clash T w := ⟨_, rfl⟩
  suffices h : ∃ v, Q v ∧ (pg.ct 63 (n + 3)).call 39 st [.lst (T.map thD)] = .ok v [] st by rw [hQ] at h; exact h
  refine cxw rfl ?_
  refine run_ex rfl rfl (by decide) ?_
  rw [show argsE [] [.lst (T.map thD)] ++ List.replicate (fi39.nsl - fi39.nps) none = [some ⟨.lst (T.map thD), false⟩, none, none, none, none, none] from rfl]
  show (exs _ [] ir39 _).W _ _ _ _ _
  unfold ir39
  refine no_implicit_lambda% (W_cons ?_)
  simp [Env.length]
  obtain ⟨I, hI⟩ : ∃ I : List (Th) → MT.Env → Prop, I = fun pre e => ∃ (x1 x2 x3 x4 x5 : Option Val), e = ⟨[some ⟨.lst (T.map thD), false⟩, x1, x2, x3, x4, x5], st⟩ ∧ ∀ t ∈ pre, (t.2.2 = false → hd T t.2.1 ≠ hd T t.1) ∧ ∀ u v : Cell, u.isVal = true → v.isVal = true → hd T u = hd T t.1 → hd T v = hd T t.1 → u = v := ⟨_, rfl⟩
  refine no_implicit_lambda% (W_loopM (T) (thD) I (by simp [Env.length]) ?_ ?_ ?_)
  · rw [hI]; exact ⟨none, none, none, none, none, rfl, by simp⟩
  · rintro pre t suf hx e he; rw [hI] at he; obtain ⟨x1, x2, x3, x4, x5, rfl, hp⟩ := he
    have tm : t ∈ T := by rw [hx]; simp
    obtain ⟨ha, hb⟩ := hT t tm
    obtain ⟨a, b, s⟩ := t
    simp only at ha hb
    obtain ⟨w, K, C, c38a⟩ := c38 a ha
    have kl := C.le ha hT
    have gx := get_gcD (wF w) b K
    have vc := c35 (wF w) K (by omega)
    have wb : wF w b = .tup ((w b).map Cell.d) := rfl
    have mV : ∀ x, x ∈ K.filter Cell.isVal ↔ hd T x = hd T a ∧ x.isVal = true := fun x => by rw [List.mem_filter, C.mem]
    have nV : (K.filter Cell.isVal).Nodup := C.nd.filter _
    have vl : (K.filter Cell.isVal).length ≤ 60 := Nat.le_trans (List.length_filter_le _ _) (by omega)
    have kP : ∀ x ∈ K, x ∈ P := fun x hx => by
      rcases (C.walk x hx).stands with rfl | ⟨t, ht, e⟩
      · exact ha
      · rcases e with rfl | rfl
        · exact (hT t ht).1
        · exact (hT t ht).2
    have nxt : ∀ x1 x2 x3 x4 x5, (s = false → b ∉ K) → (∀ u ∈ K.filter Cell.isVal, ∀ v ∈ K.filter Cell.isVal, u = v) → I (pre ++ [(a, b, s)]) ⟨[some ⟨.lst (T.map thD), false⟩, x1, x2, x3, x4, x5], st⟩ := fun x1 x2 x3 x4 x5 h1 h2 => by
      rw [hI]
      refine ⟨x1, x2, x3, x4, x5, rfl, fun t ht => ?_⟩
      rcases List.mem_append.mp ht with ht | ht
      · exact hp t ht
      · rw [List.mem_singleton.mp ht]
        exact ⟨fun z e => h1 z (C.mem.mpr e), fun u v hu hv e1 e2 => h2 u ((mV u).mpr ⟨e1, hu⟩) v ((mV v).mpr ⟨e2, hv⟩)⟩
    have retA : s = false → b ∈ K → Q ⟨.tup ((w b).map Cell.d), false⟩ := fun z hb => by
      rw [hQ]
      exact .inr ⟨_, rfl, a, b, C.walk b hb, .inl (by rw [← z]; exact tm)⟩
    have retB : ∀ u v w2, u ∈ K.filter Cell.isVal → v ∈ K.filter Cell.isVal → u ≠ v → Walk T u v w2 → Q ⟨.tup (w2.map Cell.d), false⟩ := fun u v w2 hu hv ne hw => by
      rw [hQ]
      exact .inr ⟨_, rfl, u, v, hw, .inr ⟨((mV u).mp hu).2, ((mV v).mp hv).2, ne⟩⟩
    clear hI hx hp hQ
    simp only [thD]
    simp [Env.length]
    refine no_implicit_lambda% (W_cons ?_)
    simp [Env.length, c38a]
    generalize gcD (wF w) K = G at *
    rw [wb] at gx
    by_cases h1 : s = false ∧ b ∈ K
    · have r := retA h1.1 h1.2
      rw [if_pos h1.2] at gx
      obtain ⟨rfl, _⟩ := h1
      generalize (w b).map Cell.d = WB at *
      refine no_implicit_lambda% (W_cons ?_)
      simp [Env.length, kd, gx]
      refine no_implicit_lambda% (W_cons ?_)
      simp [Env.length, kd, gx]
      exact r
    · obtain ⟨P, hP⟩ : ∃ P : MT.Env → Prop, P = fun e => ∃ (y : Unit), e = ⟨[some ⟨.lst (T.map thD), false⟩, some ⟨a.d, false⟩, some ⟨b.d, false⟩, some ⟨.bl s, false⟩, some ⟨.dK G, true⟩, x5], st⟩ := ⟨_, rfl⟩
      refine no_implicit_lambda% (W_join P ?_ ?_)
      · cases s with
        | true =>
          simp [Env.length]
          refine no_implicit_lambda% (W_nil ?_)
          rw [hP]; exact ⟨(), rfl⟩
        | false =>
          rw [if_neg fun z => h1 ⟨rfl, z⟩] at gx
          simp [Env.length, kd, gx]
          refine no_implicit_lambda% (W_nil ?_)
          rw [hP]; exact ⟨(), rfl⟩
      · rintro e he; rw [hP] at he; obtain ⟨_, rfl⟩ := he; clear hP P
        refine no_implicit_lambda% (W_cons ?_)
        simp [Env.length, vc]
        have nxt := fun x1 x2 x3 x4 x5 => nxt x1 x2 x3 x4 x5 fun z h => h1 ⟨z, h⟩
        have kv : ∀ x ∈ K.filter Cell.isVal, x ∈ P := fun x hx => kP x (List.mem_filter.mp hx).1
        have two : ∀ u v, u ∈ K.filter Cell.isVal → v ∈ K.filter Cell.isVal → hd T v = hd T u := fun u v hu hv => ((mV v).mp hv).1.trans ((mV u).mp hu).1.symm
        clear mV
        generalize K.filter Cell.isVal = V at *
        have bl : biD .len [.lst (V.map Cell.d)] = some ⟨.int (V.length : Int), false⟩ := by simp [biD, lenD]
        match V, nV, vl with
        | [], _, _ =>
          refine no_implicit_lambda% (W_cons ?_)
          simp [Env.length]
          refine no_implicit_lambda% (W_nil (W_nil ?_))
          exact nxt _ _ _ _ _ (by simp)
        | [u], _, _ =>
          refine no_implicit_lambda% (W_cons ?_)
          simp [Env.length]
          refine no_implicit_lambda% (W_nil (W_nil ?_))
          exact nxt _ _ _ _ _ (by simp)
        | u :: v :: V, nV, vl =>
          have ne : u ≠ v := fun e => by subst e; simp at nV
          obtain ⟨w2, K2, C2, c38u⟩ := c38 u (kv u (by simp))
          have hv2 : v ∈ K2 := C2.mem.mpr (two u v (by simp) (by simp))
          have g2 := get_gcD (wF w2) v K2
          rw [if_pos hv2] at g2
          have wv : wF w2 v = .tup ((w2 v).map Cell.d) := rfl
          rw [wv] at g2
          have r := retB u v (w2 v) (by simp) (by simp) ne (C2.walk v hv2)
          obtain ⟨N, hN⟩ : ∃ N : Int, N = ((u :: v :: V).length : Int) := ⟨_, rfl⟩
          rw [← hN] at bl
          have h1N : (1 : Int) < N := by rw [hN]; simp only [List.length_cons]; omega
          clear hN
          generalize gcD (wF w2) K2 = G2 at *
          generalize (w2 v).map Cell.d = WB at *
          simp only [List.map_cons] at bl ⊢
          have a0 : L2.atI (u.d :: v.d :: V.map Cell.d) 0 = some u.d := at3_0 _ _
          have a1 : L2.atI (u.d :: v.d :: V.map Cell.d) 1 = some v.d := at3_1 _ _ _
          generalize u.d :: v.d :: V.map Cell.d = VD at *
          refine no_implicit_lambda% (W_cons ?_)
          simp [Env.length, bl, h1N]
          refine no_implicit_lambda% (W_cons ?_)
          simp [Env.length, a0, a1, c38u, kd, g2]
          exact r
  · rintro e he; rw [hI] at he; obtain ⟨x1, x2, x3, x4, x5, rfl, hp⟩ := he
    refine no_implicit_lambda% (W_cons ?_)
    simp [Env.length]
    rw [hQ]
    exact .inl ⟨rfl, fun a b h => (hp _ h).1 rfl, fun t ht u v hu hv e1 e2 => (hp t ht).2 u v hu hv e1 e2⟩
theorem freshb_call (n : Nat) (vs : List Int) (vl : vs.length < 63) : ∃ m, m ∉ vs ∧ (pg.ct 63 (n + 1)).call 40 st [.lst (vs.map D.int)] = .ok ⟨.int m, false⟩ [] st := by
  suffices h : ∃ v, (∃ m, m ∉ vs ∧ v = ⟨.int m, false⟩) ∧ (pg.ct 63 (n + 1)).call 40 st [.lst (vs.map D.int)] = .ok v [] st by
    obtain ⟨v, ⟨m, h1, rfl⟩, h⟩ := h
    exact ⟨m, h1, h⟩
  refine cxw rfl ?_
  refine run_ex rfl rfl (by decide) ?_
  rw [show argsE [] [.lst (vs.map D.int)] ++ List.replicate (fi40.nsl - fi40.nps) none = [some ⟨.lst (vs.map D.int), false⟩, none] from rfl]
  show (exs _ [] ir40 _).W _ _ _ _ _
  unfold ir40
  refine no_implicit_lambda% (W_cons ?_)
  simp [Env.length]
  refine no_implicit_lambda% (W_cons ?_)
  simp [Env.length]
  refine no_implicit_lambda% (W_while (fun k e => ∃ m : Int, e = ⟨[some ⟨.lst (vs.map D.int), false⟩, some ⟨.int m, false⟩], st⟩ ∧ k = (vs.filter fun x => decide (m ≤ x)).length) 63 (vs.filter fun x => decide (0 ≤ x)).length _ (Nat.lt_of_le_of_lt (List.length_filter_le _ _) vl) ⟨0, rfl, rfl⟩ ?_)
  rintro k e ⟨m, rfl, rfl⟩
  have mm := memD_ints m vs
  by_cases h : m ∈ vs
  · rw [decide_eq_true h] at mm
    refine ⟨true, ⟨[some ⟨.lst (vs.map D.int), false⟩, some ⟨.int m, false⟩], st⟩, by simp [Env.length, mm], ?_⟩
    rw [if_pos rfl]
    refine no_implicit_lambda% (W_cons ?_)
    simp [Env.length]
    refine no_implicit_lambda% (W_nil ?_)
    exact ⟨_, filt_dec vs m h, m + 1, rfl, rfl⟩
  · rw [decide_eq_false h] at mm
    refine ⟨false, ⟨[some ⟨.lst (vs.map D.int), false⟩, some ⟨.int m, false⟩], st⟩, by simp [Env.length, mm], ?_⟩
    rw [if_neg (by simp)]
    refine no_implicit_lambda% (W_cons ?_)
    simp [Env.length]
    exact h
def cellsOf (T : List Th) : List Cell := T.map (fun t => t.1) ++ T.map fun t => t.2.1
def nOf (l : List Cell) : List Int := l.filterMap fun c => match c with
  | .val n => some n
  | _ => none
theorem nOf_eq (l : List Cell) : (l.filter Cell.isVal).map Cell.d = (nOf l).map D.int := by
  induction l with
  | nil => rfl
  | cons c l ih =>
    cases c with
    | gap g => simpa [nOf, Cell.isVal] using ih
    | val n =>
      have ih := congrArg (List.cons (D.int n)) ih
      exact ih
theorem nOf_mem {l : List Cell} {n : Int} : n ∈ nOf l ↔ .val n ∈ l := by
  unfold nOf
  rw [List.mem_filterMap]
  constructor
  · rintro ⟨c, hc, e⟩
    cases c with
    | gap g => cases e
    | val m => cases e; exact hc
  · exact fun h => ⟨_, h, rfl⟩
theorem cellsOf_mem {T : List Th} {x : Cell} : x ∈ cellsOf T ↔ Stands T x := by
  unfold cellsOf Stands
  rw [List.mem_append, List.mem_map, List.mem_map]
  constructor
  · rintro (⟨t, h, rfl⟩ | ⟨t, h, rfl⟩)
    · exact ⟨t, h, .inl rfl⟩
    · exact ⟨t, h, .inr rfl⟩
  · rintro ⟨t, h, rfl | rfl⟩
    · exact .inl ⟨t, h, rfl⟩
    · exact .inr ⟨t, h, rfl⟩
/-- the state while a class is told: the part pre of it was gone through -/
theorem lD_set {f : Cell → Int} {K pre : List Cell} {v : Int} {x : Cell} (hx : x.isVal = false) : putA (lD (setFv f pre v) (addG K pre)) x.key (.int v) = lD (setFv f (pre ++ [x]) v) (addG K (pre ++ [x])) := by
  rw [put_lD, addG_snoc, if_neg (by rw [hx]; simp)]
  refine lD_congr fun z _ => ?_
  unfold updL setFv
  by_cases e : z = x
  · subst e; simp
  · rw [if_neg e]
    by_cases m : z ∈ pre
    · rw [if_pos m, if_pos (List.mem_append_left _ m)]
    · rw [if_neg m, if_neg fun w => (List.mem_append.mp w).elim m (by simpa using e)]
theorem lD_skip {f : Cell → Int} {K pre : List Cell} {v : Int} {x : Cell} (hx : x.isVal = true) (hg : ∀ z ∈ addG K pre, z.isVal = false) : lD (setFv f (pre ++ [x]) v) (addG K (pre ++ [x])) = lD (setFv f pre v) (addG K pre) := by
  rw [addG_snoc, if_pos hx]
  refine lD_congr fun z hz => ?_
  unfold setFv
  have e : z ≠ x := fun e => by have := hg z hz; rw [e, hx] at this; cases this
  by_cases m : z ∈ pre
  · rw [if_pos m, if_pos (List.mem_append_left _ m)]
  · rw [if_neg m, if_neg fun w => (List.mem_append.mp w).elim m (by simpa using e)]
theorem agreeing_call (n : Nat) (T : List Th) (P : List Cell) (pl : P.length ≤ 20) (hT : ∀ t ∈ T, t.1 ∈ P ∧ t.2.1 ∈ P) (vl : (nOf (cellsOf T)).length + P.length < 63) (tl : T.length < 1000) (sp : ∀ x ∈ st, plainD x = true) :
    ∃ v, ((v = ⟨.non, false⟩ ∧ ∃ w, Clash T w) ∨ (NoClash T ∧ ∃ f K tk, Agr T f K tk ∧ (∀ x, Stands T x → x.isVal = false → x ∈ K) ∧ v = ⟨.dK (lD f K), true⟩)) ∧ (pg.ct 63 (n + 4)).call 41 st [.lst (T.map thD)] = .ok v [] st := by
  have c38 := fun c hc => chains_call (st := st) (n + 1) T tl P (by omega) hT c hc
  have c35 := fun f K h => vals_call (st := st) (n + 2) f K h
  obtain ⟨v39, h39, c39⟩ := clash_call (st := st) n T tl P (by omega) hT
  have c35c := values_call (st := st) (n + 2) (cellsOf T) (by unfold cellsOf; simp; omega)
  have c40 := fun vs vl => freshb_call (st := st) (n + 2) vs vl
  have kd := keyD_cell
  have ity : ∀ x : Cell, isTy (pg.ct 63 (n + 3)) x.d .str = some (!x.isVal) := fun x => by cases x <;> rfl
  obtain ⟨Q, hQ⟩ : ∃ Q : Val → Prop, Q = fun v => (v = ⟨.non, false⟩ ∧ ∃ w, Clash T w) ∨ (NoClash T ∧ ∃ f K tk, Agr T f K tk ∧ (∀ x, Stands T x → x.isVal = false → x ∈ K) ∧ v = ⟨.dK (lD f K), true⟩) := ⟨_, rfl⟩
  suffices h : ∃ v, Q v ∧ (pg.ct 63 (n + 4)).call 41 st [.lst (T.map thD)] = .ok v [] st by rw [hQ] at h; exact h
  refine cxw rfl ?_
  refine run_ex rfl rfl (by decide) ?_
  rw [show argsE [] [.lst (T.map thD)] ++ List.replicate (fi41.nsl - fi41.nps) none = [some ⟨.lst (T.map thD), false⟩, none, none, none, none, none, none, none, none] from rfl]
  show (exs _ [] ir41 _).W _ _ _ _ _
  unfold ir41
  rcases h39 with ⟨rfl, nc⟩ | ⟨w, rfl, cl⟩
  · refine no_implicit_lambda% (W_cons ?_)
    simp [Env.length, c39]
    refine no_implicit_lambda% (W_nil ?_)
    refine no_implicit_lambda% (W_cons ?_)
    simp [Env.length]
    rw [lcE_M (T) (thD) (fun t => t.1.d) (by simp [Env.length]) (by omega) (by simp [Env.length]) (fun x hx => by simp [Env.length, thD])]
    simp [Env.length]
    rw [lcE_M (T) (thD) (fun t => t.2.1.d) (by simp [Env.length]) (by omega) (by simp [Env.length]) (fun x hx => by simp [Env.length, thD])]
    have cm : (T.map (fun t => t.1.d) ++ T.map fun t => t.2.1.d) = (cellsOf T).map Cell.d := by
      unfold cellsOf
      rw [List.map_append, List.map_map, List.map_map]; rfl
    have cl : (cellsOf T).length = T.length + T.length := by unfold cellsOf; simp
    have ng : ((T.map (fun t => t.1.d) ++ T.map fun t => t.2.1.d)).length ≤ 16777215 := by rw [List.length_append, List.length_map, List.length_map]; omega
    have al : T.length + T.length ≤ 16777216 := by omega
    simp [Env.length, cm, al]
    rw [nOf_eq] at c35c
    refine no_implicit_lambda% (W_cons ?_)
    simp [Env.length, c35c]
    refine no_implicit_lambda% (W_cons ?_)
    simp [Env.length]
    refine no_implicit_lambda% (W_cons ?_)
    simp [Env.length]
    obtain ⟨I, hI⟩ : ∃ I : List (Cell) → MT.Env → Prop, I = fun pre e => ∃ (f : Cell → Int) (K : List Cell) (tk : List Int) (x4 x5 x6 x7 : Option Val), e = ⟨[some ⟨.lst (T.map thD), false⟩, some ⟨.lst ((cellsOf T).map Cell.d), false⟩, some ⟨.lst (tk.map D.int), true⟩, some ⟨.dK (lD f K), true⟩, x4, x5, x6, x7, none], st⟩ ∧ Agr T f K tk ∧ (∀ x ∈ pre, x.isVal = false → x ∈ K) ∧ tk.length ≤ (nOf (cellsOf T)).length + K.length := ⟨_, rfl⟩
    refine no_implicit_lambda% (W_loopM (cellsOf T) (Cell.d) I (by simp [Env.length]) ?_ ?_ ?_)
    · rw [hI]
      exact ⟨fun _ => 0, [], nOf (cellsOf T), none, none, none, none, rfl, ⟨by simp, by simp, by simp, by simp, by simp, by simp, fun n h => nOf_mem.mpr (cellsOf_mem.mpr h), by simp⟩, by simp, by simp⟩
    · rintro pre x suf hx e he; rw [hI] at he; obtain ⟨f, K, tk, x4, x5, x6, x7, rfl, hA, hp, ht⟩ := he
      have xs : Stands T x := cellsOf_mem.mp (by rw [hx]; simp)
      have xP : x ∈ P := by
        obtain ⟨t, h, rfl | rfl⟩ := xs
        · exact (hT t h).1
        · exact (hT t h).2
      have inP : ∀ {K : List Cell} {f : Cell → Int} {tk : List Int}, Agr T f K tk → K.length ≤ P.length := fun A => nd_le A.nd fun z hz => by
        obtain ⟨t, h, rfl | rfl⟩ := A.stand z hz
        · exact (hT t h).1
        · exact (hT t h).2
      have kl := inP hA
      have ix := ity x
      have gx := get_lD f x K
      by_cases hk : x.isVal = false ∧ x ∉ K
      · obtain ⟨hg, hn⟩ := hk
        obtain ⟨w, Kc, C, c38x⟩ := c38 x xP
        have cl2 := C.le xP hT
        have c35x := c35 (wF w) Kc (by omega)
        obtain ⟨m, hm, c40x⟩ := c40 tk (by omega)
        have keys := gcD_keys (wF w) Kc
        have nxt : ∀ (v : Int) (x4 x5 x6 x7 : Option Val), ((∃ n, (.val n) ∈ Kc ∧ v = n) ∨ ((∀ x ∈ Kc, x.isVal = false) ∧ v ∉ tk)) → I (pre ++ [x]) ⟨[some ⟨.lst (T.map thD), false⟩, some ⟨.lst ((cellsOf T).map Cell.d), false⟩, some ⟨.lst (tk.map D.int ++ [.int v]), true⟩, some ⟨.dK (lD (setFv f Kc v) (addG K Kc)), true⟩, x4, x5, x6, x7, none], st⟩ := fun v x4 x5 x6 x7 hv => by
          rw [hI]
          have A2 := hA.step nc xs hg hn C hv
          have sub : ∀ z ∈ K, z ∈ addG K Kc := fun z hz => addG_mem.mpr (.inl hz)
          have xin : x ∈ addG K Kc := addG_mem.mpr (.inr ⟨C.self, hg⟩)
          have lt : K.length + 1 ≤ (addG K Kc).length := by
            have := nd_le (K := x :: K) (P := addG K Kc) (List.nodup_cons.mpr ⟨hn, hA.nd⟩) fun z hz => (List.mem_cons.mp hz).elim (fun e => e ▸ xin) (sub z)
            simpa using this
          refine ⟨_, _, tk ++ [v], x4, x5, x6, x7, by simp, A2, fun z hz hzg => ?_, by rw [List.length_append, List.length_singleton]; omega⟩
          rcases List.mem_append.mp hz with hz | hz
          · exact sub z (hp z hz hzg)
          · rw [List.mem_singleton.mp hz]; exact xin
        have gapK : ∀ (v : Int) (p2 : List Cell), ∀ z ∈ addG K p2, z.isVal = false := fun v p2 z hz => (addG_mem.mp hz).elim (hA.gap z) (·.2)
        have tkl : (tk.map D.int).length < 16777216 := by rw [List.length_map]; omega
        have fits : ∀ (p2 : List Cell), (∀ z ∈ p2, z ∈ Kc) → addG K p2 = addG K p2 → (addG K p2).length ≤ K.length + Kc.length := fun p2 h _ => by
          have h1 : (addG K p2).length ≤ (K ++ Kc).length := nd_le (addG_nodup hA.nd) fun z hz => (addG_mem.mp hz).elim (List.mem_append_left _) fun h2 => List.mem_append_right _ (h z h2.1)
          simpa using h1
        clear hI hx hp c38 c35 c40
        rw [if_neg hn] at gx
        rw [hg] at ix
        generalize gcD (wF w) Kc = G at *
        generalize hTK : tk.map D.int = TK at *
        generalize hCS : (cellsOf T).map Cell.d = CS at *
        generalize hTD : T.map thD = TD at *
        simp [Env.length]
        refine no_implicit_lambda% (W_cons ?_)
        simp [Env.length, ix, kd, gx]
        refine no_implicit_lambda% (W_cons ?_)
        simp [Env.length, c38x]
        obtain ⟨P, hP⟩ : ∃ P : MT.Env → Prop, P = fun e => ∃ (v : Int) (o5 : Bool), e = ⟨[some ⟨.lst TD, false⟩, some ⟨.lst CS, false⟩, some ⟨.lst TK, true⟩, some ⟨.dK (lD f K), true⟩, some ⟨x.d, false⟩, some ⟨.dK G, o5⟩, some ⟨.int v, false⟩, x7, none], st⟩ ∧ ((∃ n, (.val n) ∈ Kc ∧ v = n) ∨ ((∀ x ∈ Kc, x.isVal = false) ∧ v ∉ tk)) := ⟨_, rfl⟩
        refine no_implicit_lambda% (W_join P ?_ ?_)
        · have mV : ∀ u, u ∈ Kc.filter Cell.isVal ↔ u ∈ Kc ∧ u.isVal = true := fun u => List.mem_filter
          have vl2 : (Kc.filter Cell.isVal).length ≤ 20 := Nat.le_trans (List.length_filter_le _ _) (by omega)
          generalize Kc.filter Cell.isVal = V at *
          cases V with
          | nil =>
            have a0 : L2.atI [D.int m] 0 = some (.int m) := at3_0 _ _
            simp [Env.length, c35x, c40x, a0, if_pos sp]
            rw [hP]
            refine ⟨m, _, rfl, .inr ⟨fun z hz => ?_, hm⟩⟩
            cases hzv : z.isVal with
            | false => rfl
            | true => exact absurd ((mV z).mpr ⟨hz, hzv⟩) (by simp)
          | cons u V =>
            obtain ⟨hu, huv⟩ := (mV u).mp (by simp)
            cases u with
            | gap g => cases huv
            | val k =>
              have a0 : ∀ l : List D, L2.atI (D.int k :: l) 0 = some (.int k) := fun l => at3_0 _ _
              have lv : V.length ≤ 16777214 := by rw [List.length_cons] at vl2; omega
              have lv2 : V.length + 1 ≤ 16777215 := by omega
              simp only [List.map_cons] at c35x
              have e : (Cell.val k).d = .int k := rfl
              rw [e] at c35x
              simp [Env.length, c35x, c40x, a0, lv, lv2, if_pos sp]
              rw [hP]
              exact ⟨k, _, rfl, .inl ⟨k, hu, rfl⟩⟩
        · rintro e he; rw [hP] at he; obtain ⟨v, o5, rfl, hv⟩ := he; clear hP P
          have e0 : lD (setFv f [] v) (addG K []) = lD f K := by
            show lD (fun z => if z ∈ [] then v else f z) (addG K []) = _
            simp [addG]
          refine no_implicit_lambda% (W_cons ?_)
          simp [Env.length, tkl]
          obtain ⟨I2, hI2⟩ : ∃ I2 : List Cell → MT.Env → Prop, I2 = fun p2 e => ∃ x7, e = ⟨[some ⟨.lst TD, false⟩, some ⟨.lst CS, false⟩, some ⟨.lst (TK ++ [.int v]), true⟩, some ⟨.dK (lD (setFv f p2 v) (addG K p2)), true⟩, some ⟨x.d, false⟩, some ⟨.dK G, false⟩, some ⟨.int v, false⟩, x7, none], st⟩ := ⟨_, rfl⟩
          refine no_implicit_lambda% (W_cons (W_loopK Kc Cell.d I2 (o := o5) rfl keys ?_ ?_ ?_))
          · rw [hI2]
            exact ⟨x7, by rw [e0]; rfl⟩
          · intro p2 y suf2 hy e he
            rw [hI2] at he
            obtain ⟨x7, rfl⟩ := he
            have iy := ity y
            have gk := gapK v p2
            have fl : (lD (setFv f p2 v) (addG K p2)).length < 16777216 := by
              have := fits p2 (fun z hz => by rw [hy]; exact List.mem_append_left _ hz) rfl
              rw [lD_len]; omega
            cases hyv : y.isVal with
            | true =>
              have sk := lD_skip (f := f) (K := K) (pre := p2) (v := v) hyv gk
              rw [hyv] at iy
              simp [Env.length]
              refine no_implicit_lambda% (W_cons ?_)
              simp [Env.length, iy]
              refine no_implicit_lambda% (W_nil (W_nil ?_))
              rw [hI2]
              exact ⟨_, by rw [sk]⟩
            | false =>
              have pt := lD_set (f := f) (K := K) (pre := p2) (v := v) hyv
              rw [hyv] at iy
              simp [Env.length]
              refine no_implicit_lambda% (W_cons ?_)
              simp [Env.length, iy]
              refine no_implicit_lambda% (W_cons ?_)
              simp [Env.length, kd, fl, muPut, pt]
              refine no_implicit_lambda% (W_nil (W_nil ?_))
              rw [hI2]
              exact ⟨_, rfl⟩
          · intro e he
            rw [hI2] at he
            obtain ⟨x7, rfl⟩ := he
            refine no_implicit_lambda% (W_nil (W_nil ?_))
            exact nxt v _ _ _ _ hv
      · have nxt : ∀ (x4 x5 x6 x7 : Option Val), I (pre ++ [x]) ⟨[some ⟨.lst (T.map thD), false⟩, some ⟨.lst ((cellsOf T).map Cell.d), false⟩, some ⟨.lst (tk.map D.int), true⟩, some ⟨.dK (lD f K), true⟩, x4, x5, x6, x7, none], st⟩ := fun x4 x5 x6 x7 => by
          rw [hI]
          refine ⟨f, K, tk, x4, x5, x6, x7, rfl, hA, fun z hz hzg => ?_, ht⟩
          rcases List.mem_append.mp hz with hz | hz
          · exact hp z hz hzg
          · rw [List.mem_singleton.mp hz] at hzg ⊢
            exact Classical.byContradiction fun q => hk ⟨hzg, q⟩
        clear hI hx hp
        cases hg : x.isVal with
        | true =>
          rw [hg] at ix
          simp [Env.length]
          refine no_implicit_lambda% (W_cons ?_)
          simp [Env.length, ix]
          refine no_implicit_lambda% (W_nil (W_nil ?_))
          exact nxt _ _ _ _
        | false =>
          have hin : x ∈ K := Classical.byContradiction fun q => hk ⟨hg, q⟩
          rw [hg] at ix
          rw [if_pos hin] at gx
          simp [Env.length]
          refine no_implicit_lambda% (W_cons ?_)
          simp [Env.length, ix, kd, gx]
          refine no_implicit_lambda% (W_nil (W_nil ?_))
          exact nxt _ _ _ _
    · rintro e he; rw [hI] at he; obtain ⟨f, K, tk, x4, x5, x6, x7, rfl, hA, hp, ht⟩ := he
      refine no_implicit_lambda% (W_cons ?_)
      simp [Env.length]
      rw [hQ]
      exact .inr ⟨nc, f, K, tk, hA, fun x hx hg => hp x (cellsOf_mem.mpr hx) hg, rfl⟩
  · have r : Q ⟨.non, false⟩ := by rw [hQ]; exact .inl ⟨rfl, w, cl⟩
    refine no_implicit_lambda% (W_cons ?_)
    simp [Env.length, c39]
    refine no_implicit_lambda% (W_cons ?_)
    simp [Env.length]
    exact r
end K21
namespace K21
open PySem MT Pgm
variable {st : List D}
theorem s2000 {m : Int} (h : m < 2 ^ 62) : m < 2 ^ 2000 := by
  have : (2 : Int) ^ 62 ≤ 2 ^ 2000 := by decide +kernel
  omega
theorem cxv {n j : Nat} {f : DefI} {st ds : List D} {Q : Val → Prop} (h : pg.defs j = some f) (hr : ∃ v, Q v ∧ runDef (pg.ct 63 n) f st ds = .ok v [] st) : ∃ v, Q v ∧ (pg.ct 63 (n + 1)).call j st ds = .ok v [] st := by
  obtain ⟨v, q, h1⟩ := hr
  exact ⟨v, q, cj h h1⟩
theorem nth_call (n : Nat) (ns : List Int) (k : Int) (h0 : 0 ≤ k) (h1 : k < 1000) : ∃ r : Int, (pg.ct 63 (n + 1)).call 300 st [.scr ns, .int k] = .ok ⟨.int r, false⟩ [] st := by
  refine ⟨(cutD ns (some k) (some (k + 1))).sum, cj rfl ?_⟩
  refine run_of rfl rfl (by decide) ?_
  rw [show argsE [] [.scr ns, .int k] ++ List.replicate (fi300.nsl - fi300.nps) none = [some ⟨.scr ns, false⟩, some ⟨.int k, false⟩] from rfl]
  show (exs _ [] ir300 _).W _ _ _ _ _
  unfold ir300
  refine no_implicit_lambda% (W_cons ?_)
  simp [Env.length]
theorem number_call (n : Nat) (c : Int) : ∃ r : Int, (pg.ct 63 (n + 1)).call 303 st [.int c] = .ok ⟨.int r, false⟩ [] st := by
  suffices h : ∃ v, (∃ r : Int, v = ⟨.int r, false⟩) ∧ (pg.ct 63 (n + 1)).call 303 st [.int c] = .ok v [] st by
    obtain ⟨v, ⟨r, rfl⟩, h⟩ := h
    exact ⟨r, h⟩
  have b2 : (2 : Int) < 2 ^ 2000 := s2000 (by decide)
  have s2 : smallI 2 = true := by decide
  refine cxv rfl ?_
  refine run_ex rfl rfl (by decide) ?_
  rw [show argsE [] [.int c] ++ List.replicate (fi303.nsl - fi303.nps) none = [some ⟨.int c, false⟩] from rfl]
  show (exs _ [] ir303 _).W _ _ _ _ _
  unfold ir303
  by_cases h : c % 2 = 1
  · refine no_implicit_lambda% (W_cons ?_)
    simp [Env.length, h, b2]
    refine no_implicit_lambda% (W_cons ?_)
    simp [Env.length, b2]
  · have h' : (c % 2 == 1) = false := by simpa using h
    refine no_implicit_lambda% (W_cons ?_)
    simp [Env.length, h, h', b2]
    refine no_implicit_lambda% (W_nil ?_)
    refine no_implicit_lambda% (W_cons ?_)
    simp [Env.length, b2, s2]
theorem joinS_len {E : Str} (hE : E.length = 0) : ∀ ss : List Str, (∀ s ∈ ss, s.length = 1) → (joinS E ss).length = ss.length
  | [], _ => by show (("" : Str)).length = 0; decide +kernel
  | [x], h => h x (by simp)
  | x :: y :: r, h => by
    have ih := joinS_len hE (y :: r) fun s hs => h s (List.mem_cons_of_mem _ hs)
    show (x ++ E ++ joinS E (y :: r)).length = _
    rw [app_len, app_len, ih, h x (by simp), hE]
    simp only [List.length_cons]
    omega
theorem sum_ones : ∀ ss : List Str, (∀ s ∈ ss, s.length = 1) → (ss.map (·.length)).sum = ss.length
  | [], _ => rfl
  | x :: r, h => by
    have ih := sum_ones r fun s hs => h s (List.mem_cons_of_mem _ hs)
    simp only [List.map_cons, List.sum_cons, List.length_cons, ih, h x (by simp)]
    omega
theorem names_call (n : Nat) (c m : Int) (m0 : 0 ≤ m) (m1 : m ≤ 8) : ∃ gs : List Str, gs.length = m.toNat ∧ (pg.ct 63 (n + 1)).call 302 st [.int c, .int m] = .ok ⟨.lst (gs.map .str), true⟩ [] st := by
  suffices h : ∃ v, (∃ gs : List Str, gs.length = m.toNat ∧ v = ⟨.lst (gs.map .str), true⟩) ∧ (pg.ct 63 (n + 1)).call 302 st [.int c, .int m] = .ok v [] st by
    obtain ⟨v, ⟨gs, hl, rfl⟩, h⟩ := h
    exact ⟨gs, hl, h⟩
  refine cxv rfl ?_
  have z1 : (Str.ofString "mnopqrstuvwxyzabcdefghijkl").length = 26 := by decide +kernel
  have z3 : (Str.ofString "").length = 0 := by decide +kernel
  have z5 : (Str.ofString "hhhhhh").length = 6 := by decide +kernel
  have s : ∀ k : Int, k < 2 ^ 62 → k < 2 ^ 2000 := fun k h => s2000 h
  have b8 := s 8 (by decide)
  have b26 := s 26 (by decide)
  have b3 := s 3 (by decide)
  have b24 := s 24 (by decide)
  have b200 := s 200 (by decide)
  have c8 : 0 ≤ c % 8 := Int.emod_nonneg _ (by decide)
  have c8b : c % 8 < 8 := Int.emod_lt_of_pos _ (by decide)
  have hb : big62 (c % 8) = true := big_of c8 (by omega)
  have hm : big62 m = true := big_of m0 (by omega)
  refine run_ex rfl rfl (by decide) ?_
  rw [show argsE [] [.int c, .int m] ++ List.replicate (fi302.nsl - fi302.nps) none = [some ⟨.int c, false⟩, some ⟨.int m, false⟩, none, none, none, none] from rfl]
  show (exs _ [] ir302 _).W _ _ _ _ _
  unfold ir302
  generalize Str.ofString "mnopqrstuvwxyzabcdefghijkl" = Z at *
  generalize Str.ofString "hhhhhh" = GG at *
  generalize Str.ofString "" = E0 at *
  have hat : ∀ q : Int, 0 ≤ q → q < 26 → ∃ ch, L2.atI Z.cps.toList q = some ch := fun q h0 h1 => by
    have hz : Z.cps.toList.length = 26 := by rw [← str_len]; exact z1
    refine ⟨Z.cps.toList[q.toNat]'(by omega), ?_⟩
    unfold L2.atI L2.ixN
    rw [if_pos h0, if_pos (by omega)]
    exact List.getElem?_eq_getElem _
  have zl : Z.length ≤ 16777216 := by omega
  have gl : GG.length ≤ 16777216 := by omega
  refine no_implicit_lambda% (W_cons ?_)
  simp [Env.length]
  refine no_implicit_lambda% (W_cons ?_)
  simp [Env.length, b8]
  have sm31 : smallI 29 = true := by decide
  have sm5 : smallI 5 = true := by decide
  have sm3 : smallI 3 = true := by decide
  generalize c % 8 = G at *
  have hG8 : ∀ x ∈ List.range G.toNat, (x : Int) < 8 := fun x hx => by have := List.mem_range.mp hx; omega
  generalize hq : lcE _ _ _ _ _ _ _ = q
  obtain ⟨J, hJ⟩ : ∃ J : List (Nat) → List D → MT.Env → Prop, J = fun pre ys e => ∃ (u : Unit), e = ⟨[some ⟨.int c, false⟩, some ⟨.int m, false⟩, some ⟨.str Z, false⟩, none, none, none], st⟩ ∧ ∃ ss : List Str, ys = ss.map .str ∧ ss.length = pre.length ∧ ∀ s ∈ ss, s.length = 1 := ⟨_, rfl⟩
  have hX := lcE_X (List.range G.toNat) (fun i : Nat => D.int (0 + (i : Int))) hq J (by simp [Env.length, hb, rangeD]) (by (rw [List.length_range]; omega)) (by simp [Env.length])
  obtain ⟨ys, e2, rfl, hJ2⟩ := hX (by rw [hJ]; exact ⟨(), by simp [Env.length], [], by simp, by simp, by simp⟩) (by
    intro pre x suf hx ys e he
    rw [hJ] at he ⊢
    obtain ⟨_, rfl, ss, rfl, sl, s1⟩ := he
    have x8 := hG8 x (by rw [hx]; simp)
    have J0 : (0 : Int) ≤ 0 + (x : Int) := by omega
    have J1 : (0 : Int) + (x : Int) < 8 := by omega
    generalize (0 : Int) + (x : Int) = J at *
    have j1 : 0 < 29 * J + 3 := by omega
    have j2 := s (29 * J + 3) (by omega)
    obtain ⟨ch, hz⟩ := hat (c / (29 * J + 3) % 26) (Int.emod_nonneg _ (by decide)) (Int.emod_lt_of_pos _ (by decide))
    simp [Env.length, sm31, b26, j1, j2, zl, hz]
    exact ⟨ss ++ [⟨#[ch]⟩], by simp, by simp [sl], fun t ht => by
      rcases List.mem_append.mp ht with ht | ht
      · exact s1 t ht
      · rw [List.mem_singleton.mp ht]; rfl⟩)
  rw [hJ] at hJ2
  obtain ⟨_, rfl, ss, rfl, sl, s1⟩ := hJ2
  rw [List.length_range] at sl
  clear hX hJ J hq
  have jl := joinS_len z3 ss s1
  have jn : onD .join [.str E0, .lst (ss.map .str)] = some ⟨.str (joinS E0 ss), false⟩ := by
    show ((strsD (ss.map .str)).bind fun ys => if (ys.map (·.length)).sum + ys.length * E0.length ≤ lineD then some (⟨.str (joinS E0 ys), false⟩ : Val) else none) = _
    rw [strsD_map]
    show (if (ss.map (·.length)).sum + ss.length * E0.length ≤ lineD then _ else _) = _
    rw [sum_ones ss s1, z3, if_pos (by simp [lineD]; omega)]
  generalize joinS E0 ss = B at *
  have bl : B.length ≤ 8 := by omega
  have bl2 : B.length ≤ 16777216 := by omega
  simp [Env.length, jn]
  clear jn jl s1 sl
  have hM8 : ∀ x ∈ List.range m.toNat, (x : Int) < 8 := fun x hx => by have := List.mem_range.mp hx; omega
  by_cases h3 : c / 8 % 3 = 0
  · have h3' : (c / 8 % 3 == 0) = true := by simpa using h3
    refine no_implicit_lambda% (W_cons ?_)
    simp [Env.length, b8, b3, h3]
    refine no_implicit_lambda% (W_cons ?_)
    simp [Env.length, hm]
    generalize hq : lcE _ _ _ _ _ _ _ = q
    obtain ⟨J, hJ⟩ : ∃ J : List (Nat) → List D → MT.Env → Prop, J = fun pre ys e => ∃ (u : Unit), e = ⟨[some ⟨.int c, false⟩, some ⟨.int m, false⟩, some ⟨.str Z, false⟩, some ⟨.str B, false⟩, none, none], st⟩ ∧ ∃ gs : List Str, ys = gs.map .str ∧ gs.length = pre.length := ⟨_, rfl⟩
    have hX := lcE_X (List.range m.toNat) (fun i : Nat => D.int (0 + (i : Int))) hq J (by simp [Env.length, hm, rangeD]) (by (rw [List.length_range]; omega)) (by simp [Env.length])
    obtain ⟨ys, e2, rfl, hJ2⟩ := hX (by rw [hJ]; exact ⟨(), by simp [Env.length], [], by simp, by simp⟩) (by
      intro pre x suf hx ys e he
      rw [hJ] at he ⊢
      obtain ⟨_, rfl, gs, rfl, gsl⟩ := he
      have x8 := hM8 x (by rw [hx]; simp)
      have J0 : (0 : Int) ≤ 0 + (x : Int) := by omega
      have J1 : (0 : Int) + (x : Int) < 8 := by omega
      generalize (0 : Int) + (x : Int) = J at *
      have p1 := cut_le B none (some 2)
      have p2 := cut_le GG none (some (J + 1))
      obtain ⟨Q1, h1⟩ : ∃ Q, L2.cutS B none (some 2) = Q := ⟨_, rfl⟩
      obtain ⟨Q2, h2⟩ : ∃ Q, L2.cutS GG none (some (J + 1)) = Q := ⟨_, rfl⟩
      rw [h1] at p1
      rw [h2] at p2
      have ql : Q1.length + Q2.length ≤ 16777216 := by omega
      simp [Env.length, bl2, gl, h1, h2, ql]
      exact ⟨gs ++ [Q1 ++ Q2], by simp, by simp [gsl]⟩)
    rw [hJ] at hJ2
    obtain ⟨_, rfl, gs, rfl, gsl⟩ := hJ2
    rw [List.length_range] at gsl
    clear hX hJ J hq
    simp [Env.length]
    exact ⟨gs, gsl, rfl⟩
  · have h3' : (c / 8 % 3 == 0) = false := by simpa using h3
    refine no_implicit_lambda% (W_cons ?_)
    simp [Env.length, b8, b3, h3, h3']
    refine no_implicit_lambda% (W_nil ?_)
    obtain ⟨BL, hBL⟩ : ∃ BL : Int, (B.length : Int) = BL := ⟨_, rfl⟩
    have B0 : 0 < BL + 1 := by omega
    have B1 := s (BL + 1) (by omega)
    refine no_implicit_lambda% (W_cons ?_)
    simp [Env.length, b24, bl2, hBL, B0, B1]
    generalize c / 24 % (BL + 1) = A at *
    refine no_implicit_lambda% (W_cons ?_)
    simp [Env.length, hm]
    generalize hq : lcE _ _ _ _ _ _ _ = q
    obtain ⟨J, hJ⟩ : ∃ J : List (Nat) → List D → MT.Env → Prop, J = fun pre ys e => ∃ (u : Unit), e = ⟨[some ⟨.int c, false⟩, some ⟨.int m, false⟩, some ⟨.str Z, false⟩, some ⟨.str B, false⟩, some ⟨.int A, false⟩, none], st⟩ ∧ ∃ gs : List Str, ys = gs.map .str ∧ gs.length = pre.length := ⟨_, rfl⟩
    have hX := lcE_X (List.range m.toNat) (fun i : Nat => D.int (0 + (i : Int))) hq J (by simp [Env.length, hm, rangeD]) (by (rw [List.length_range]; omega)) (by simp [Env.length])
    obtain ⟨ys, e2, rfl, hJ2⟩ := hX (by rw [hJ]; exact ⟨(), by simp [Env.length], [], by simp, by simp⟩) (by
      intro pre x suf hx ys e he
      rw [hJ] at he ⊢
      obtain ⟨_, rfl, gs, rfl, gsl⟩ := he
      have x8 := hM8 x (by rw [hx]; simp)
      have J0 : (0 : Int) ≤ 0 + (x : Int) := by omega
      have J1 : (0 : Int) + (x : Int) < 8 := by omega
      generalize (0 : Int) + (x : Int) = J at *
      obtain ⟨ch, hz⟩ := hat ((c / 200 + 5 * J) % 26) (Int.emod_nonneg _ (by decide)) (Int.emod_lt_of_pos _ (by decide))
      have p1 := cut_le B none (some A)
      have p2 := cut_le B (some A) none
      obtain ⟨Q1, h1⟩ : ∃ Q, L2.cutS B none (some A) = Q := ⟨_, rfl⟩
      obtain ⟨Q2, h2⟩ : ∃ Q, L2.cutS B (some A) none = Q := ⟨_, rfl⟩
      rw [h1] at p1
      rw [h2] at p2
      have l1 : (⟨#[ch]⟩ : Str).length = 1 := rfl
      have q1 : Q1.length + (⟨#[ch]⟩ : Str).length ≤ 16777216 := by omega
      have q2 : (Q1 ++ (⟨#[ch]⟩ : Str)).length + Q2.length ≤ 16777216 := by rw [app_len]; omega
      have q3 : (Q1 ++ (⟨#[ch]⟩ : Str) ++ Q2).length ≤ 16777216 := by rw [app_len, app_len]; omega
      simp [Env.length, bl2, zl, b200, b26, sm3, sm5, hz, h1, h2, q1, q2, q3]
      exact ⟨gs ++ [_], by simp; rfl, by simp [gsl]⟩)
    rw [hJ] at hJ2
    obtain ⟨_, rfl, gs, rfl, gsl⟩ := hJ2
    rw [List.length_range] at gsl
    clear hX hJ J hq
    simp [Env.length]
    exact ⟨gs, gsl, rfl⟩
end K21
namespace K21
open PySem MT Pgm
variable {st : List D}
theorem atI_map {α : Type} {xs : List α} (f : α → D) {q : Int} (h0 : 0 ≤ q) (h1 : q < xs.length) : ∃ x ∈ xs, L2.atI (xs.map f) q = some (f x) := by
  refine ⟨xs[q.toNat]'(by omega), List.getElem_mem _, ?_⟩
  unfold L2.atI L2.ixN
  rw [if_pos h0, if_pos (by simp; omega)]
  simp [List.getElem?_eq_getElem (show q.toNat < xs.length by omega)]
theorem pool_call (n : Nat) (ns : List Int) : ∃ (G : List Str) (vs : List Int), G.Nodup ∧ vs.Nodup ∧ G.length ≤ 5 ∧ 0 < G.length ∧ vs.length ≤ 4 ∧ (pg.ct 63 (n + 2)).call 304 st [.scr ns] = .ok ⟨.tup [.lst (G.map .str), .lst (vs.map .int)], false⟩ [] st := by
  suffices h : ∃ v, (∃ (G : List Str) (vs : List Int), G.Nodup ∧ vs.Nodup ∧ G.length ≤ 5 ∧ 0 < G.length ∧ vs.length ≤ 4 ∧ v = ⟨.tup [.lst (G.map .str), .lst (vs.map .int)], false⟩) ∧ (pg.ct 63 (n + 2)).call 304 st [.scr ns] = .ok v [] st by
    obtain ⟨v, ⟨G, vs, h1, h2, h3, h4, h5, rfl⟩, h⟩ := h
    exact ⟨G, vs, h1, h2, h3, h4, h5, h⟩
  obtain ⟨F, hF⟩ : ∃ F : Val → Prop, F = fun v => (∃ (G : List Str) (vs : List Int), G.Nodup ∧ vs.Nodup ∧ G.length ≤ 5 ∧ 0 < G.length ∧ vs.length ≤ 4 ∧ v = ⟨.tup [.lst (G.map .str), .lst (vs.map .int)], false⟩) := ⟨_, rfl⟩
  suffices h : ∃ v, F v ∧ (pg.ct 63 (n + 2)).call 304 st [.scr ns] = .ok v [] st by rw [hF] at h; exact h
  refine cxv rfl ?_
  obtain ⟨r1, c1⟩ := nth_call (st := st) n ns 1 (by decide) (by decide)
  obtain ⟨r0, c0⟩ := nth_call (st := st) n ns 0 (by decide) (by decide)
  have b5 : (5 : Int) < 2 ^ 2000 := s2000 (by decide)
  have m0 : 0 ≤ r0 % 5 := Int.emod_nonneg _ (by decide)
  have m1 : r0 % 5 < 5 := Int.emod_lt_of_pos _ (by decide)
  have q0 : 0 ≤ r0 / 5 % 5 := Int.emod_nonneg _ (by decide)
  have q1 : r0 / 5 % 5 < 5 := Int.emod_lt_of_pos _ (by decide)
  have hq : big62 (r0 / 5 % 5) = true := big_of q0 (by omega)
  obtain ⟨gs, gl, cn⟩ := names_call (st := st) n r1 (1 + r0 % 5) (by omega) (by omega)
  generalize hM : r0 % 5 = M at *
  generalize hQ : r0 / 5 % 5 = Q at *
  have sn := ssetS_nodup gs
  have sm : ∀ x ∈ ssetS gs, x ∈ gs := fun x hx => (ssetS_mem gs x).mp hx
  have sl := Pgm.nodup_le (t := ssetS gs) (u := gs) sn sm
  have g0 : gs ≠ [] := fun z => by rw [z] at gl; simp at gl; omega
  have s0 : 0 < (ssetS gs).length := by
    obtain ⟨x, r, rfl⟩ := List.exists_cons_of_ne_nil g0
    have : x ∈ ssetS (x :: r) := (ssetS_mem _ _).mpr List.mem_cons_self
    exact List.length_pos_of_mem this
  have on := onD_strs (xs := gs) (by omega) (by omega)
  refine run_ex rfl rfl (by decide) ?_
  rw [show argsE [] [.scr ns] ++ List.replicate (fi304.nsl - fi304.nps) none = [some ⟨.scr ns, false⟩, none, none, none, none] from rfl]
  show (exs _ [] ir304 _).W _ _ _ _ _
  unfold ir304
  refine no_implicit_lambda% (W_cons ?_)
  simp [Env.length, c1, c0, b5, hM, cn]
  refine no_implicit_lambda% (W_cons ?_)
  simp [Env.length]
  refine no_implicit_lambda% (W_cons ?_)
  simp [Env.length, c0, b5, hQ]
  obtain ⟨I, hI⟩ : ∃ I : Nat → MT.Env → Prop, I = fun i e => ∃ (vs : List Int) (x3 x4 : Option Val), e = ⟨[some ⟨.scr ns, false⟩, some ⟨.lst (gs.map .str), true⟩, some ⟨.lst (vs.map .int), true⟩, x3, x4], st⟩ ∧ vs.Nodup ∧ vs.length ≤ i := ⟨_, rfl⟩
  refine no_implicit_lambda% (W_loopR (0) (Q.toNat) I (by simp [Env.length, hq]) ?_ ?_ ?_)
  · rw [hI]; exact ⟨[], none, none, rfl, by simp, by simp⟩
  · rintro i hi e he
    rw [hI] at he
    obtain ⟨vs, x3, x4, rfl, vn, vl⟩ := he
    obtain ⟨r2, c2⟩ := nth_call (st := st) n ns (2 + (i : Int)) (by omega) (by omega)
    obtain ⟨r3, c3⟩ := number_call (st := st) n r2
    have nxt : ∀ vs x3 x4, List.Nodup vs → vs.length ≤ i + 1 → I (i + 1) ⟨[some ⟨.scr ns, false⟩, some ⟨.lst (gs.map .str), true⟩, some ⟨.lst (vs.map .int), true⟩, x3, x4], st⟩ := fun vs x3 x4 a b => by
      rw [hI]; exact ⟨vs, x3, x4, rfl, a, b⟩
    have fl : vs.length < 16777216 := by omega
    have mm := memD_ints r3 vs
    clear hI
    by_cases h : r3 ∈ vs
    · rw [decide_eq_true h] at mm
      simp [Env.length]
      refine no_implicit_lambda% (W_cons ?_)
      simp [Env.length, c2, c3]
      refine no_implicit_lambda% (W_cons ?_)
      simp [Env.length, mm]
      refine no_implicit_lambda% (W_nil (W_nil ?_))
      exact nxt vs _ _ vn (by omega)
    · rw [decide_eq_false h] at mm
      have nn := nxt (vs ++ [r3])
      rw [List.map_append] at nn
      simp [Env.length]
      refine no_implicit_lambda% (W_cons ?_)
      simp [Env.length, c2, c3]
      refine no_implicit_lambda% (W_cons ?_)
      simp [Env.length, mm]
      refine no_implicit_lambda% (W_cons ?_)
      simp [Env.length, fl]
      refine no_implicit_lambda% (W_nil (W_nil ?_))
      exact nn _ _ (List.nodup_append.mpr ⟨vn, by simp, by rintro a ha b hb rfl; exact h (by simpa using List.mem_singleton.mp hb ▸ ha)⟩) (by simp; omega)
  · rintro e he; rw [hI] at he; obtain ⟨vs, x3, x4, rfl, vn, vl⟩ := he
    have fin : F ⟨.tup [.lst ((ssetS gs).map .str), .lst (vs.map .int)], false⟩ := by
      rw [hF]; exact ⟨ssetS gs, vs, sn, vn, by omega, s0, by omega, rfl⟩
    refine no_implicit_lambda% (W_cons ?_)
    simp [Env.length, on]
    exact fin
theorem things_call (n : Nat) (cells : List Int) (cl : cells.length < 1000) (P : List Cell) (p0 : 0 < P.length) (pl : P.length ≤ 9) : ∃ T : List Th, (∀ t ∈ T, t.1 ∈ P ∧ t.2.1 ∈ P) ∧ T.length ≤ cells.length ∧ (pg.ct 63 (n + 1)).call 305 st [.lst (cells.map .int), .lst (P.map Cell.d)] = .ok ⟨.lst (T.map thD), true⟩ [] st := by
  suffices h : ∃ v, (∃ T : List Th, (∀ t ∈ T, t.1 ∈ P ∧ t.2.1 ∈ P) ∧ T.length ≤ cells.length ∧ v = ⟨.lst (T.map thD), true⟩) ∧ (pg.ct 63 (n + 1)).call 305 st [.lst (cells.map .int), .lst (P.map Cell.d)] = .ok v [] st by
    obtain ⟨v, ⟨T, h1, h2, rfl⟩, h⟩ := h
    exact ⟨T, h1, h2, h⟩
  refine cxv rfl ?_
  have b5 : (5 : Int) < 2 ^ 2000 := s2000 (by decide)
  obtain ⟨PL, hPL⟩ : ∃ PL : Int, (P.length : Int) = PL := ⟨_, rfl⟩
  have ln : biD .len [.lst (P.map Cell.d)] = some ⟨.int PL, false⟩ := by rw [← hPL]; simp [biD, lenD]
  have g0 : 0 < PL := by omega
  have g1 : PL < 2 ^ 2000 := s2000 (by omega)
  have hat : ∀ q : Int, ∃ x ∈ P, L2.atI (P.map Cell.d) (q % PL) = some x.d := fun q => atI_map Cell.d (Int.emod_nonneg _ (by omega)) (by rw [hPL]; exact Int.emod_lt_of_pos _ g0)
  refine run_ex rfl rfl (by decide) ?_
  rw [show argsE [] [.lst (cells.map .int), .lst (P.map Cell.d)] ++ List.replicate (fi305.nsl - fi305.nps) none = [some ⟨.lst (cells.map .int), false⟩, some ⟨.lst (P.map Cell.d), false⟩, none, none, none, none] from rfl]
  show (exs _ [] ir305 _).W _ _ _ _ _
  unfold ir305
  refine no_implicit_lambda% (W_cons ?_)
  simp [Env.length]
  refine no_implicit_lambda% (W_cons ?_)
  simp [Env.length]
  obtain ⟨I, hI⟩ : ∃ I : List (Int) → MT.Env → Prop, I = fun pre e => ∃ (T : List Th) (x3 x4 x5 : Option Val), e = ⟨[some ⟨.lst (cells.map .int), false⟩, some ⟨.lst (P.map Cell.d), false⟩, some ⟨.lst (T.map thD), true⟩, x3, x4, x5], st⟩ ∧ (∀ t ∈ T, t.1 ∈ P ∧ t.2.1 ∈ P) ∧ T.length = pre.length := ⟨_, rfl⟩
  refine no_implicit_lambda% (W_loopM (cells) (D.int) I (by simp [Env.length]) ?_ ?_ ?_)
  · rw [hI]; exact ⟨[], none, none, none, rfl, by simp, rfl⟩
  · rintro pre c suf hx e he; rw [hI] at he; obtain ⟨T, x3, x4, x5, rfl, hT, tl⟩ := he
    obtain ⟨a, ha, e1⟩ := hat (c / 5)
    obtain ⟨b, hb, e2⟩ := hat (c / 5 / PL)
    have fl : T.length < 16777216 := by
      have : cells.length = pre.length + 1 + suf.length := by rw [hx]; simp; omega
      omega
    have nxt : ∀ (s : Bool) x3 x4 x5, I (pre ++ [c]) ⟨[some ⟨.lst (cells.map .int), false⟩, some ⟨.lst (P.map Cell.d), false⟩, some ⟨.lst (T.map thD ++ [.tup [a.d, b.d, .bl s]]), true⟩, x3, x4, x5], st⟩ := fun s x3 x4 x5 => by
      rw [hI]
      refine ⟨T ++ [(a, b, s)], x3, x4, x5, by simp [thD], fun t ht => ?_, by simp [tl]⟩
      rcases List.mem_append.mp ht with ht | ht
      · exact hT t ht
      · rw [List.mem_singleton.mp ht]; exact ⟨ha, hb⟩
    clear hI hx hT
    have fl2 : (T.map thD).length < 16777216 := by rw [List.length_map]; exact fl
    generalize T.map thD = TD at *
    generalize P.map Cell.d = PD at *
    simp [Env.length]
    refine no_implicit_lambda% (W_cons ?_)
    simp [Env.length, b5, ln, g0, g1, e1]
    refine no_implicit_lambda% (W_cons ?_)
    simp [Env.length, b5, ln, g0, g1, e2]
    refine no_implicit_lambda% (W_cons ?_)
    simp [Env.length, b5, fl2]
    refine no_implicit_lambda% (W_nil ?_)
    exact nxt _ _ _ _
  · rintro e he; rw [hI] at he; obtain ⟨T, x3, x4, x5, rfl, hT, tl⟩ := he
    refine no_implicit_lambda% (W_cons ?_)
    simp [Env.length]
    exact ⟨T, fun a b => ⟨fun h => hT _ h, fun h => hT _ h⟩, by omega, rfl⟩
end K21
namespace K21
open PySem MT Pgm
variable {st : List D}
def labelsOf (P : List Cell) (T : List Th) : Cell → Int := T.foldl stepL (placeL P)
theorem labels_call (n : Nat) (P : List Cell) (nd : P.Nodup) (pl : P.length < 1000) (T : List Th) (hT : ∀ t ∈ T, t.1 ∈ P ∧ t.2.1 ∈ P) : (pg.ct 63 (n + 1)).call 306 st [.lst (P.map Cell.d), .lst (T.map thD)] = .ok ⟨.dK (lD (labelsOf P T) P), true⟩ [] st := by
  refine cj rfl ?_
  refine run_of rfl rfl (by decide) ?_
  rw [show argsE [] [.lst (P.map Cell.d), .lst (T.map thD)] ++ List.replicate (fi306.nsl - fi306.nps) none = [some ⟨.lst (P.map Cell.d), false⟩, some ⟨.lst (T.map thD), false⟩, none, none, none, none, none, none, none] from rfl]
  show (exs _ [] ir306 _).W _ _ _ _ _
  unfold ir306
  refine no_implicit_lambda% (W_cons ?_)
  simp [Env.length]
  refine no_implicit_lambda% (W_cons ?_)
  simp [Env.length]
  obtain ⟨I, hI⟩ : ∃ I : List (Cell) → MT.Env → Prop, I = fun pre e => ∃ x3 x4, e = ⟨[some ⟨.lst (P.map Cell.d), false⟩, some ⟨.lst (T.map thD), false⟩, some ⟨.dK (lD (placeL P) pre), true⟩, x3, x4, none, none, none, none], st⟩ ∧ True := ⟨_, rfl⟩
  refine no_implicit_lambda% (W_loopN (P) (Cell.d) I (by simp [Env.length]) ?_ ?_ ?_)
  · rw [hI]; exact ⟨none, none, rfl, trivial⟩
  · rintro pre x suf hx e he; rw [hI] at he; obtain ⟨x3, x4, rfl, _⟩ := he
    have fl : (lD (placeL P) pre).length < 16777216 := by
      rw [lD_len]
      have : P.length = pre.length + 1 + suf.length := by rw [hx]; simp; omega
      omega
    have pt := place_put nd hx
    have kx := keyD_cell x
    have nxt : ∀ x3 x4, I (pre ++ [x]) ⟨[some ⟨.lst (P.map Cell.d), false⟩, some ⟨.lst (T.map thD), false⟩, some ⟨.dK (lD (placeL P) (pre ++ [x])), true⟩, x3, x4, none, none, none, none], st⟩ := fun x3 x4 => by
      rw [hI]; exact ⟨x3, x4, rfl, trivial⟩
    clear hI hx
    simp [Env.length]
    refine no_implicit_lambda% (W_cons ?_)
    simp [Env.length, muPut, kx, fl, pt]
    refine no_implicit_lambda% (W_nil ?_)
    exact nxt _ _
  · rintro e he; rw [hI] at he; obtain ⟨x3, x4, rfl, _⟩ := he
    clear hI I
    refine no_implicit_lambda% (W_cons ?_)
    simp [Env.length]
    obtain ⟨I, hI⟩ : ∃ I : List (Th) → MT.Env → Prop, I = fun pre e => ∃ x3 x4 x5 x6 x7 x8, e = ⟨[some ⟨.lst (P.map Cell.d), false⟩, some ⟨.lst (T.map thD), false⟩, some ⟨.dK (lD (pre.foldl stepL (placeL P)) P), true⟩, x3, x4, x5, x6, x7, x8], st⟩ ∧ True := ⟨_, rfl⟩
    refine no_implicit_lambda% (W_loopM (T) (thD) I (by simp [Env.length]) ?_ ?_ ?_)
    · rw [hI]; exact ⟨_, _, _, _, _, _, rfl, trivial⟩
    · rintro pre t suf hx e he; rw [hI] at he; obtain ⟨x3, x4, x5, x6, x7, x8, rfl, _⟩ := he
      obtain ⟨ha, hb⟩ := hT t (by rw [hx]; simp)
      obtain ⟨a, b, s⟩ := t
      simp only at ha hb
      have nxt : ∀ x3 x4 x5 x6 x7 x8, I (pre ++ [(a, b, s)]) ⟨[some ⟨.lst (P.map Cell.d), false⟩, some ⟨.lst (T.map thD), false⟩, some ⟨.dK (lD (stepL (pre.foldl stepL (placeL P)) (a, b, s)) P), true⟩, x3, x4, x5, x6, x7, x8], st⟩ := fun x3 x4 x5 x6 x7 x8 => by
        rw [hI]; exact ⟨x3, x4, x5, x6, x7, x8, by rw [List.foldl_append]; rfl, trivial⟩
      clear hI hx
      generalize pre.foldl stepL (placeL P) = L at *
      simp only [thD]
      simp [Env.length]
      cases s with
      | false =>
        refine no_implicit_lambda% (W_cons ?_)
        simp [Env.length]
        refine no_implicit_lambda% (W_nil (W_nil ?_))
        exact nxt _ _ _ _ _ _
      | true =>
        have gt := get_lD L a P
        rw [if_pos ha] at gt
        have ka := keyD_cell a
        have kb := keyD_cell b
        have gtb := get_lD L b P
        rw [if_pos hb] at gtb
        have eab : eqD (.int (L a)) (.int (L b)) = some (decide (L a = L b)) := by
          show some (L a == L b) = _
          congr 1
        by_cases q0 : L a = L b
        · have me : stepL L (a, b, true) = L := by
            unfold stepL mergeL
            rw [if_pos rfl]
            funext x
            split
            · rename_i e; rw [e, q0]
            · rfl
          rw [me] at nxt
          rw [decide_eq_true q0] at eab
          refine no_implicit_lambda% (W_cons ?_)
          simp [Env.length, ka, kb, gt, gtb, eab]
          refine no_implicit_lambda% (W_nil (W_nil ?_))
          exact nxt _ _ _ _ _ _
        rw [decide_eq_false q0] at eab
        refine no_implicit_lambda% (W_cons ?_)
        simp [Env.length, ka, kb, gt, gtb, eab]
        refine no_implicit_lambda% (W_cons ?_)
        simp [Env.length, ka, gt]
        refine no_implicit_lambda% (W_cons ?_)
        simp [Env.length]
        obtain ⟨I, hI⟩ : ∃ I : List (Cell) → MT.Env → Prop, I = fun p2 e => ∃ x4, e = ⟨[some ⟨.lst (P.map Cell.d), false⟩, some ⟨.lst (T.map thD), false⟩, some ⟨.dK (lD (twL L a b p2) P), true⟩, x3, x4, some ⟨a.d, false⟩, some ⟨b.d, false⟩, some ⟨.bl true, false⟩, some ⟨.int (L a), false⟩], st⟩ ∧ True := ⟨_, rfl⟩
        refine no_implicit_lambda% (W_loopM (P) (Cell.d) I (by simp [Env.length]) ?_ ?_ ?_)
        · rw [hI]; exact ⟨_, by rw [twL_nil]; rfl, trivial⟩
        · rintro p2 x suf2 hx2 e he; rw [hI] at he; obtain ⟨x4, rfl, _⟩ := he
          have xm : x ∈ P := by rw [hx2]; simp
          have g1 := get_lD (twL L a b p2) x P
          rw [if_pos xm] at g1
          have g2 := get_lD (twL L a b p2) b P
          rw [if_pos hb, twL_b] at g2
          have kx := keyD_cell x
          have ee : eqD (.int (twL L a b p2 x)) (.int (L a)) = some (decide (twL L a b p2 x = L a)) := by
            show some (twL L a b p2 x == L a) = _
            congr 1
          have fl : (lD (twL L a b p2) P).length < 16777216 := by rw [lD_len]; omega
          have pt := put_lD (twL L a b p2) x (L b) P
          rw [show addC P x = P from if_pos xm] at pt
          have nxt2 : ∀ x4, I (p2 ++ [x]) ⟨[some ⟨.lst (P.map Cell.d), false⟩, some ⟨.lst (T.map thD), false⟩, some ⟨.dK (lD (twL L a b (p2 ++ [x])) P), true⟩, x3, x4, some ⟨a.d, false⟩, some ⟨b.d, false⟩, some ⟨.bl true, false⟩, some ⟨.int (L a), false⟩], st⟩ := fun x4 => by
            rw [hI]; exact ⟨x4, rfl, trivial⟩
          clear hI
          by_cases q : twL L a b p2 x = L a
          · rw [decide_eq_true q] at ee
            rw [twL_put q] at pt
            simp [Env.length]
            refine no_implicit_lambda% (W_cons ?_)
            simp [Env.length, kx, g1, ee]
            refine no_implicit_lambda% (W_cons ?_)
            simp [Env.length, kx, kb, g2, fl, pt, muPut]
            refine no_implicit_lambda% (W_nil (W_nil ?_))
            exact nxt2 _
          · rw [decide_eq_false q] at ee
            rw [twL_skip q] at nxt2
            simp [Env.length]
            refine no_implicit_lambda% (W_cons ?_)
            simp [Env.length, kx, g1, ee]
            refine no_implicit_lambda% (W_nil (W_nil ?_))
            exact nxt2 _
        · rintro e he; rw [hI] at he; obtain ⟨x4, rfl, _⟩ := he
          rw [twL_all]
          refine no_implicit_lambda% (W_nil (W_nil ?_))
          exact nxt _ _ _ _ _ _
    · rintro e he; rw [hI] at he; obtain ⟨x3, x4, x5, x6, x7, x8, rfl, _⟩ := he
      refine no_implicit_lambda% (W_cons ?_)
      simp [Env.length, labelsOf]
end K21
namespace Pgm
open PySem MT
def tS (f : Cell → Int) : Cell → Cell → Option Bool := fun x y => some (wth f x == wth f y)
def LeS (P : List Cell) (S S' : Cell → Cell → Option Bool) : Prop := ∀ x ∈ P, ∀ y ∈ P, S x y = none ∨ S x y = S' x y
end Pgm
namespace K21
open PySem MT Pgm
variable {st : List D}
/-- whether things can't be so -/
def Torn (P : List Cell) (L : Cell → Int) (T : List Th) : Prop := ¬ ((P.filter Cell.isVal).map L).Nodup ∨ ∃ t ∈ T, t.2.2 = false ∧ L t.1 = L t.2.1
theorem stands_of {T : List Th} {u v : Cell} (e : hd T u = hd T v) (ne : u ≠ v) : Stands T u := by
  refine Classical.byContradiction fun s => ?_
  have := (heads_closed (· = u) (T := T) (fun t ht _ => ⟨fun z => absurd ⟨t, ht, .inl z.symm⟩ s, fun z => absurd ⟨t, ht, .inr z.symm⟩ s⟩) e).mp rfl
  exact ne this.symm
theorem stands_in {T : List Th} {P : List Cell} (hT : ∀ t ∈ T, t.1 ∈ P ∧ t.2.1 ∈ P) {x : Cell} (h : Stands T x) : x ∈ P := by
  obtain ⟨t, ht, rfl | rfl⟩ := h
  · exact (hT t ht).1
  · exact (hT t ht).2
theorem nd_map {α β : Type} {f : α → β} : ∀ {l : List α}, (l.map f).Nodup → ∀ a ∈ l, ∀ b ∈ l, f a = f b → a = b
  | [], _, a, h, _, _, _ => by cases h
  | x :: l, nd, a, ha, b, hb, e => by
    rw [List.map_cons, List.nodup_cons] at nd
    rcases List.mem_cons.mp ha with g | ha2 <;> rcases List.mem_cons.mp hb with k | hb2
    · exact g.trans k.symm
    · subst g; exact absurd (List.mem_map.mpr ⟨b, hb2, e.symm⟩) nd.1
    · subst k; exact absurd (List.mem_map.mpr ⟨a, ha2, e⟩) nd.1
    · exact nd_map nd.2 a ha2 b hb2 e
theorem map_nd {α β : Type} {f : α → β} : ∀ {l : List α}, l.Nodup → (∀ a ∈ l, ∀ b ∈ l, f a = f b → a = b) → (l.map f).Nodup
  | [], _, _ => by simp
  | x :: l, nd, h => by
    rw [List.nodup_cons] at nd
    rw [List.map_cons, List.nodup_cons]
    refine ⟨fun z => ?_, map_nd nd.2 fun a ha b hb => h a (List.mem_cons_of_mem _ ha) b (List.mem_cons_of_mem _ hb)⟩
    obtain ⟨b, hb, e⟩ := List.mem_map.mp z
    exact nd.1 (h b (List.mem_cons_of_mem _ hb) x List.mem_cons_self e ▸ hb)
theorem torn_no {P : List Cell} {L : Cell → Int} {T : List Th} (hT : ∀ t ∈ T, t.1 ∈ P ∧ t.2.1 ∈ P) (p : Par P (hd T) L) (h : ¬ Torn P L T) {w : List Cell} : ¬ Clash T w := by
  rintro ⟨a, b, hw, k⟩
  have e := hw.head
  rcases k with k | ⟨k1, k2, k3⟩
  · exact h (.inr ⟨_, k, rfl, (p a (hT _ k).1 b (hT _ k).2).mp e.symm⟩)
  · have ha := stands_in hT (stands_of e.symm k3)
    have hb := stands_in hT (stands_of e fun z => k3 z.symm)
    have nd : ((P.filter Cell.isVal).map L).Nodup := Classical.byContradiction fun z => h (.inl z)
    exact k3 (nd_map nd a (List.mem_filter.mpr ⟨ha, k1⟩) b (List.mem_filter.mpr ⟨hb, k2⟩) ((p a ha b hb).mp e.symm))
theorem torn_yes {P : List Cell} {L : Cell → Int} {T : List Th} (nd : P.Nodup) (hT : ∀ t ∈ T, t.1 ∈ P ∧ t.2.1 ∈ P) (p : Par P (hd T) L) (h : Torn P L T) : ¬ NoClash T := fun nc => by
  rcases h with h | ⟨⟨a, b, s⟩, ht, hs, e⟩
  · refine h (map_nd (nd.filter _) fun a ha b hb e => ?_)
    obtain ⟨ha, va⟩ := List.mem_filter.mp ha
    obtain ⟨hb, vb⟩ := List.mem_filter.mp hb
    exact nc.one va vb ((p a ha b hb).mpr e)
  · simp only at hs e; subst hs
    exact nc.apart a b ht ((p a (hT _ ht).1 b (hT _ ht).2).mpr e).symm
theorem labels_par {P : List Cell} {T : List Th} (hT : ∀ t ∈ T, t.1 ∈ P ∧ t.2.1 ∈ P) : Par P (hd T) (labelsOf P T) := Par.all T (s := (id, [])) (placeL_par P) hT
theorem not_nd {α : Type} [DecidableEq α] : ∀ {l : List α}, ¬ l.Nodup → ∃ l' : List α, l'.length + 1 = l.length ∧ ∀ y ∈ l, y ∈ l'
  | [], h => absurd (by simp) h
  | x :: l, h => by
    by_cases hx : x ∈ l
    · exact ⟨l, rfl, fun y hy => (List.mem_cons.mp hy).elim (fun e => e ▸ hx) id⟩
    · have : ¬ l.Nodup := fun z => h (List.nodup_cons.mpr ⟨hx, z⟩)
      obtain ⟨l', h1, h2⟩ := not_nd this
      exact ⟨x :: l', by simp; omega, fun y hy => (List.mem_cons.mp hy).elim (fun e => by rw [e]; simp) fun q => List.mem_cons_of_mem _ (h2 y q)⟩
theorem sset_lt (l : List Int) : (ssetI l).length < l.length ↔ ¬ l.Nodup := by
  constructor
  · intro h z
    have := Pgm.nodup_le (t := l) (u := ssetI l) z fun x hx => (ssetI_mem l x).mpr hx
    omega
  · intro h
    obtain ⟨l', h1, h2⟩ := not_nd h
    have := Pgm.nodup_le (t := ssetI l) (u := l') (ssetI_nd l) fun x hx => h2 x ((ssetI_mem l x).mp hx)
    omega
theorem onD_lset {l : List Int} (h1 : l.length < 4000) (h2 : (ssetI l).length < 64) : onD .lset [.lst (l.map D.int)] = some ⟨.int (ssetI l).length, false⟩ := by
  show (match intsD (l.map D.int), strsD (l.map D.int) with
    | some ns, _ => if ns.length < 4000 ∧ (ssetI ns).length < 64 then some (⟨.int (ssetI ns).length, false⟩ : Val) else none
    | none, some xs => if xs.length < 4000 ∧ (ssetS xs).length < 64 then some ⟨.int (ssetS xs).length, false⟩ else none
    | none, none => none) = _
  rw [intsD_map]
  exact if_pos ⟨h1, h2⟩
theorem torn_call (n : Nat) (P : List Cell) (nd : P.Nodup) (pl : P.length ≤ 9) (T : List Th) (tl : T.length < 1000) (hT : ∀ t ∈ T, t.1 ∈ P ∧ t.2.1 ∈ P) : ∃ b : Bool, (b = true ↔ Torn P (labelsOf P T) T) ∧ (pg.ct 63 (n + 2)).call 307 st [.lst (P.map Cell.d), .lst (T.map thD)] = .ok ⟨.bl b, false⟩ [] st := by
  have c6 := labels_call (st := st) n P nd (by omega) T hT
  generalize labelsOf P T = L at *
  obtain ⟨NL, hNL⟩ : ∃ NL, NL = (P.filter Cell.isVal).map L := ⟨_, rfl⟩
  have nl : NL.length ≤ 9 := by
    rw [hNL, List.length_map]; exact Nat.le_trans (List.length_filter_le _ _) pl
  have sl : (ssetI NL).length ≤ NL.length := Pgm.nodup_le (t := ssetI NL) (u := NL) (ssetI_nd NL) fun x hx => (ssetI_mem NL x).mp hx
  have ol := onD_lset (l := NL) (by omega) (by omega)
  have slt := sset_lt NL
  have hm : (P.filter Cell.isVal).map (fun x => D.int (L x)) = NL.map .int := by rw [hNL, List.map_map]; rfl
  have bl : biD .len [.lst (NL.map D.int)] = some ⟨.int (NL.length : Int), false⟩ := by simp [biD, lenD]
  obtain ⟨A, hA⟩ : ∃ A : Int, A = ((ssetI NL).length : Int) := ⟨_, rfl⟩
  obtain ⟨B, hB⟩ : ∃ B : Int, B = (NL.length : Int) := ⟨_, rfl⟩
  rw [← hA] at ol
  rw [← hB] at bl
  have lt : A < B ↔ ¬ NL.Nodup := by rw [← slt, hA, hB]; omega
  obtain ⟨F, hF⟩ : ∃ F : Val → Prop, F = fun v => ∃ b : Bool, (b = true ↔ Torn P L T) ∧ v = ⟨.bl b, false⟩ := ⟨_, rfl⟩
  suffices h : ∃ v, F v ∧ (pg.ct 63 (n + 2)).call 307 st [.lst (P.map Cell.d), .lst (T.map thD)] = .ok v [] st by
    rw [hF] at h
    obtain ⟨v, ⟨b, h1, rfl⟩, h⟩ := h
    exact ⟨b, h1, h⟩
  have f1 : A < B → F ⟨.bl true, false⟩ := fun h => by
    rw [hF]; exact ⟨true, ⟨fun _ => .inl (by rw [← hNL]; exact lt.mp h), fun _ => rfl⟩, rfl⟩
  have f2 : ¬ A < B → F ⟨.bl (T.any fun t => !t.2.2 && decide (L t.1 = L t.2.1)), false⟩ := fun h => by
    rw [hF]
    refine ⟨_, ?_, rfl⟩
    rw [List.any_eq_true]
    constructor
    · rintro ⟨t, ht, e⟩
      rw [Bool.and_eq_true, decide_eq_true_iff] at e
      exact .inr ⟨t, ht, by simpa using e.1, e.2⟩
    · rintro (z | ⟨t, ht, e1, e2⟩)
      · exact absurd (lt.mpr (by rw [hNL]; exact z)) h
      · exact ⟨t, ht, by simp [e1, e2]⟩
  have gt : ∀ z ∈ P, getA (lD L P) z.key = some (.int (L z)) := fun z hz => by rw [get_lD, if_pos hz]
  have kd := keyD_cell
  have ee : ∀ a b : Int, eqD (.int a) (.int b) = some (decide (a = b)) := fun a b => by
    show some (a == b) = _
    congr 1
  have thd : ∀ t : Th, thD t = .tup [t.1.d, t.2.1.d, .bl t.2.2] := fun t => rfl
  refine cxw rfl ?_
  clear hF hNL lt slt hA hB sl
  refine run_ex rfl rfl (by decide) ?_
  rw [show argsE [] [.lst (P.map Cell.d), .lst (T.map thD)] ++ List.replicate (fi307.nsl - fi307.nps) none = [some ⟨.lst (P.map Cell.d), false⟩, some ⟨.lst (T.map thD), false⟩, none, none, none, none, none, none] from rfl]
  show (exs _ [] ir307 _).W _ _ _ _ _
  unfold ir307
  refine no_implicit_lambda% (W_cons ?_)
  simp [Env.length, c6]
  refine no_implicit_lambda% (W_cons ?_)
  simp [Env.length]
  rw [lcE_F (P) (Cell.d) (Cell.isVal) (fun x => D.int (L x)) (by simp [Env.length]) (by omega) (by simp [Env.length]) (fun x hx => by cases x; (simp [Env.length, Cell.d, Cell.isVal]); (rename_i v; have h1 : getA (lD L P) (.inl v) = some (.int (L (.val v))) := gt _ hx; simp [Env.length, Cell.d, Cell.isVal, h1]))]
  rw [hm]
  simp [Env.length]
  by_cases h : A < B
  · refine no_implicit_lambda% (W_cons ?_)
    simp [Env.length, ol, bl, h]
    refine no_implicit_lambda% (W_cons ?_)
    simp [Env.length]
    exact f1 h
  · refine no_implicit_lambda% (W_cons ?_)
    simp [Env.length, ol, bl, h]
    refine no_implicit_lambda% (W_nil ?_)
    refine no_implicit_lambda% (W_cons ?_)
    simp [Env.length]
    rw [lcE_M (T) (thD) (fun t => D.bl (!t.2.2 && decide (L t.1 = L t.2.1))) (by simp [Env.length]) (by omega) (by simp [Env.length]) (fun x hx => by obtain ⟨ha, hb⟩ := hT x hx; have g1 := gt _ ha; have g2 := gt _ hb; have h3 := ee (L x.1) (L x.2.1); obtain ⟨a, b, s⟩ := x; cases s <;> simp [Env.length, thd, kd, g1, g2, h3])]
    have an : biD .any [.lst (T.map fun t => D.bl (!t.2.2 && decide (L t.1 = L t.2.1)))] = some ⟨.bl (T.any fun t => !t.2.2 && decide (L t.1 = L t.2.1)), false⟩ := by
      rw [show (T.map fun t => D.bl (!t.2.2 && decide (L t.1 = L t.2.1))) = (T.map fun t => !t.2.2 && decide (L t.1 = L t.2.1)).map .bl by rw [List.map_map]; rfl, biD_any, List.any_map]
      rfl
    have f3 := f2 h
    generalize (T.any fun t => !t.2.2 && decide (L t.1 = L t.2.1)) = AN at *
    generalize (T.map fun t => D.bl (!t.2.2 && decide (L t.1 = L t.2.1))) = BL at *
    simp [Env.length, an]
    exact f3
end K21
namespace K21
open PySem MT Pgm
variable {st : List D}
theorem walk_shape {T : List Th} {c k : Cell} {w : List Cell} (h : Walk T c k w) : (∃ i, w = i ++ [k]) ∧ (∃ r, w = c :: r) ∧ ∀ p ∈ w.zip (w.drop 1), Adj T p.1 p.2 := by
  induction h with
  | one => exact ⟨⟨[], rfl⟩, ⟨[], rfl⟩, by simp⟩
  | @snoc k y w hw a ih =>
    obtain ⟨⟨i, hi⟩, ⟨r, hr⟩, h⟩ := ih
    refine ⟨⟨w, rfl⟩, ⟨r ++ [y], by rw [hr]; rfl⟩, fun p hp => ?_⟩
    have e1 : (w ++ [y]).drop 1 = w.drop 1 ++ [y] := by rw [hr]; rfl
    have hl : i.length = (w.drop 1).length := by
      have := congrArg List.length hi
      rw [List.length_append, List.length_singleton] at this
      rw [List.length_drop]; omega
    have e2 : (w ++ [y]).zip (w.drop 1 ++ [y]) = i.zip (w.drop 1) ++ [(k, y)] := by
      rw [show w ++ [y] = i ++ [k, y] by rw [hi]; simp, List.zip_append hl]; rfl
    have e3 : w.zip (w.drop 1) = i.zip (w.drop 1) := by
      have := List.zip_append (l₁ := i) (r₁ := [k]) (l₂ := w.drop 1) (r₂ := []) hl
      rw [List.append_nil] at this
      conv => lhs; arg 1; rw [hi]
      rw [this]; simp
    rw [e1, e2] at hp
    rcases List.mem_append.mp hp with hp | hp
    · exact h p (by rw [e3]; exact hp)
    · rw [List.mem_singleton.mp hp]; exact a
theorem unlike_run (n : Nat) (T : List Th) (a b : Cell) (h : (a, b, false) ∈ T ∨ (a.isVal = true ∧ b.isVal = true ∧ a ≠ b)) : (pg.ct 63 (n + 1)).call 308 st [.lst (T.map thD), a.d, b.d] = .ok ⟨.bl true, false⟩ [] st := by
  have m1 : memD (.tup [a.d, b.d, .bl false]) (T.map thD) = some (decide ((a, b, false) ∈ T)) := memD_th (a, b, false) T
  have m2 : memD (.tup [b.d, a.d, .bl false]) (T.map thD) = some (decide ((b, a, false) ∈ T)) := memD_th (b, a, false) T
  have ee := eqD_cells a b
  have ia : isTy (pg.ct 63 n) a.d .str = some (!a.isVal) := by cases a <;> rfl
  have ib : isTy (pg.ct 63 n) b.d .str = some (!b.isVal) := by cases b <;> rfl
  refine cj rfl ?_
  refine run_of rfl rfl (by decide) ?_
  rw [show argsE [] [.lst (T.map thD), a.d, b.d] ++ List.replicate (fi308.nsl - fi308.nps) none = [some ⟨.lst (T.map thD), false⟩, some ⟨a.d, false⟩, some ⟨b.d, false⟩] from rfl]
  show (exs _ [] ir308 _).W _ _ _ _ _
  unfold ir308
  generalize T.map thD = TD at *
  by_cases h1 : (a, b, false) ∈ T
  · rw [decide_eq_true h1] at m1
    refine no_implicit_lambda% (W_cons ?_)
    simp [Env.length, m1]
    refine no_implicit_lambda% (W_cons ?_)
    simp [Env.length]
  · rw [decide_eq_false h1] at m1
    by_cases h2 : (b, a, false) ∈ T
    · rw [decide_eq_true h2] at m2
      refine no_implicit_lambda% (W_cons ?_)
      simp [Env.length, m1, m2]
      refine no_implicit_lambda% (W_cons ?_)
      simp [Env.length]
    · rw [decide_eq_false h2] at m2
      obtain ⟨k1, k2, k3⟩ := h.resolve_left h1
      rw [k1] at ia
      rw [k2] at ib
      rw [decide_eq_false k3] at ee
      refine no_implicit_lambda% (W_cons ?_)
      simp [Env.length, m1, m2]
      refine no_implicit_lambda% (W_nil ?_)
      cases a <;> simp [Cell.isVal] at k1
      cases b <;> simp [Cell.isVal] at k2
      simp only [Cell.d] at ia ib ee ⊢
      refine no_implicit_lambda% (W_cons ?_)
      simp [Env.length, ia, ib, ee]
theorem zip_d (w v : List Cell) : zipD (w.map Cell.d) (v.map Cell.d) = (w.zip v).map fun p => .tup [p.1.d, p.2.d] := by
  induction w generalizing v with
  | nil => simp [zipD]
  | cons a w ih => cases v with
    | nil => simp [zipD]
    | cons b v => simp [zipD, ih]
theorem isclash_call (n : Nat) (T : List Th) (tl : T.length < 1000) (w : List Cell) (h : Clash T w) : (pg.ct 63 (n + 2)).call 309 st [.tup (w.map Cell.d), .lst (T.map thD)] = .ok ⟨.bl true, false⟩ [] st := by
  obtain ⟨a, b, hw, hu⟩ := h
  obtain ⟨⟨i, hi⟩, ⟨r, hr⟩, ha⟩ := walk_shape hw
  have c8 := unlike_run (st := st) n T a b hu
  have a0 : L2.atI (w.map Cell.d) 0 = some a.d := by rw [hr]; exact at3_0 _ _
  have a1 : L2.atI (w.map Cell.d) (-1) = some b.d := by
    rw [hi, List.map_append]; exact at_neg1 (i.map Cell.d) b.d
  have bl : biD .len [.tup (w.map Cell.d)] = some ⟨.int (w.length : Int), false⟩ := by simp [biD, lenD]
  obtain ⟨N, hN⟩ : ∃ N : Int, N = (w.length : Int) := ⟨_, rfl⟩
  rw [← hN] at bl
  have N0 : ¬ N = 0 := by rw [hN, hr]; simp; omega
  have eN : eqD (.int N) (.int 0) = some false := by
    show some (N == 0) = _
    congr 1
    simpa using N0
  have cd : cutD (w.map Cell.d) (some 1) none = (w.drop 1).map Cell.d := by
    have := cut_drop (w.map Cell.d) 1
    rw [List.map_drop]
    exact this
  have zz := zip_d w (w.drop 1)
  have mm : ∀ x y : Cell, memD (.tup [x.d, y.d, .bl true]) (T.map thD) = some (decide ((x, y, true) ∈ T)) := fun x y => memD_th (x, y, true) T
  clear hi hr hw hu hN
  refine cj rfl ?_
  generalize (w.drop 1).map Cell.d = W1 at *
  generalize w.map Cell.d = WD at *
  generalize T.map thD = TD at *
  refine run_of rfl rfl (by decide) ?_
  rw [show argsE [] [.tup WD, .lst TD] ++ List.replicate (fi309.nsl - fi309.nps) none = [some ⟨.tup WD, false⟩, some ⟨.lst TD, false⟩, none, none] from rfl]
  show (exs _ [] ir309 _).W _ _ _ _ _
  unfold ir309
  refine no_implicit_lambda% (W_cons ?_)
  simp [Env.length, bl, eN, N0]
  refine no_implicit_lambda% (W_nil ?_)
  refine no_implicit_lambda% (W_cons ?_)
  simp [Env.length, cd]
  obtain ⟨I, hI⟩ : ∃ I : List (Cell × Cell) → MT.Env → Prop, I = fun pre e => ∃ (x2 x3 : Option Val), e = ⟨[some ⟨.tup WD, false⟩, some ⟨.lst TD, false⟩, x2, x3], st⟩ ∧ True := ⟨_, rfl⟩
  refine no_implicit_lambda% (W_loopM (w.zip (w.drop 1)) (fun p => .tup [p.1.d, p.2.d]) I (by simp [Env.length, zz]) ?_ ?_ ?_)
  · rw [hI]; exact ⟨_, _, rfl, trivial⟩
  · rintro pre p suf hx e he; rw [hI] at he; obtain ⟨x2, x3, rfl, _⟩ := he
    have hp := ha p (by rw [hx]; simp)
    have nxt : ∀ x2 x3, I (pre ++ [p]) ⟨[some ⟨.tup WD, false⟩, some ⟨.lst TD, false⟩, x2, x3], st⟩ := fun x2 x3 => by rw [hI]; exact ⟨x2, x3, rfl, trivial⟩
    clear hI hx
    obtain ⟨x, y⟩ := p
    simp only at hp ⊢
    have m1 := mm x y
    have m2 := mm y x
    simp [Env.length]
    rcases hp with hp | hp
    · rw [decide_eq_true hp] at m1
      refine no_implicit_lambda% (W_cons ?_)
      simp [Env.length, m1]
      refine no_implicit_lambda% (W_nil (W_nil ?_))
      exact nxt _ _
    · rw [decide_eq_true hp] at m2
      by_cases q : (x, y, true) ∈ T
      · rw [decide_eq_true q] at m1
        refine no_implicit_lambda% (W_cons ?_)
        simp [Env.length, m1]
        refine no_implicit_lambda% (W_nil (W_nil ?_))
        exact nxt _ _
      · rw [decide_eq_false q] at m1
        refine no_implicit_lambda% (W_cons ?_)
        simp [Env.length, m1, m2]
        refine no_implicit_lambda% (W_nil (W_nil ?_))
        exact nxt _ _
  · rintro e he; rw [hI] at he; obtain ⟨x2, x3, rfl, _⟩ := he
    refine no_implicit_lambda% (W_cons ?_)
    simp [Env.length, a0, a1, c8]
/-- what a cell is worth at a filling -/
theorem worth_call (n : Nat) (f : Cell → Int) (K : List Cell) (c : Cell) (h : c.isVal = false → c ∈ K) : (pg.ct 63 (n + 1)).call 310 st [c.d, .dK (lD f K)] = .ok ⟨.int (wth f c), false⟩ [] st := by
  have gc := get_lD f c K
  have kd := keyD_cell c
  refine cj rfl ?_
  cases c with
  | val v =>
    simp only [Cell.d]
    refine run_of rfl rfl (by decide) ?_
    rw [show argsE [] [.int v, .dK (lD f K)] ++ List.replicate (fi310.nsl - fi310.nps) none = [some ⟨.int v, false⟩, some ⟨.dK (lD f K), false⟩] from rfl]
    show (exs _ [] ir310 _).W _ _ _ _ _
    unfold ir310
    refine no_implicit_lambda% (W_cons ?_)
    simp [Env.length]
    refine no_implicit_lambda% (W_nil ?_)
    refine no_implicit_lambda% (W_cons ?_)
    simp [Env.length, wth]
  | gap g =>
    rw [if_pos (h rfl)] at gc
    have gc : getA (lD f K) (.inr g) = some (.int (f (.gap g))) := gc
    generalize lD f K = FD at *
    simp only [Cell.d]
    refine run_of rfl rfl (by decide) ?_
    rw [show argsE [] [.str g, .dK FD] ++ List.replicate (fi310.nsl - fi310.nps) none = [some ⟨.str g, false⟩, some ⟨.dK FD, false⟩] from rfl]
    show (exs _ [] ir310 _).W _ _ _ _ _
    unfold ir310
    refine no_implicit_lambda% (W_cons ?_)
    simp [Env.length]
    refine no_implicit_lambda% (W_cons ?_)
    simp [Env.length, gc, wth]
theorem whole_call (n : Nat) (i : Int) : (pg.ct 63 (n + 1)).call 301 st [.int i] = .ok ⟨.bl true, false⟩ [] st := by
  refine cj rfl ?_
  refine run_of rfl rfl (by decide) ?_
  rw [show argsE [] [.int i] ++ List.replicate (fi301.nsl - fi301.nps) none = [some ⟨.int i, false⟩] from rfl]
  show (exs _ [] ir301 _).W _ _ _ _ _
  unfold ir301
  refine no_implicit_lambda% (W_cons ?_)
  simp [Env.length]
def gOf (K : List Cell) : List Str := K.filterMap fun c => match c with
  | .gap g => some g
  | _ => none
theorem gOf_d : ∀ {K : List Cell}, (∀ x ∈ K, x.isVal = false) → K.map Cell.d = (gOf K).map D.str
  | [], _ => rfl
  | .gap g :: K, h => congrArg (List.cons (D.str g)) (gOf_d (K := K) fun x hx => h x (List.mem_cons_of_mem _ hx))
  | .val v :: K, h => by have := h (.val v) List.mem_cons_self; cases this
theorem gOf_mem {K : List Cell} {g : Str} : g ∈ gOf K ↔ .gap g ∈ K := by
  unfold gOf
  rw [List.mem_filterMap]
  constructor
  · rintro ⟨c, hc, e⟩
    cases c with
    | val g => cases e
    | gap m => cases e; exact hc
  · exact fun h => ⟨_, h, rfl⟩
theorem gOf_nd : ∀ {K : List Cell}, K.Nodup → (gOf K).Nodup
  | [], _ => by simp [gOf]
  | .gap g :: K, h => by
    rw [List.nodup_cons] at h
    show (g :: gOf K).Nodup
    rw [List.nodup_cons]
    exact ⟨fun z => h.1 (gOf_mem.mp z), gOf_nd h.2⟩
  | .val v :: K, h => by
    rw [List.nodup_cons] at h
    have := gOf_nd h.2
    exact this
theorem sorted_keys (f : Cell → D) {K : List Cell} (g : ∀ x ∈ K, x.isVal = false) (l : K.length < 64) : biD .sorted [.dK (gcD f K)] = some ⟨.lst ((sortS (gOf K)).map D.str), true⟩ := by
  show (if (gcD f K).length < 64 then sortD ((gcD f K).map fun p => dKey p.1) else none) = _
  rw [gcD_len, if_pos l, gcD_keys, gOf_d g]
  refine sortD_strs _ ?_
  have := congrArg List.length (gOf_d g)
  rw [List.length_map, List.length_map] at this
  omega
end K21
namespace K21
open PySem MT Pgm
variable {st : List D}
def ctr : Cell → D := fun _ => .bl true
theorem put_ctr (x : Cell) (K : List Cell) : putA (gcD ctr K) x.key (.bl true) = gcD ctr (addC K x) := by
  rw [put_gcD]
  refine gcD_congr fun z _ => ?_
  unfold updK ctr
  split <;> rfl
def cs2 (T : List Th) : List Cell := T.flatMap fun t => [t.1, t.2.1]
theorem cs2_mem {T : List Th} {x : Cell} : x ∈ cs2 T ↔ Stands T x := by
  unfold cs2 Stands
  rw [List.mem_flatMap]
  constructor
  · rintro ⟨t, ht, h⟩; exact ⟨t, ht, by simpa using h⟩
  · rintro ⟨t, ht, h⟩; exact ⟨t, ht, by simpa using h⟩
theorem agrees_call (n : Nat) (T : List Th) (tl : T.length < 1000) (P : List Cell) (pl : P.length ≤ 20) (hT : ∀ t ∈ T, t.1 ∈ P ∧ t.2.1 ∈ P) (nc : NoClash T) (f : Cell → Int) (K : List Cell) (tk : List Int) (A : Agr T f K tk) (all : ∀ x, Stands T x → x.isVal = false → x ∈ K) :
    (pg.ct 63 (n + 2)).call 311 st [.dK (lD f K), .lst (T.map thD)] = .ok ⟨.bl true, false⟩ [] st := by
  have inP : ∀ (K : List Cell), K.Nodup → (∀ x ∈ K, Stands T x) → K.length ≤ P.length := fun K nd h => nd_le nd fun z hz => by
    obtain ⟨t, h, rfl | rfl⟩ := h z hz
    · exact (hT t h).1
    · exact (hT t h).2
  have kl := inP K A.nd A.stand
  have ity : ∀ x : Cell, isTy (pg.ct 63 (n + 1)) x.d .str = some (!x.isVal) := fun x => by cases x <;> rfl
  have kd := keyD_cell
  have dueG : ∀ cs : List Cell, ∀ x ∈ addG [] cs, x.isVal = false := fun cs x hx => (addG_mem.mp hx).elim (fun h => by cases h) (·.2)
  have s1 : biD .sorted [.dK (lD f K)] = _ := sorted_keys (fun x => .int (f x)) A.gap (by omega)
  have perm : (gOf (addG [] (cs2 T))).Perm (gOf K) := (List.perm_ext_iff_of_nodup (gOf_nd (addG_nodup (by simp))) (gOf_nd A.nd)).mpr fun g => by
    rw [gOf_mem, gOf_mem, addG_mem, cs2_mem]
    constructor
    · rintro (h | ⟨h1, h2⟩)
      · cases h
      · exact all _ h1 h2
    · exact fun h => .inr ⟨A.stand _ h, rfl⟩
  have s2 := sorted_keys ctr (dueG (cs2 T)) (by
    have := inP (addG [] (cs2 T)) (addG_nodup (by simp)) fun x hx => (addG_mem.mp hx).elim (fun h => by cases h) fun h => cs2_mem.mp h.1
    omega)
  rw [sortS_permeq perm] at s2
  have ee := eqD_strs (sortS (gOf K)) (sortS (gOf K))
  rw [beq_self_eq_true] at ee
  have fk : itemsD .seqK [.dK (lD f K)] = some (K.map Cell.d) := by rw [← gcD_keys (fun x => .int (f x)) K]; rfl
  have c301 := fun i => whole_call (st := st) n i
  have gk : ∀ x ∈ K, getA (lD f K) x.key = some (.int (f x)) := fun x hx => by rw [get_lD, if_pos hx]
  have c310 : ∀ x, Stands T x → (pg.ct 63 (n + 1)).call 310 st [x.d, .dK (lD f K)] = .ok ⟨.int (wth f x), false⟩ [] st := fun x hx => worth_call (st := st) n f K x (all x hx)
  have ag : ∀ t ∈ T, ((wth f t.1 == wth f t.2.1) == t.2.2) = true := fun t ht => by
    have h1 := A.agree nc all (x := t.1) (y := t.2.1) ⟨t, ht, .inl rfl⟩ ⟨t, ht, .inr rfl⟩
    have e : t.2.2 = decide (wth f t.1 = wth f t.2.1) := by
      obtain ⟨a, b, s⟩ := t
      cases s with
      | true => simp only at h1 ⊢; rw [decide_eq_true (h1.mpr (heads_said ht))]
      | false => simp only at h1 ⊢; rw [decide_eq_false fun z => nc.apart a b ht (h1.mp z).symm]
    rw [e]; simp [BEq.beq]
  have thd : ∀ t : Th, thD t = .tup [t.1.d, t.2.1.d, .bl t.2.2] := fun t => rfl
  have al1 : biD .all [.lst (K.map fun _ => D.bl true)] = some ⟨.bl true, false⟩ := by
    rw [show K.map (fun _ => D.bl true) = (K.map fun _ => true).map .bl by rw [List.map_map]; rfl, biD_all]
    simp
  have al2 : biD .all [.lst (T.map fun _ => D.bl true)] = some ⟨.bl true, false⟩ := by
    rw [show T.map (fun _ => D.bl true) = (T.map fun _ => true).map .bl by rw [List.map_map]; rfl, biD_all]
    simp
  have addl : ∀ cs : List Cell, (addG [] cs).length ≤ cs.length := fun cs => by
    refine nd_le (addG_nodup (by simp)) fun x hx => (addG_mem.mp hx).elim (fun h => by cases h) (·.1)
  have csl : ∀ U : List Th, (cs2 U).length = 2 * U.length := fun U => by
    induction U with
    | nil => rfl
    | cons t U ih => show (([t.1, t.2.1] ++ cs2 U)).length = _; rw [List.length_append, ih]; simp; omega
  refine cj rfl ?_
  generalize hF : lD f K = FD at *
  refine run_of rfl rfl (by decide) ?_
  rw [show argsE [] [.dK FD, .lst (T.map thD)] ++ List.replicate (fi311.nsl - fi311.nps) none = [some ⟨.dK FD, false⟩, some ⟨.lst (T.map thD), false⟩, none, none, none, none, none, none] from rfl]
  show (exs _ [] ir311 _).W _ _ _ _ _
  unfold ir311
  refine no_implicit_lambda% (W_cons ?_)
  simp [Env.length]
  refine no_implicit_lambda% (W_cons ?_)
  simp [Env.length]
  obtain ⟨I, hI⟩ : ∃ I : List (Th) → MT.Env → Prop, I = fun pre e => ∃ (x3 x4 x5 x6 : Option Val), e = ⟨[some ⟨.dK FD, false⟩, some ⟨.lst (T.map thD), false⟩, some ⟨.dK (gcD ctr (addG [] (cs2 pre))), true⟩, x3, x4, x5, x6, none], st⟩ ∧ True := ⟨_, rfl⟩
  refine no_implicit_lambda% (W_loopM (T) (thD) I (by simp [Env.length]) ?_ ?_ ?_)
  · rw [hI]; exact ⟨_, _, _, _, rfl, trivial⟩
  · rintro pre t suf hx e he; rw [hI] at he; obtain ⟨x3, x4, x5, x6, rfl, _⟩ := he
    obtain ⟨a, b, s⟩ := t
    have plen : pre.length < 1000 := by rw [hx] at tl; simp at tl; omega
    have nxt : ∀ x3 x4 x5 x6, I (pre ++ [(a, b, s)]) ⟨[some ⟨.dK FD, false⟩, some ⟨.lst (T.map thD), false⟩, some ⟨.dK (gcD ctr (addG [] (cs2 pre ++ [a, b]))), true⟩, x3, x4, x5, x6, none], st⟩ := fun x3 x4 x5 x6 => by
      rw [hI]; exact ⟨x3, x4, x5, x6, by unfold cs2; rw [List.flatMap_append]; rfl, trivial⟩
    have cl := csl pre
    clear hI hx
    generalize cs2 pre = C at *
    simp only [thD]
    simp [Env.length]
    refine no_implicit_lambda% (W_cons ?_)
    simp [Env.length]
    obtain ⟨I, hI⟩ : ∃ I : List (Cell) → MT.Env → Prop, I = fun p2 e => ∃ (x6 : Option Val), e = ⟨[some ⟨.dK FD, false⟩, some ⟨.lst (T.map thD), false⟩, some ⟨.dK (gcD ctr (addG [] (C ++ p2))), true⟩, some ⟨a.d, false⟩, some ⟨b.d, false⟩, some ⟨.bl s, false⟩, x6, none], st⟩ ∧ True := ⟨_, rfl⟩
    refine no_implicit_lambda% (W_loopM ([a, b]) (Cell.d) I (by simp [Env.length]) ?_ ?_ ?_)
    · rw [hI]; exact ⟨_, by rw [List.append_nil]; rfl, trivial⟩
    · rintro p2 y suf2 hy e he; rw [hI] at he; obtain ⟨x6, rfl, _⟩ := he
      have p2l : p2.length ≤ 2 := by
        have := congrArg List.length hy
        simp at this; omega
      have iy := ity y
      have sn := addG_snoc [] (C ++ p2) y
      have pt := put_ctr y (addG [] (C ++ p2))
      have fl : (gcD ctr (addG [] (C ++ p2))).length < 16777216 := by
        have := addl (C ++ p2)
        rw [List.length_append] at this
        rw [gcD_len]; omega
      have nxt2 : ∀ x6, I (p2 ++ [y]) ⟨[some ⟨.dK FD, false⟩, some ⟨.lst (T.map thD), false⟩, some ⟨.dK (gcD ctr (addG [] (C ++ p2 ++ [y]))), true⟩, some ⟨a.d, false⟩, some ⟨b.d, false⟩, some ⟨.bl s, false⟩, x6, none], st⟩ := fun x6 => by
        rw [hI]; exact ⟨x6, by rw [List.append_assoc], trivial⟩
      clear hI hy
      cases hv : y.isVal with
      | true =>
        rw [hv] at iy
        rw [sn, if_pos hv] at nxt2
        simp [Env.length]
        refine no_implicit_lambda% (W_cons ?_)
        simp [Env.length, iy]
        refine no_implicit_lambda% (W_nil (W_nil ?_))
        exact nxt2 _
      | false =>
        rw [hv] at iy
        rw [sn, if_neg (by rw [hv]; simp), ← pt] at nxt2
        clear pt sn
        generalize gcD ctr (addG [] (C ++ p2)) = G1 at *
        simp [Env.length]
        refine no_implicit_lambda% (W_cons ?_)
        simp [Env.length, iy]
        refine no_implicit_lambda% (W_cons ?_)
        simp [Env.length, kd, fl, muPut]
        refine no_implicit_lambda% (W_nil (W_nil ?_))
        exact nxt2 _
    · rintro e he; rw [hI] at he; obtain ⟨x6, rfl, _⟩ := he
      refine no_implicit_lambda% (W_nil ?_)
      exact nxt _ _ _ _
  · rintro e he; rw [hI] at he; obtain ⟨x3, x4, x5, x6, rfl, _⟩ := he
    clear hI I
    generalize gcD ctr (addG [] (cs2 T)) = G2 at *
    generalize (sortS (gOf K)).map D.str = SD at *
    refine no_implicit_lambda% (W_cons ?_)
    simp [Env.length, s1, s2, ee]
    refine no_implicit_lambda% (W_nil ?_)
    refine no_implicit_lambda% (W_cons ?_)
    simp [Env.length]
    rw [lcE_M (K) (Cell.d) (fun _ => D.bl true) (by simp [Env.length, fk, -sitk_dK]) (by omega) (by simp [Env.length]) (fun x hx => by have h1 := gk x hx; simp [Env.length, kd, h1, c301])]
    simp [Env.length, al1]
    refine no_implicit_lambda% (W_nil ?_)
    refine no_implicit_lambda% (W_cons ?_)
    simp [Env.length]
    rw [lcE_M (T) (thD) (fun _ => D.bl true) (by simp [Env.length]) (by omega) (by simp [Env.length]) (fun x hx => by have h1 := c310 x.1 ⟨x, hx, .inl rfl⟩; have h2 := c310 x.2.1 ⟨x, hx, .inr rfl⟩; have h3 := ag x hx; simp [Env.length, thd, h1, h2]; simpa using h3)]
    simp [Env.length, al2]
theorem right_call (T : List Th) (tl : T.length ≤ 24) (P : List Cell) (nd : P.Nodup) (pl : P.length ≤ 9) (hT : ∀ t ∈ T, t.1 ∈ P ∧ t.2.1 ∈ P) (b : Bool) (hb : b = true ↔ Torn P (labelsOf P T) T) :
    (pg.ct 63 99).call 312 [] [.lst (T.map thD), .lst (T.map thD), .bl b] = .ok ⟨.bl true, false⟩ [] [] := by
  have par := labels_par hT
  obtain ⟨v1, h1, c39⟩ := clash_call (st := []) 95 T (by omega) P (by omega) hT
  obtain ⟨v2, h2, c41⟩ := agreeing_call (st := []) 94 T P (by omega) hT (by
    have h3 : (nOf (cellsOf T)).length ≤ (cellsOf T).length := List.length_filterMap_le _ _
    have h4 : (cellsOf T).length = T.length + T.length := by unfold cellsOf; simp
    omega) (by omega) (by simp)
  have c39 : (pg.ct 63 98).call 39 [] [.lst (T.map thD)] = _ := c39
  have c41 : (pg.ct 63 98).call 41 [] [.lst (T.map thD)] = _ := c41
  refine cj (n := 98) rfl ?_
  cases b with
  | true =>
    have torn := hb.mp rfl
    obtain ⟨w, rfl, hw⟩ := h1.resolve_left fun z => torn_yes nd hT par torn z.2
    obtain ⟨rfl, _⟩ := h2.resolve_right fun z => torn_yes nd hT par torn z.1
    have c309 := isclash_call (st := []) 96 T (by omega) w hw
    have c309 : (pg.ct 63 98).call 309 [] [.tup (w.map Cell.d), .lst (T.map thD)] = _ := c309
    generalize w.map Cell.d = WD at *
    generalize T.map thD = TD at *
    refine run_of rfl rfl (by decide) ?_
    rw [show argsE [] [.lst TD, .lst TD, .bl true] ++ List.replicate (fi312.nsl - fi312.nps) none = [some ⟨.lst TD, false⟩, some ⟨.lst TD, false⟩, some ⟨.bl true, false⟩, none] from rfl]
    show (exs _ [] ir312 _).W _ _ _ _ _
    unfold ir312
    refine no_implicit_lambda% (W_cons ?_)
    simp [Env.length]
    refine no_implicit_lambda% (W_cons ?_)
    simp [Env.length, c39, c309, c41]
  | false =>
    have nt : ¬ Torn P (labelsOf P T) T := fun z => by cases hb.mpr z
    obtain ⟨rfl, nc⟩ := h1.resolve_right fun ⟨w, _, z⟩ => torn_no hT par nt z
    obtain ⟨_, f, K, tk, A, all, rfl⟩ := h2.resolve_left fun ⟨_, w, z⟩ => torn_no hT par nt z
    have c311 := agrees_call (st := []) 96 T (by omega) P (by omega) hT nc f K tk A all
    have c311 : (pg.ct 63 98).call 311 [] [.dK (lD f K), .lst (T.map thD)] = _ := c311
    generalize lD f K = FD at *
    generalize T.map thD = TD at *
    refine run_of rfl rfl (by decide) ?_
    rw [show argsE [] [.lst TD, .lst TD, .bl false] ++ List.replicate (fi312.nsl - fi312.nps) none = [some ⟨.lst TD, false⟩, some ⟨.lst TD, false⟩, some ⟨.bl false, false⟩, none] from rfl]
    show (exs _ [] ir312 _).W _ _ _ _ _
    unfold ir312
    refine no_implicit_lambda% (W_cons ?_)
    simp [Env.length]
    refine no_implicit_lambda% (W_nil ?_)
    refine no_implicit_lambda% (W_cons ?_)
    simp [Env.length, c41]
    refine no_implicit_lambda% (W_cons ?_)
    simp [Env.length, c39, c311]
    refine no_implicit_lambda% (W_nil ?_)
    refine no_implicit_lambda% (W_cons ?_)
    simp [Env.length]
    refine no_implicit_lambda% (W_cons ?_)
    simp [Env.length]
end K21
namespace K21
open PySem MT Pgm
theorem eqD_ths (T : List Th) : eqD (.lst (T.map thD)) (.lst (T.map thD)) = some true := eqN_lst (n := 49) fun y hy => by
  obtain ⟨⟨a, b, s⟩, _, rfl⟩ := List.mem_map.mp hy
  show eqL (eqN 48) [a.d, b.d, .bl s] [a.d, b.d, .bl s] = _
  have h1 := eqN_cells 48 a a
  have h2 := eqN_cells 48 b b
  have h3 := eqN_bls 48 s s
  simp only [eqL, h1, h2, h3]
  simp
theorem law_run (N : Nat) (hN : N = 99) (ns : List Int) (hl : ns.length ≤ 63) : runDef (pg.ct 63 N) fi313 [] [.scr ns] = .ok ⟨.bl true, false⟩ [] [] := by
  obtain ⟨G, vs, gn, vn, gl, g0, vl, c04⟩ := pool_call (st := []) 97 ns
  obtain ⟨P, hP⟩ : ∃ P : List Cell, P = G.map .gap ++ vs.map .val := ⟨_, rfl⟩
  have pl : P.length ≤ 9 := by rw [hP]; simp; omega
  have p0 : 0 < P.length := by rw [hP]; simp; omega
  have nd : P.Nodup := by
    rw [hP]
    refine List.nodup_append.mpr ⟨?_, ?_, ?_⟩
    · exact List.Pairwise.map _ (fun a b h e => h (by injection e)) gn
    · exact List.Pairwise.map _ (fun a b h e => h (by injection e)) vn
    · rintro a ha b hb rfl
      obtain ⟨x, _, rfl⟩ := List.mem_map.mp ha
      obtain ⟨y, _, e⟩ := List.mem_map.mp hb
      cases e
  have pd : G.map D.str ++ vs.map D.int = P.map Cell.d := by rw [hP]; simp; rfl
  have pdl : (G.map D.str).length + (vs.map D.int).length ≤ 16777216 := by rw [List.length_map, List.length_map]; omega
  have cA : (cutD ns (some 8) (some 32)).length ≤ 24 := by
    unfold cutD
    rw [show (8 : Int) = ((8 : Nat) : Int) from rfl, show (32 : Int) = ((32 : Nat) : Int) from rfl, HT.sIx_nat, HT.sIx_nat, List.length_take, List.length_drop]
    omega
  obtain ⟨cs, hcs⟩ : ∃ cs, cs = cutD ns (some 8) (some 32) := ⟨_, rfl⟩
  rw [← hcs] at cA
  obtain ⟨T, hT, tl, c05⟩ := things_call (st := []) 98 cs (by omega) P p0 pl
  obtain ⟨b, hb, c07⟩ := torn_call (st := []) 97 P nd pl T (by omega) hT
  have c12 := right_call T (by omega) P nd pl hT b hb
  obtain ⟨k, hk, hk2⟩ : ∃ k : Nat, (T.length : Int) / 2 = (k : Int) ∧ k ≤ T.length := ⟨T.length / 2, by omega, by omega⟩
  obtain ⟨U, hU⟩ : ∃ U, U = T.take k := ⟨_, rfl⟩
  have hUT : ∀ t ∈ U, t.1 ∈ P ∧ t.2.1 ∈ P := fun t h => hT t (by rw [hU] at h; exact List.mem_of_mem_take h)
  have ul : U.length ≤ 24 := by rw [hU, List.length_take]; omega
  obtain ⟨b2, hb2, c07u⟩ := torn_call (st := []) 97 P nd pl U (by omega) hUT
  have c12u := right_call U ul P nd pl hUT b2 hb2
  have ct : cutD (T.map thD) none (some (k : Int)) = U.map thD := by rw [cut_take, hU, List.map_take]
  have lnT : biD .len [.lst (T.map thD)] = some ⟨.int (T.length : Int), false⟩ := by simp [biD, lenD]
  have lsT : biD .list [.lst (T.map thD)] = some ⟨.lst (T.map thD), true⟩ := rfl
  have lsU : biD .list [.lst (U.map thD)] = some ⟨.lst (U.map thD), true⟩ := rfl
  have ee := eqD_ths T
  obtain ⟨TL, hTL⟩ : ∃ TL : Int, TL = (T.length : Int) := ⟨_, rfl⟩
  obtain ⟨kI, hkI⟩ : ∃ kI : Int, kI = (k : Int) := ⟨_, rfl⟩
  rw [← hTL] at lnT hk
  rw [← hkI] at ct hk
  have c04 : (pg.ct 63 99).call 304 [] [.scr ns] = _ := c04
  have c05 : (pg.ct 63 99).call 305 [] [.lst (cs.map .int), .lst (P.map Cell.d)] = _ := c05
  have c07 : (pg.ct 63 99).call 307 [] [.lst (P.map Cell.d), .lst (T.map thD)] = _ := c07
  have c07u : (pg.ct 63 99).call 307 [] [.lst (P.map Cell.d), .lst (U.map thD)] = _ := c07u
  simp only [← hN] at c04 c05 c07 c07u c12 c12u
  have b2' : (2 : Int) < 2 ^ 2000 := s2000 (by decide)
  clear hN hb hb2 hT hUT hU hP
  generalize T.map thD = TD at *
  generalize U.map thD = UD at *
  generalize P.map Cell.d = PD at *
  generalize G.map D.str = GD at *
  generalize vs.map D.int = VD at *
  refine run_of rfl rfl (by decide) ?_
  rw [show argsE [] [.scr ns] ++ List.replicate (fi313.nsl - fi313.nps) none = [some ⟨.scr ns, false⟩, none, none, none, none, none, none, none] from rfl]
  show (exs _ [] ir313 _).W _ _ _ _ _
  unfold ir313
  refine no_implicit_lambda% (W_cons ?_)
  simp [Env.length, c04]
  refine no_implicit_lambda% (W_cons ?_)
  simp [Env.length, pdl, pd]
  refine no_implicit_lambda% (W_cons ?_)
  simp [Env.length, ← hcs, c05]
  refine no_implicit_lambda% (W_cons ?_)
  simp [Env.length, lsT]
  refine no_implicit_lambda% (W_cons ?_)
  simp [Env.length, c07]
  refine no_implicit_lambda% (W_cons ?_)
  simp [Env.length, c12, ee]
  refine no_implicit_lambda% (W_nil ?_)
  refine no_implicit_lambda% (W_cons ?_)
  simp [Env.length, lnT, hk, b2', ct]
  refine no_implicit_lambda% (W_cons ?_)
  simp [Env.length, lsU, c07u, c12u]
  refine no_implicit_lambda% (W_nil ?_)
  refine no_implicit_lambda% (W_cons ?_)
  simp [Env.length, c12, ee]
theorem call_law (ns : List Int) (hl : ns.length ≤ 63) : ∃ st, (pg.ct 63 100).call 313 [] [.scr ns] = .ok ⟨.bl true, false⟩ [] st :=
  ⟨[], cj (n := 99) (f := fi313) rfl (law_run 99 rfl ns hl)⟩
end K21
open PySem PySem.W PySem.Calls PyProof.Rows
theorem PySem.Challenge.cw_maybetables_k21_clash_or_agreeing_holds : PySem.Challenge.rw_maybetables_k21_clash_or_agreeing.Holds := by
  w_on; o_law
  refine HandSHeadRun.head_any (r := OpenLaw.row PySem.Challenge.rw_maybetables_k21_clash_or_agreeing) (q := view (OpenLaw.row PySem.Challenge.rw_maybetables_k21_clash_or_agreeing).prog [21]) (H := K21.hk) (ob := K21.ob) (M := 6000) (loose := K21.loose) (d := HandSHeadRun.topDef (OpenLaw.row PySem.Challenge.rw_maybetables_k21_clash_or_agreeing).prog 21) (kwd := []) K21.ob_eq
    (by kernel_rfl) (fun s => by kernel_rfl) K21.run (by kernel_rfl) (by kernel_rfl) (by kernel_rfl) (by rfl) (by first | assumption | decide +kernel) (by decide +kernel) ⟨rfl, rfl, rfl, rfl, rfl, by decide +kernel⟩ ?hw ?hc
  case hw => w_witness2
  case hc =>
    refine L2.walk_ofE (l := PySem.Challenge.rw_maybetables_k21_clash_or_agreeing) (n := 63) (k := 202) (x := "_law_script") (CX := MT.CXa (PySem.Challenge.rw_maybetables_k21_clash_or_agreeing).prog) rfl (by decide) (by kernel_rfl) ⟨rfl, by decide, by decide⟩ ?F (fun _ _ _ _ z => MT.cxa_none z)
    intro w mg fa h Y G hmg0
    obtain ⟨K, KX, c⟩ := Y
    have hmg : mg ("law" : PySem.Str) = some (.ref fa) := by
      have e : (HandSHeadRun.topDef (OpenLaw.row PySem.Challenge.rw_maybetables_k21_clash_or_agreeing).prog 21).name = ("law" : PySem.Str) := by kernel_rfl
      rw [← e]
      exact hmg0
    have F0 := K21.fx KX G c
    obtain ⟨fd, Fd⟩ := F0.f313
    have hm := F0.m313
    cases hmg.symm.trans hm
    have b := L2.FunD.bindsA (ps := ["_law_script"]) Fd fun _ _ _ _ _ _ us hl => match us, hl with | [_], _ => rfl
    exact ⟨K, fd, MT.spD (K21.nm0 K) (K21.pg.ct 63 100) 1 313, KX, fun s u => b s [u] rfl, fun H a ns hl hO hS => (let ⟨st, hc⟩ := K21.call_law ns hl; MT.law_sp rfl hO hS rfl hc), fun base _ _ => MT.fn_any (K21.ok313 Fd (K21.gf F0 99))⟩
