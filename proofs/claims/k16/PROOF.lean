import PyProof.Rows.All
import Wide.All
import OpenK.AllK
import Wide.FinOn
import KE.KStateDown
import Lean
import HandS.ForMost
import KE.KEqNest
import PyProof.NeKinds
import HandS.ForExc
import HandS.Wide
import HandS.SortInts
import HandS.TupAny
import HandS.Style
import HandS.IsInst
import HandS.Flow
import HandS.Defaults
import HandS.HeadHook2
import KE.KSortedM
import HandS.More
import HandS.Iter
import HandS.Small
import HandS.Head0
import HandS.Head1
import HandS.Head2
import HandS.HeadEnd
import HandS.HeadHook1
import PySem.Challenge.RW_maybetables_k16_each_filling_of_one_kind
set_option Elab.async false
set_option linter.all false
set_option maxRecDepth 100000
set_option maxHeartbeats 0
namespace PySem.SeqAt
open AutoSeq1 (wpAny_loadPart')
open MeetsSeq MeetsSeq2 MeetsSeq3 SeqRoads2
section
variable {prog : Program} {w : World}
theorem mt_ne_loopIn (l b : Addr) (items items2 : Array Value) (n n2 : Nat) (dd dd2 : Option Addr) (sl sl2 : Array (Option Value)) (hsz : items.size = items2.size) (e : Nat → Bool) (k : Nat) :
    ∀ i : Nat, items.size - i = k → MeetsIn prog w (Builtin.«list.__eq__.loop» ⟨[.ref l, .ref b, rawInt i, rawInt 3], []⟩)
      (fun A R s => s.heap.get? l = some { cls := .type "list", dict := dd, data := .seq items n, slots := sl } ∧ s.heap.get? b = some { cls := .type "list", dict := dd2, data := .seq items2 n2, slots := sl2 } ∧
        (∀ j (h1 : j < items.size) (h2 : j < items2.size), EqIn prog w A.in1 s items[j] items2[j] (e j)) ∧
        R (.ok (.ret (.bool (!((List.range items.size).drop i).all e)))) s) := by
  induction k with
  | zero =>
    intro i hk A R s h
    obtain ⟨hp, g, d, tk, os⟩ := s; obtain ⟨hl, hb, he, h⟩ := h
    wp_walk using wpAny_loadPart' hl, wpAny_loadPart' hb
    have hi1 : items[((i : Nat) : Int).toNat]? = none := by simp; omega
    have hi2 : items2[((i : Nat) : Int).toNat]? = none := by simp; omega
    have hd : (List.range items.size).drop i = [] := by simp; omega
    rw [hd] at h
    rw [hi1, hi2]
    wp_walk using wpAny_loadPart' hl, wpAny_loadPart' hb
    show R (.ok (.ret (.bool (items.size != items2.size)))) _
    rw [hsz]
    simpa using h
  | succ k ih =>
    intro i hk A R s h
    obtain ⟨hp, g, d, tk, os⟩ := s; obtain ⟨hl, hb, he, h⟩ := h
    wp_walk using wpAny_loadPart' hl, wpAny_loadPart' hb
    have hlt : i < items.size := by omega
    have hlt2 : i < items2.size := by omega
    have hi1 : items[((i : Nat) : Int).toNat]? = some items[i] := by simp [hlt]
    have hi2 : items2[((i : Nat) : Int).toNat]? = some items2[i] := by simp [hlt2]
    have hd : (List.range items.size).drop i = i :: (List.range items.size).drop (i + 1) := by simp [List.drop_eq_getElem_cons, hlt]
    have hc : ((i : Int) + 1) = ((i + 1 : Nat) : Int) := by push_cast; rfl
    rw [hd, List.all_cons] at h
    rw [hi1, hi2]
    refine wpAny_bind (he i hlt hlt2 _ _ ?_)
    cases hb' : e i with
    | true =>
      rw [hb'] at h
      wp_walk
      rw [hc]
      exact ⟨plainId_quiet plain_eq_loop _, codeAny_builtin entry_eq_loop (by
        rw [Around.under_plainId plain_eq_loop _]
        exact ih (i + 1) (by omega) A R _ ⟨hl, hb, he, by simpa using h⟩)⟩
    | false =>
      rw [hb'] at h
      wp_walk using wpAny_loadPart' hl, wpAny_loadPart' hb
      rw [hi1, hi2]
      wp_walk
      simpa using h
theorem mt_list_neIn (l b : Addr) (items items2 : Array Value) (n n2 : Nat) (dd dd2 : Option Addr) (sl sl2 : Array (Option Value)) (hsz : items.size = items2.size) (e : Nat → Bool) :
    MeetsIn prog w (Builtin.«list.__ne__» ⟨[.ref l, .ref b], []⟩)
      (fun A R s => s.heap.get? l = some { cls := .type "list", dict := dd, data := .seq items n, slots := sl } ∧ s.heap.get? b = some { cls := .type "list", dict := dd2, data := .seq items2 n2, slots := sl2 } ∧
        (∀ j (h1 : j < items.size) (h2 : j < items2.size), EqIn prog w A.in1 s items[j] items2[j] (e j)) ∧
        R (.ok (.ret (.bool (!(List.range items.size).all e)))) s) := by
  intro A R s h
  obtain ⟨hp, g, d, tk, os⟩ := s; obtain ⟨hl, hb, he, h⟩ := h
  have f3 := AutoSeq1.sub_list_list
  have hne : ¬ (items.size != items2.size) = true := by simp [hsz]
  wp_walk using wpAny_loadPart' hl, wpAny_loadPart' hb
  exact ⟨plainId_quiet plain_eq_loop _, codeAny_builtin entry_eq_loop (by
    rw [Around.under_plainId plain_eq_loop _]
    exact mt_ne_loopIn l b items items2 n n2 dd dd2 sl sl2 hsz e _ 0 rfl A R _ ⟨hl, hb, he, by simpa using h⟩)⟩
theorem mt_tuple_neIn (l b : Addr) (items items2 : Array Value) (n n2 : Nat) (dd dd2 : Option Addr) (sl sl2 : Array (Option Value)) (e : Nat → Bool) :
    MeetsIn prog w (Builtin.«tuple.__ne__» ⟨[.ref l, .ref b], []⟩)
      (fun A R s => s.heap.get? l = some { cls := .type "tuple", dict := dd, data := .seq items n, slots := sl } ∧ s.heap.get? b = some { cls := .type "tuple", dict := dd2, data := .seq items2 n2, slots := sl2 } ∧
        (∀ j (h1 : j < items.size) (h2 : j < items2.size), EqIn prog w A.in1 s items[j] items2[j] (e j)) ∧
        R (.ok (.ret (.bool (!((List.range (min items.size items2.size)).all e && items.size == items2.size))))) s) :=
  .of_wp fun A R s h => by
    obtain ⟨hp, g, d, tk, os⟩ := s; obtain ⟨hl, hb, he, h⟩ := h
    have f2 := AutoSeq1.sub_tuple_tuple
    have hZ : (items.toList.zip items2.toList).length = min items.size items2.size := by simp
    wp_walk using wpAny_loadPart' hl, wpAny_loadPart' hb, wpAny_forIn_list _ (fun rest b s' => b.1 = none ∧ s' = ⟨hp, g, d, tk, os⟩ ∧ ∃ i, rest = (items.toList.zip items2.toList).drop i ∧
      R (.ok (.ret (.bool (!(((List.range (min items.size items2.size)).drop i).all e && items.size == items2.size))))) ⟨hp, g, d, tk, os⟩) _
    case turn =>
      rintro ⟨y, x⟩ rest b s' ⟨hb', rfl, i, hz, hR⟩
      have hlt : i < (items.toList.zip items2.toList).length := by
        rcases Nat.lt_or_ge i (items.toList.zip items2.toList).length with h' | h'
        · exact h'
        · rw [List.drop_of_length_le h'] at hz; cases hz
      have hm : i < min items.size items2.size := hZ ▸ hlt
      have h1 : i < items.size := Nat.lt_of_lt_of_le hm (Nat.min_le_left _ _)
      have h2 : i < items2.size := Nat.lt_of_lt_of_le hm (Nat.min_le_right _ _)
      rw [List.drop_eq_getElem_cons hlt] at hz
      injection hz with hyx hrest
      have hy : y = items[i] := by have := congrArg Prod.fst hyx; simpa using this
      have hx : x = items2[i] := by have := congrArg Prod.snd hyx; simpa using this
      subst hy hx
      have hd : (List.range (min items.size items2.size)).drop i = i :: (List.range (min items.size items2.size)).drop (i + 1) := by simp [List.drop_eq_getElem_cons, hm]
      rw [hd, List.all_cons] at hR
      refine wpAny_bind (he i h1 h2 _ _ ?_)
      cases hy : e i with
      | true =>
        rw [hy] at hR
        wp_walk
        exact ⟨rfl, rfl, i + 1, hrest, by simpa using hR⟩
      | false =>
        rw [hy] at hR
        wp_walk
        exact ⟨_, rfl, by simpa using hR⟩
    case fin =>
      rintro ⟨b1, b2⟩ s' ⟨hb', rfl, i, hz, hR⟩
      simp only at hb'
      subst hb'
      have hge : min items.size items2.size ≤ i := by
        rcases Nat.lt_or_ge i (items.toList.zip items2.toList).length with h' | h'
        · rw [List.drop_eq_getElem_cons h'] at hz; cases hz
        · exact hZ ▸ h'
      rw [List.drop_of_length_le (by simpa using hge)] at hR
      wp_walk
      exact ⟨_, rfl, by simpa [Builtin.Tuple.tupleCompareSizes, bne] using hR⟩
    case h =>
      exact ⟨rfl, rfl, 0, rfl, by simpa using h⟩
variable {A : Around} {s : Shared}
theorem mt_rcNe_lists {E : Value → Shared → Prop} {l b : Addr} {items items2 : Array Value} {e : Nat → Bool} {Q : Value → Shared → Prop} (hl : s.heap.IsList l items) (hb : s.heap.IsList b items2) (hsz : items.size = items2.size) (hu : A.units < cLine)
    (he : ∀ j (h1 : j < items.size) (h2 : j < items2.size), EqIn prog w A.in1 s items[j] items2[j] (e j)) (h : Q (.bool (!(List.range items.size).all e)) s) : wpAny (model prog w) A (richCompare .NotEq (.ref l) (.ref b)) Q E s := by
  obtain ⟨⟨cls, dd, data, sl⟩, ho, hc, n, hd⟩ := id hl
  obtain ⟨⟨cls2, dd2, data2, sl2⟩, ho2, hc2, n2, hd2⟩ := id hb
  simp only at hc hd hc2 hd2
  subst hc hd hc2 hd2
  exact wpAny_richCompare_same_room (T := "list") (op := .NotEq) ⟨_, ho, rfl⟩ ⟨_, ho2, rfl⟩ F.slot_list_ne (call_meetsIn F.slot_list_ne ⟨_, ho, rfl⟩ F.entry_list_ne (F.args_list_ne_2 _ _) (mt_list_neIn l b items items2 n n2 dd dd2 sl sl2 hsz e)
    ⟨ho, ho2, he, show Value.bool (!(List.range items.size).all e) ≠ Value.notImplemented ∧ Q (.bool (!(List.range items.size).all e)) s from ⟨(fun x => nomatch x), h⟩⟩) hu
theorem mt_rcNe_tuples {E : Value → Shared → Prop} {l b : Addr} {items items2 : Array Value} {e : Nat → Bool} {Q : Value → Shared → Prop} (hl : s.heap.IsTuple l items) (hb : s.heap.IsTuple b items2) (hu : A.units < cLine)
    (he : ∀ j (h1 : j < items.size) (h2 : j < items2.size), EqIn prog w A.in1 s items[j] items2[j] (e j)) (h : Q (.bool (!((List.range (min items.size items2.size)).all e && items.size == items2.size))) s) :
    wpAny (model prog w) A (richCompare .NotEq (.ref l) (.ref b)) Q E s := by
  obtain ⟨⟨cls, dd, data, sl⟩, ho, hc, n, hd⟩ := id hl
  obtain ⟨⟨cls2, dd2, data2, sl2⟩, ho2, hc2, n2, hd2⟩ := id hb
  simp only at hc hd hc2 hd2
  subst hc hd hc2 hd2
  exact wpAny_richCompare_same_room (T := "tuple") (op := .NotEq) ⟨_, ho, rfl⟩ ⟨_, ho2, rfl⟩ F.slot_tuple_ne (call_meetsIn F.slot_tuple_ne ⟨_, ho, rfl⟩ F.entry_tuple_ne (F.args_tuple_ne_2 _ _) (mt_tuple_neIn l b items items2 n n2 dd dd2 sl sl2 e)
    ⟨ho, ho2, he, show Value.bool (!((List.range (min items.size items2.size)).all e && items.size == items2.size)) ≠ Value.notImplemented ∧ Q (.bool (!((List.range (min items.size items2.size)).all e && items.size == items2.size))) s from ⟨(fun x => nomatch x), h⟩⟩) hu
end
end PySem.SeqAt
namespace PySem.W
open Lean Elab Tactic Meta PySem PySem.Calls PyProof.Rows PyProof.V PySem.Spec
section
variable {prog : Program} {w : World} {K : Type} [DecidableEq K] {knd : KeyKind prog w K} {A : Around} {E : Value → Shared → Prop} {s : Shared}
theorem mt_neIn {a b : Addr} {ka kb : List (K × Value)} {r : Bool} {Q : Value → Shared → Prop} (ha : (a == sysModules) = false) (hb : (b == sysModules) = false)
    (da : s.heap.DictOf knd a ka) (db : s.heap.DictOf knd b kb) (hu : A.units < cLine) (hits : ka.length = kb.length → KeqHitsIn prog w A.in1 s kb ka r) (h : Q (.bool (!(ka.length == kb.length && r))) s) :
    wpAny (model prog w) A (compareOp .NotEq (.ref a) (.ref b)) Q E s := by
  refine wpAny_richCompare_same_room (op := .NotEq) da.typeIs db.typeIs PySem.F.slot_dict_ne (wpAny_call_entry PySem.F.slot_dict_ne da.typeIs PySem.F.entry_dict_ne ?_ (PySem.F.args_dict_ne_2 _ _)) hu
  show wpAny _ _ (Builtin.Dict.dictSlotArgs "__ne__" ⟨[.ref a, .ref b], []⟩ >>= _) _ _ s
  refine wpAny_bind ?_
  unfold Builtin.Dict.dictSlotArgs
  refine wpAny_bind (wpAny_notOrdered_dict da.typeIs ?_)
  show wpAny _ _ (pure (Value.ref a, Value.ref b)) _ _ s
  refine wpAny_pure ?_
  refine wpAny_bind (wpAny_isInstance (T := "dict") db.typeIs PySem.F.sub_dict_dict ?_)
  simp only [Bool.not_true, Bool.false_eq_true, if_false]
  refine wpAny_bind (wpAny_pure (wpAny_bind (wpAny_pure ?_)))
  refine wpAny_bind (keq_samePairsIn ha hb da db hits ?_)
  refine wpAny_pure ⟨_, rfl, ?_, ?_⟩
  · exact fun x => nomatch x
  · simpa using h
end
end PySem.W
namespace MT
open PySem PySem.Spec PyProof.Rows L2

/-- data: what a value comes to, without addresses -/
inductive D where
  | non | bl (b : Bool) | int (i : Int) | str (x : Str)
  | scr (ns : List Int)
  | lst (xs : List D) | tup (xs : List D)
  | dK (kvs : List (Key × D)) | dT (kvs : List (List Key × D))
  | obj (c : Nat) (fs : List (Nat × D))
/-- the classes' places, the fields' names -/
structure Nm where
  K : PySem.W.Frag
  ca : Nat → Addr
  fn : Nat → Str

/-- the script's list -/
def SqS (K : PySem.W.Frag) (F : Hp) (a : Addr) (ns : List Int) : Prop := (∃ o, F a = some (.frz o (.lst (ns.map V.int)))) ∨ ∀ H : Hp, SqL K H a (ns.map V.int)
section
variable (nm : Nm) (F : Hp)
mutual
/-- v stands for d, by what stands in F -/
inductive Rep : V → D → Prop
  | non : Rep .non .non
  | bl {b} : Rep (.bl b) (.bl b)
  | int {i} : Rep (.int i) (.int i)
  | str {x} : Rep (.str x) (.str x)
  | scr {a ns} : SqS nm.K F a ns → Rep (.ref a) (.scr ns)
  | lst {a vs ds} : F a = some (.lst vs) → RepL vs ds → Rep (.ref a) (.lst ds)
  | tup {a vs ds} : F a = some (.tup vs) → RepL vs ds → Rep (.ref a) (.tup ds)
  | dK {a kvs kds} : F a = some (.dK kvs) → kvs.map (·.1) = kds.map (·.1) → RepL (kvs.map (·.2)) (kds.map (·.2)) → Rep (.ref a) (.dK kds)
  | dT {a kvs kds} : F a = some (.dT kvs) → kvs.map (·.1) = kds.map (·.1) → RepL (kvs.map (·.2)) (kds.map (·.2)) → Rep (.ref a) (.dT kds)
  | obj {a dx c fvs fds} : F a = some (.ins (nm.ca c) dx fvs) → fvs.map (·.1) = fds.map (fun p => nm.fn p.1) → RepL (fvs.map (·.2)) (fds.map (·.2)) → Rep (.ref a) (.obj c fds)
inductive RepL : List V → List D → Prop
  | nil : RepL [] []
  | cons {v d vs ds} : Rep v d → RepL vs ds → RepL (v :: vs) (d :: ds)
end
end

/-- F tells no more than H does; dicts may be locked in H -/
def LeO (o : HO) (x : Option HO) : Prop := x = some o ∨ ((∃ kvs, o = .dK kvs) ∨ ∃ kvs, o = .dT kvs) ∧ ∃ ob, x = some (.frz ob o)
def Le (F H : Hp) : Prop := ∀ a o, F a = some o → LeO o (H a)
def Sub (F F' : Hp) : Prop := ∀ a o, F a = some o → F' a = some o
theorem Sub.refl (F : Hp) : Sub F F := fun _ _ h => h
theorem Sub.trans {F F1 F2 : Hp} (a : Sub F F1) (b : Sub F1 F2) : Sub F F2 := fun x o h => b x o (a x o h)
theorem LeO.ne {o x} (h : LeO o x) : x ≠ none := by
  rcases h with h | ⟨_, ob, h⟩ <;> rw [h] <;> exact fun z => nomatch z
theorem Le.rd {F H : Hp} (l : Le F H) {a o} (h : F a = some o) : Rd H a o := by
  rcases l a o h with q | ⟨_, ob, q⟩
  · exact .inl q
  · exact .inr ⟨ob, q⟩
theorem Le.lst {F H : Hp} (l : Le F H) {a vs} (h : F a = some (.lst vs)) : H a = some (.lst vs) := by
  rcases l a _ h with q | ⟨(⟨_, q⟩ | ⟨_, q⟩), _⟩
  · exact q
  · cases q
  · cases q
theorem Le.tup {F H : Hp} (l : Le F H) {a vs} (h : F a = some (.tup vs)) : H a = some (.tup vs) := by
  rcases l a _ h with q | ⟨(⟨_, q⟩ | ⟨_, q⟩), _⟩
  · exact q
  · cases q
  · cases q
theorem Le.ins {F H : Hp} (l : Le F H) {a C dx fs} (h : F a = some (.ins C dx fs)) : H a = some (.ins C dx fs) := by
  rcases l a _ h with q | ⟨(⟨_, q⟩ | ⟨_, q⟩), _⟩
  · exact q
  · cases q
  · cases q
theorem Le.scr {F H : Hp} (l : Le F H) {a o vs} (h : F a = some (.frz o (.lst vs))) : H a = some (.frz o (.lst vs)) := by
  rcases l a _ h with q | ⟨(⟨_, q⟩ | ⟨_, q⟩), _⟩
  · exact q
  · cases q
  · cases q

theorem SqS.mono {K : PySem.W.Frag} {F F' : Hp} {a : Addr} {ns : List Int} (h : SqS K F a ns) (s : Sub F F') : SqS K F' a ns := h.imp (fun ⟨o, e⟩ => ⟨o, s _ _ e⟩) id
theorem SqS.sq {K : PySem.W.Frag} {F H : Hp} {a : Addr} {ns : List Int} (h : SqS K F a ns) (l : Le F H) : SqL K H a (ns.map V.int) := by
  rcases h with ⟨o, e⟩ | h
  · exact .inl (.inr ⟨_, l.scr e⟩)
  · exact h H
section
variable {nm : Nm} {F F' H H' : Hp}
mutual
theorem Rep.mono (s : Sub F F') {v : V} {d : D} : Rep nm F v d → Rep nm F' v d
  | .non => .non
  | .bl => .bl
  | .int => .int
  | .str => .str
  | .scr h => .scr (h.mono s)
  | .lst h r => .lst (s _ _ h) (RepL.mono s r)
  | .tup h r => .tup (s _ _ h) (RepL.mono s r)
  | .dK h k r => .dK (s _ _ h) k (RepL.mono s r)
  | .dT h k r => .dT (s _ _ h) k (RepL.mono s r)
  | .obj h k r => .obj (s _ _ h) k (RepL.mono s r)
theorem RepL.mono (s : Sub F F') {vs : List V} {ds : List D} : RepL nm F vs ds → RepL nm F' vs ds
  | .nil => .nil
  | .cons r t => .cons (Rep.mono s r) (RepL.mono s t)
end
theorem RepL.length {vs : List V} {ds : List D} (r : RepL nm F vs ds) : vs.length = ds.length := by
  induction ds generalizing vs with
  | nil => cases r; rfl
  | cons d ds ih => cases r with | cons _ t => simp [ih t]
theorem RepL.append {vs ws : List V} {ds es : List D} (r : RepL nm F vs ds) (q : RepL nm F ws es) : RepL nm F (vs ++ ws) (ds ++ es) := by
  induction ds generalizing vs with
  | nil => cases r; exact q
  | cons d ds ih => cases r with | cons h t => exact .cons h (ih t)
theorem RepL.get {vs : List V} {ds : List D} (r : RepL nm F vs ds) {i : Nat} {d : D} (h : ds[i]? = some d) : ∃ v, vs[i]? = some v ∧ Rep nm F v d := by
  induction ds generalizing vs i with
  | nil => simp at h
  | cons e ds ih =>
    cases r with
    | cons h1 t =>
      cases i with
      | zero => simp at h; subst h; exact ⟨_, rfl, h1⟩
      | succ i => simpa using ih t (by simpa using h)
theorem RepL.getV {vs : List V} {ds : List D} (r : RepL nm F vs ds) {i : Nat} {v : V} (h : vs[i]? = some v) : ∃ d, ds[i]? = some d ∧ Rep nm F v d := by
  induction ds generalizing vs i with
  | nil => cases r; simp at h
  | cons e ds ih =>
    cases r with
    | cons h1 t =>
      cases i with
      | zero => simp at h; subst h; exact ⟨_, rfl, h1⟩
      | succ i => simpa using ih t (by simpa using h)
theorem RepL.take {vs : List V} {ds : List D} (r : RepL nm F vs ds) (n : Nat) : RepL nm F (vs.take n) (ds.take n) := by
  induction ds generalizing vs n with
  | nil => cases r; simp; exact .nil
  | cons e ds ih =>
    cases r with
    | cons h1 t =>
      cases n with
      | zero => exact .nil
      | succ n => exact .cons h1 (ih t n)
theorem RepL.drop {vs : List V} {ds : List D} (r : RepL nm F vs ds) (n : Nat) : RepL nm F (vs.drop n) (ds.drop n) := by
  induction ds generalizing vs n with
  | nil => cases r; simp; exact .nil
  | cons e ds ih =>
    cases r with
    | cons h1 t =>
      cases n with
      | zero => exact .cons h1 t
      | succ n => exact ih t n
theorem RepL.set {vs : List V} {ds : List D} (r : RepL nm F vs ds) {v : V} {d : D} (q : Rep nm F v d) (n : Nat) : RepL nm F (vs.set n v) (ds.set n d) := by
  induction ds generalizing vs n with
  | nil => cases r; simp; exact .nil
  | cons e ds ih =>
    cases r with
    | cons h1 t =>
      cases n with
      | zero => exact .cons q t
      | succ n => exact .cons h1 (ih t n)
theorem RepL.eraseIdx {vs : List V} {ds : List D} (r : RepL nm F vs ds) (n : Nat) : RepL nm F (vs.eraseIdx n) (ds.eraseIdx n) := by
  induction ds generalizing vs n with
  | nil => cases r; simp; exact .nil
  | cons e ds ih =>
    cases r with
    | cons h1 t =>
      cases n with
      | zero => exact t
      | succ n => exact .cons h1 (ih t n)
theorem RepL.dropLast {vs : List V} {ds : List D} (r : RepL nm F vs ds) : RepL nm F vs.dropLast ds.dropLast := by
  rw [List.dropLast_eq_take, List.dropLast_eq_take, r.length]
  exact r.take _
theorem RepL.reverse {vs : List V} {ds : List D} (r : RepL nm F vs ds) : RepL nm F vs.reverse ds.reverse := by
  induction ds generalizing vs with
  | nil => cases r; exact .nil
  | cons e ds ih =>
    cases r with
    | cons h1 t => simp only [List.reverse_cons]; exact (ih t).append (.cons h1 .nil)
/-- a list of ints, of texts, of truths -/
theorem RepL.ints : ∀ {vs : List V} {ns : List Int}, RepL nm F vs (ns.map D.int) → vs = ns.map V.int := by
  intro vs ns r
  induction ns generalizing vs with
  | nil => cases r; rfl
  | cons n ns ih => cases r with | cons h t => cases h; simp [ih t]
theorem RepL.strs : ∀ {vs : List V} {ns : List Str}, RepL nm F vs (ns.map D.str) → vs = ns.map V.str := by
  intro vs ns r
  induction ns generalizing vs with
  | nil => cases r; rfl
  | cons n ns ih => cases r with | cons h t => cases h; simp [ih t]
theorem RepL.bls : ∀ {vs : List V} {ns : List Bool}, RepL nm F vs (ns.map D.bl) → vs = ns.map V.bl := by
  intro vs ns r
  induction ns generalizing vs with
  | nil => cases r; rfl
  | cons n ns ih => cases r with | cons h t => cases h; simp [ih t]
theorem RepL.of_ints (ns : List Int) : RepL nm F (ns.map V.int) (ns.map D.int) := by
  induction ns with
  | nil => exact .nil
  | cons n ns ih => exact .cons .int ih
theorem RepL.of_strs (ns : List Str) : RepL nm F (ns.map V.str) (ns.map D.str) := by
  induction ns with
  | nil => exact .nil
  | cons n ns ih => exact .cons .str ih
end

section
variable (nm : Nm) (F H : Hp)
/-- what stands at a is as d says, its parts by F -/
def At (a : Addr) : D → Prop
  | .lst ds => ∃ vs, H a = some (.lst vs) ∧ RepL nm F vs ds
  | .dK kds => ∃ kvs, H a = some (.dK kvs) ∧ kvs.map (·.1) = kds.map (·.1) ∧ RepL nm F (kvs.map (·.2)) (kds.map (·.2))
  | .dT kds => ∃ kvs, H a = some (.dT kvs) ∧ kvs.map (·.1) = kds.map (·.1) ∧ RepL nm F (kvs.map (·.2)) (kds.map (·.2))
  | .obj c fds => ∃ dx fvs, H a = some (.ins (nm.ca c) dx fvs) ∧ fvs.map (·.1) = fds.map (fun p => nm.fn p.1) ∧ RepL nm F (fvs.map (·.2)) (fds.map (·.2))
  | _ => False
def Own (v : V) (d : D) : Prop := ∃ a, v = .ref a ∧ F a = none ∧ At nm F H a d
end
structure Val where
  d : D
  own : Bool
/-- a value's data -/
def ValR (nm : Nm) (F H : Hp) (v : V) (x : Val) : Prop := if x.own = true then Own nm F H v x.d else Rep nm F v x.d
/-- read data: owned or not -/
def DataR (nm : Nm) (F H : Hp) (v : V) (d : D) : Prop := Own nm F H v d ∨ Rep nm F v d
section
variable {nm : Nm} {F F' H H' : Hp} {v : V} {d : D} {x : Val} {a : Addr}
theorem ValR.data (h : ValR nm F H v x) : DataR nm F H v x.d := by
  unfold ValR at h
  split at h
  · exact .inl h
  · exact .inr h
theorem ValR.rep {d : D} (h : ValR nm F H v ⟨d, false⟩) : Rep nm F v d := h
theorem ValR.ownR {d : D} (h : ValR nm F H v ⟨d, true⟩) : Own nm F H v d := h
theorem ValR.of_rep (h : Rep nm F v d) : ValR nm F H v ⟨d, false⟩ := h
theorem ValR.of_own (h : Own nm F H v d) : ValR nm F H v ⟨d, true⟩ := h
theorem At.some (h : At nm F H a d) : ∃ o, H a = some o := by
  cases d with
  | lst _ => obtain ⟨_, h, _⟩ := h; exact ⟨_, h⟩
  | dK _ => obtain ⟨_, h, _⟩ := h; exact ⟨_, h⟩
  | dT _ => obtain ⟨_, h, _⟩ := h; exact ⟨_, h⟩
  | obj _ _ => obtain ⟨_, _, h, _⟩ := h; exact ⟨_, h⟩
  | _ => exact h.elim
theorem At.mono (h : At nm F H a d) (s : Sub F F') (k : H' a = H a) : At nm F' H' a d := by
  cases d with
  | lst _ => obtain ⟨_, h, r⟩ := h; exact ⟨_, by rw [k]; exact h, r.mono s⟩
  | dK _ => obtain ⟨_, h, q, r⟩ := h; exact ⟨_, by rw [k]; exact h, q, r.mono s⟩
  | dT _ => obtain ⟨_, h, q, r⟩ := h; exact ⟨_, by rw [k]; exact h, q, r.mono s⟩
  | obj _ _ => obtain ⟨_, _, h, q, r⟩ := h; exact ⟨_, _, by rw [k]; exact h, q, r.mono s⟩
  | _ => exact h.elim
/-- it becomes one that others may hold -/
theorem Own.share (h : Own nm F H v d) (l : Le F H) : ∃ a o, v = .ref a ∧ F a = none ∧ H a = some o ∧ Rep nm (upd F a o) v d ∧ Sub F (upd F a o) ∧ Le (upd F a o) H := by
  obtain ⟨a, rfl, n, h⟩ := h
  obtain ⟨o, e⟩ := h.some
  have s : Sub F (upd F a o) := fun b u q => by rw [upd_ne (ne_of_none q n)]; exact q
  refine ⟨a, o, rfl, n, e, ?_, s, fun b u q => ?_⟩
  · cases d with
    | lst _ => obtain ⟨_, h, r⟩ := h; rw [e] at h; cases h; exact .lst upd_same (r.mono s)
    | dK _ => obtain ⟨_, h, k, r⟩ := h; rw [e] at h; cases h; exact .dK upd_same k (r.mono s)
    | dT _ => obtain ⟨_, h, k, r⟩ := h; rw [e] at h; cases h; exact .dT upd_same k (r.mono s)
    | obj _ _ => obtain ⟨_, _, h, k, r⟩ := h; rw [e] at h; cases h; exact .obj upd_same k (r.mono s)
    | _ => exact h.elim
  · by_cases hb : b = a
    · subst hb; rw [upd_same] at q; cases q; exact .inl e
    · rw [upd_ne hb] at q; exact l b u q
end

abbrev AS := Addr → Prop
structure Step (S : AS) (F H : Hp) (S' : AS) (F' H' : Hp) : Prop where
  sub : Sub F F'
  new : ∀ a, F' a ≠ none → F a ≠ none ∨ H a = none ∨ S a
  keep : ∀ a o, H a = some o → ¬ S a → H' a = some o
  les : ∀ a, S' a → S a ∨ H a = none
  there : ∀ a, H' a = none → H a = none
theorem Step.refl {S : AS} {F H : Hp} : Step S F H S F H := ⟨Sub.refl _, fun _ h => .inl h, fun _ _ h _ => h, fun _ h => .inl h, fun _ h => h⟩
theorem Step.trans {S S1 S2 : AS} {F H F1 H1 F2 H2 : Hp} (a : Step S F H S1 F1 H1) (b : Step S1 F1 H1 S2 F2 H2) : Step S F H S2 F2 H2 := by
  refine ⟨a.sub.trans b.sub, fun x h => ?_, fun x o h ns => ?_, fun x h => ?_, fun x h => a.there x (b.there x h)⟩
  · rcases b.new x h with q | q | q
    · exact a.new x q
    · exact .inr (.inl (a.there x q))
    · rcases a.les x q with q | q
      · exact .inr (.inr q)
      · exact .inr (.inl q)
  · refine b.keep x o (a.keep x o h ns) fun q => ?_
    rcases a.les x q with q | q
    · exact ns q
    · rw [h] at q; cases q
  · rcases b.les x h with q | q
    · exact a.les x q
    · exact .inr (a.there x q)
/-- a step that changes nothing that stood -/
abbrev Ext (F H F' H' : Hp) : Prop := Le F' H' ∧ Step (fun _ => False) F H (fun _ => False) F' H'
theorem Step.wk {S S' : AS} {F H F' H' : Hp} (e : Step (fun _ => False) F H (fun _ => False) F' H') (l : ∀ a, S' a → S a) : Step S F H S' F' H' :=
  ⟨e.sub, fun a h => (e.new a h).imp id (.imp id False.elim), fun a o h _ => e.keep a o h id, fun a h => .inl (l a h), e.there⟩
theorem Ext.refl {F H : Hp} (l : Le F H) : Ext F H F H := ⟨l, Step.refl⟩
theorem Ext.trans {F H F1 H1 F2 H2 : Hp} (a : Ext F H F1 H1) (b : Ext F1 H1 F2 H2) : Ext F H F2 H2 := ⟨b.1, a.2.trans b.2⟩
/-- a new thing in H alone -/
theorem Ext.own {F H : Hp} (l : Le F H) {p : Addr} {o : HO} (n : H p = none) : Ext F H F (upd H p o) ∧ F p = none := by
  have fp : F p = none := by
    cases e : F p with
    | none => rfl
    | some u => exact absurd n (l p u e).ne
  refine ⟨⟨fun a u h => ?_, Sub.refl _, fun a h => .inl h, fun a u h _ => by rw [upd_ne (ne_of_none h n)]; exact h, fun a h => h.elim, fun a h => ?_⟩, fp⟩
  rotate_left
  · cases e : H a with
    | none => rfl
    | some u => rw [upd_ne (ne_of_none e n), e] at h; cases h
  rw [upd_ne (ne_of_none h fp)]
  exact l a u h
/-- a new thing in both -/
theorem Ext.shr {F H : Hp} (l : Le F H) {p : Addr} {o : HO} (n : H p = none) : Ext F H (upd F p o) (upd H p o) ∧ Sub F (upd F p o) := by
  obtain ⟨x, fp⟩ := Ext.own (o := o) l n
  have s : Sub F (upd F p o) := fun b u q => by rw [upd_ne (ne_of_none q fp)]; exact q
  refine ⟨⟨fun a u h => ?_, s, fun a h => ?_, x.2.keep, fun a h => h.elim, x.2.there⟩, s⟩
  · by_cases ha : a = p
    · subst ha; rw [upd_same] at h ⊢; exact .inl h
    · rw [upd_ne ha] at h; exact x.1 a u h
  · by_cases ha : a = p
    · subst ha; exact .inr (.inl n)
    · rw [upd_ne ha] at h; exact .inl h
section
variable {nm : Nm} {F F' H H' : Hp} {v : V} {d : D} {x : Val} {S S' : AS}
theorem Own.step (h : Own nm F H v d) (e : Step S F H S' F' H') (ns : ∀ a, v = .ref a → ¬ S a) : Own nm F' H' v d := by
  obtain ⟨a, rfl, n, h⟩ := h
  obtain ⟨o, q⟩ := h.some
  refine ⟨a, rfl, ?_, h.mono e.sub (by rw [q]; exact e.keep a o q (ns a rfl))⟩
  cases f : F' a with
  | none => rfl
  | some u =>
    rcases e.new a (by rw [f]; exact fun z => nomatch z) with z | z | z
    · exact absurd n z
    · rw [q] at z; cases z
    · exact absurd z (ns a rfl)
theorem DataR.step (h : DataR nm F H v d) (e : Step S F H S' F' H') (ns : ∀ a, v = .ref a → ¬ S a) : DataR nm F' H' v d := h.imp (fun h => h.step e ns) fun h => h.mono e.sub
theorem DataR.ext (h : DataR nm F H v d) (e : Ext F H F' H') : DataR nm F' H' v d := h.step e.2 fun _ _ => id
theorem ValR.step (h : ValR nm F H v x) (e : Step S F H S' F' H') (ns : x.own = true → ∀ a, v = .ref a → ¬ S a) : ValR nm F' H' v x := by
  unfold ValR at h ⊢
  split
  · rename_i t; rw [if_pos t] at h; exact h.step e (ns t)
  · rename_i t; rw [if_neg t] at h; exact h.mono e.sub
end
end MT
namespace MT
open PySem PySem.Spec PyProof.Rows L2

def keyD : D → Option Key
  | .int i => some (.inl i)
  | .str x => some (.inr x)
  | _ => none
def dKey : Key → D
  | .inl i => .int i
  | .inr x => .str x
def keysD : List D → Option (List Key)
  | [] => some []
  | d :: ds => (keyD d).bind fun k => (keysD ds).map (k :: ·)
def flatD : D → Bool
  | .non | .bl _ | .int _ | .str _ => true
  | _ => false
/-- of no changeable thing of its own: what an owner may give out again -/
def plainD : D → Bool
  | .non | .bl _ | .int _ | .str _ => true
  | .lst xs => xs.all flatD
  | .obj _ fs => fs.all fun p => flatD p.2
  | _ => false
def getA {κ α : Type} [DecidableEq κ] : List (κ × α) → κ → Option α
  | [], _ => none
  | p :: r, k => if p.1 = k then some p.2 else getA r k
def setA {κ α : Type} [DecidableEq κ] : List (κ × α) → κ → α → List (κ × α)
  | [], k, v => [(k, v)]
  | p :: r, k, v => if p.1 = k then (p.1, v) :: r else p :: setA r k v
def putA {κ α : Type} [DecidableEq κ] (l : List (κ × α)) (k : κ) (v : α) : List (κ × α) := if (l.any fun p => decide (p.1 = k)) = true then l.map (fun p => if p.1 = k then (p.1, v) else p) else l ++ [(k, v)]
def dropA {κ α : Type} [DecidableEq κ] (l : List (κ × α)) (k : κ) : List (κ × α) := l.filter fun p => decide (p.1 ≠ k)

def eqL (f : D → D → Option Bool) : List D → List D → Option Bool
  | [], [] => some true
  | x :: xs, y :: ys => (f x y).bind fun b => (eqL f xs ys).map (b && ·)
  | _, _ => some false
def eqK (f : D → D → Option Bool) : List (Key × D) → List (Key × D) → Option Bool
  | [], _ => some true
  | p :: r, ys => match getA ys p.1 with
    | none => (eqK f r ys).map fun _ => false
    | some e => (f p.2 e).bind fun b => (eqK f r ys).map (b && ·)
def eqF : D → D → Option Bool
  | .non, .non => some true
  | .bl a, .bl b => some (a == b)
  | .int a, .int b => some (a == b)
  | .str a, .str b => some (a == b)
  | .non, .bl _ | .non, .int _ | .non, .str _ | .bl _, .non | .bl _, .str _ | .int _, .non | .int _, .str _ | .str _, .non | .str _, .bl _ | .str _, .int _ => some false
  | _, _ => none
def eqN : Nat → D → D → Option Bool
  | 0, a, b => eqF a b
  | n + 1, a, b => match a, b with
    | .lst xs, .lst ys => if xs.length = ys.length then eqL (eqN n) xs ys else some false
    | .tup xs, .tup ys => eqL (eqN n) xs ys
    | .dK xs, .dK ys => (eqK (eqN n) xs ys).map fun b => xs.length == ys.length && b
    | a, b => eqF a b
/-- ==, none where it isn't told -/
def eqD (a b : D) : Option Bool := eqN 50 a b
/-- x in xs, of flat things -/
def eqG : D → D → Bool
  | .non, .non => true
  | .bl a, .bl b => a == b
  | .bl a, .int b => (if a then 1 else 0) == b
  | .int a, .bl b => a == (if b then 1 else 0)
  | .int a, .int b => a == b
  | .str a, .str b => a == b
  | _, _ => false
def memD (x : D) (xs : List D) : Option Bool := if flatD x = true ∧ xs.all flatD = true then some (xs.any fun y => eqG y x) else none

def strLt (a b : Str) : Bool := decide (a.cps.toList < b.cps.toList)
def cmpD (op : CmpOp) (a b : D) : Option Bool :=
  match op with
  | .Eq => eqD a b
  | .NotEq => (eqD a b).map (!·)
  | .Lt => match a, b with
    | .int i, .int j => some (decide (i < j))
    | .str x, .str y => some (strLt x y)
    | _, _ => none
  | .LtE => match a, b with
    | .int i, .int j => some (decide (i ≤ j))
    | _, _ => none
  | .Gt => match a, b with
    | .int i, .int j => some (decide (j < i))
    | _, _ => none
  | .GtE => match a, b with
    | .int i, .int j => some (decide (j ≤ i))
    | _, _ => none
  | .In => match b with
    | .lst xs => memD a xs
    | .tup xs => memD a xs
    | .dK kvs => (keyD a).map fun k => (getA kvs k).isSome
    | .dT kvs => match a with
      | .tup ks => (keysD ks).map fun k => (getA kvs k).isSome
      | _ => none
    | _ => none
  | .NotIn => match b with
    | .lst xs => (memD a xs).map (!·)
    | .tup xs => (memD a xs).map (!·)
    | .dK kvs => (keyD a).map fun k => !(getA kvs k).isSome
    | .dT kvs => match a with
      | .tup ks => (keysD ks).map fun k => !(getA kvs k).isSome
      | _ => none
    | _ => none
  | .Is => match a, b with
    | .non, .non => some true
    | .bl x, .bl y => some (decide (x = y))
    | .non, .bl _ | .bl _, .non => some false
    | .int _, .non | .str _, .non | .lst _, .non | .tup _, .non | .dK _, .non | .obj _ _, .non => some false
    | _, _ => none
  | .IsNot => match a, b with
    | .non, .non => some false
    | .bl x, .bl y => some (!decide (x = y))
    | .non, .bl _ | .bl _, .non => some true
    | .int _, .non | .str _, .non | .lst _, .non | .tup _, .non | .dK _, .non | .obj _ _, .non => some true
    | _, _ => none

/-- the lengths that are kept -/
abbrev lineD : Nat := 16777216
def smallI (i : Int) : Bool := decide (-(2 ^ 64) < i) && decide (i < 2 ^ 64)
def binD (op : Operator) (a b : D) : Option Val :=
  match op, a, b with
  | .Add, .int i, .int j => some ⟨.int (i + j), false⟩
  | .Sub, .int i, .int j => some ⟨.int (i - j), false⟩
  | .Mult, .int i, .int j => if smallI i || smallI j then some ⟨.int (i * j), false⟩ else none
  | .FloorDiv, .int i, .int j => if 0 < j ∧ j < 2 ^ 2000 then some ⟨.int (i / j), false⟩ else none
  | .Mod, .int i, .int j => if 0 < j then some ⟨.int (i % j), false⟩ else none
  | .Pow, .int i, .int j => if 0 ≤ j ∧ j ≤ 1000000 ∧ i.natAbs < 2 ^ 64 then some ⟨.int (i ^ j.toNat), false⟩ else none
  | .Add, .str x, .str y => if x.length + y.length ≤ lineD then some ⟨.str (x ++ y), false⟩ else none
  | .Add, .lst xs, .lst ys => if xs.length + ys.length ≤ lineD then some ⟨.lst (xs ++ ys), true⟩ else none
  | .Add, .tup xs, .tup ys => if xs.length + ys.length ≤ lineD then some ⟨.tup (xs ++ ys), false⟩ else none
  | _, _, _ => none
/-- an item; a text's sign -/
def ixD (a i : D) : Option D :=
  match a, i with
  | .lst xs, .int i => atI xs i
  | .tup xs, .int i => atI xs i
  | .scr xs, .int i => (atI xs i).map D.int
  | .str z, .int i => if z.length ≤ lineD then (atI z.cps.toList i).map fun c => .str ⟨#[c]⟩ else none
  | .dK kvs, k => (keyD k).bind fun k => getA kvs k
  | _, _ => none
def cutD {α : Type} (xs : List α) (lo hi : Option Int) : List α := (xs.drop (HT.sIx xs.length 0 lo)).take (HT.sIx xs.length xs.length hi - HT.sIx xs.length 0 lo)
def slD (a : D) (lo hi : Option Int) : Option Val :=
  match a with
  | .lst xs => some ⟨.lst (cutD xs lo hi), true⟩
  | .scr xs => some ⟨.lst ((cutD xs lo hi).map D.int), true⟩
  | .str z => if z.length ≤ lineD then some ⟨.str (cutS z lo hi), false⟩ else none
  | _ => none
/-- insertion, for sorted -/
def insI (x : Int) : List Int → List Int
  | [] => [x]
  | y :: ys => if x ≤ y then x :: y :: ys else y :: insI x ys
def sortI : List Int → List Int
  | [] => []
  | x :: xs => insI x (sortI xs)
def intsD : List D → Option (List Int)
  | [] => some []
  | .int i :: r => (intsD r).map (i :: ·)
  | _ => none
def strsD : List D → Option (List Str)
  | [] => some []
  | .str i :: r => (strsD r).map (i :: ·)
  | _ => none
def blsD : List D → Option (List Bool)
  | [] => some []
  | .bl i :: r => (blsD r).map (i :: ·)
  | _ => none
def lenD : D → Option Nat
  | .lst xs => some xs.length
  | .tup xs => some xs.length
  | .scr xs => some xs.length
  | .str z => if z.length ≤ lineD then some z.length else none
  | .dK kvs => some kvs.length
  | _ => none
inductive BI where
  | len | sorted | list | dict | max2 | min2 | sum | any | all
def biD (b : BI) (ds : List D) : Option Val :=
  match b, ds with
  | .len, [d] => (lenD d).map fun n => ⟨.int n, false⟩
  | .sorted, [.lst ds] => (intsD ds).map fun ns => ⟨.lst ((sortI ns).map D.int), true⟩
  | .list, [.lst ds] => some ⟨.lst ds, true⟩
  | .list, [.tup ds] => some ⟨.lst ds, true⟩
  | .dict, [.dK kvs] => some ⟨.dK kvs, true⟩
  | .max2, [.int i, .int j] => some ⟨.int (if j > i then j else i), false⟩
  | .min2, [.int i, .int j] => some ⟨.int (if j < i then j else i), false⟩
  | .sum, [.lst ds] => (intsD ds).map fun ns => ⟨.int ns.sum, false⟩
  | .any, [.lst ds] => (blsD ds).map fun ns => ⟨.bl (ns.any id), false⟩
  | .all, [.lst ds] => (blsD ds).map fun ns => ⟨.bl (ns.all id), false⟩
  | _, _ => none
/-- a change of one's own thing: what it becomes, what is told -/
inductive MI where
  | append | insert | popAt | put
def muD (m : MI) (a : D) (ds : List D) : Option (D × D) :=
  match m, a, ds with
  | .append, .lst xs, [d] => if xs.length < lineD then some (.lst (xs ++ [d]), .non) else none
  | .put, .dK kvs, [k, v] => (keyD k).bind fun k => if kvs.length < lineD then some (.dK (putA kvs k v), .non) else none
  | .put, .lst xs, [.int k, v] => (ixN xs.length k).map fun j => (.lst (xs.set j v), .non)
  | _, _, _ => none
/-- of which sort: a built-in's name, an own class -/
inductive Ty where
  | str | int | bool | list | tuple | dict | cls (c : Nat)

inductive ItK where
  | seq | tupl | text | range1 | range2 | enum | zip | values | items | rev
mutual
inductive IT where
  | nm (i : Nat) | tp (ts : ITs)
inductive ITs where
  | nil | cons (t : IT) (ts : ITs)
end
mutual
inductive IE where
  | cst (d : D) | var (i : Nat) | neg (a : IE)
  | not (a : IE) | and (a b : IE) | or (a b : IE) | ite (c a b : IE)
  | bin (op : Operator) (a b : IE) | cmp (op : CmpOp) (a b : IE)
  | lst (es : IEs) | tup (es : IEs) | dct (es : IEs) | dctT
  | ix (a i : IE) | sl00 (a : IE) | sl10 (a lo : IE) | sl01 (a hi : IE) | sl11 (a lo hi : IE)
  | fld (a : IE) (f : Nat)
  | bi (b : BI) (es : IEs) | isi (a : IE) (ts : List Ty)
  | get2 (a k d : IE)
  | call (j : Nat) (es : IEs) | mk (c : Nat) (es : IEs) | meth (a : IE) (m : Nat) (es : IEs)
  | mu (i : Nat) (m : MI) (es : IEs)
  | lc (own : List Nat) (tg : IT) (k : ItK) (it : IEs) (ifs : IEs) (elt : IE)
inductive IEs where
  | nil | cons (e : IE) (es : IEs)
end
mutual
inductive IS where
  | expr (e : IE) | asg (t : IT) (e : IE) | put (i : Nat) (k v : IE) | setF (i : Nat) (f : Nat) (v : IE)
  | ret (e : IE) | ite (c : IE) (a b : ISs)
  | loop (t : IT) (k : ItK) (it : IEs) (body : ISs) | whl (c : IE) (body : ISs)
  | brk | cont | pass | aug (i : Nat) (op : Operator) (e : IE) | never
  | raise (c : Nat) (es : IEs)
inductive ISs where
  | nil | cons (s : IS) (ss : ISs)
end

abbrev Env := List (Option Val)
structure Exc where
  c : Nat
  fs : List (Nat × D)
inductive R (α : Type) where
  | ok (a : α) (e : Env) | exc (x : Exc) (e : Env) | stuck
def R.bind {α β : Type} (r : R α) (f : α → Env → R β) : R β := match r with
  | .ok a e => f a e
  | .exc x e => .exc x e
  | .stuck => .stuck
/-- pure results into it -/
def R.opt {α : Type} (o : Option α) (e : Env) : R α := match o with
  | some a => .ok a e
  | none => .stuck
inductive CR where
  | ok (v : Val) (outs : List D) | exc (x : Exc) | stuck
structure CT where
  call : Nat → List D → CR
  io : Nat → List Bool
  meth : Nat → Nat → Option Nat
  init : Nat → Option Nat
  isa : Nat → Nat → Bool
  wf : Nat

def slot (env : Env) (i : Nat) : Option Val := match env[i]? with
  | some o => o
  | none => none
def share (env : Env) (i : Nat) : Env := match slot env i with
  | some v => env.set i (some ⟨v.d, false⟩)
  | none => env
inductive Opd where
  | tmp (v : Val) | rd (i : Nat)
def Opd.get (o : Opd) (env : Env) : Option D := match o with
  | .tmp v => some v.d
  | .rd i => (slot env i).map (·.d)
def Opd.slot : Opd → Option Nat
  | .tmp _ => none
  | .rd i => some i
def mkO (a : IE) (r : Env → R Val) (env : Env) : R Opd := match a with
  | .var i => match slot env i with
    | some _ => .ok (.rd i) env
    | none => .stuck
  | _ => (r env).bind fun v e => .ok (.tmp v) e
def getsO : List Opd → Env → Option (List D)
  | [], _ => some []
  | o :: os, env => (o.get env).bind fun d => (getsO os env).map (d :: ·)
/-- which operands are handed over to be changed: their slots -/
def ioOk : List Bool → List Opd → Env → Bool
  | [], os, _ => true
  | true :: bs, .rd i :: os, env => (match slot env i with
    | some v => v.own
    | none => false) && ioOk bs os env
  | true :: _, _, _ => false
  | false :: bs, _ :: os, env => ioOk bs os env
  | false :: _, [], _ => true
def ioSlots : List Bool → List Opd → List Nat
  | true :: bs, .rd i :: os => i :: ioSlots bs os
  | _ :: bs, _ :: os => ioSlots bs os
  | _, _ => []
def noSlots : List Bool → List Opd → List Nat
  | true :: bs, _ :: os => noSlots bs os
  | _ :: bs, .rd i :: os => i :: noSlots bs os
  | _ :: bs, _ :: os => noSlots bs os
  | [], .rd i :: os => i :: noSlots [] os
  | [], _ :: os => noSlots [] os
  | _, [] => []
def shares (env : Env) (is : List Nat) : Env := is.foldl share env
def putsO (env : Env) : List Nat → List D → Env
  | i :: is, d :: ds => putsO (env.set i (some ⟨d, true⟩)) is ds
  | _, _ => env
def killO (env : Env) (is : List Nat) : Env := is.foldl (fun e i => e.set i none) env
def callO (Φ : CT) (j : Nat) (os : List Opd) (env : Env) : R Val :=
  let ios := ioSlots (Φ.io j) os
  let nos := noSlots (Φ.io j) os
  if ioOk (Φ.io j) os env = true ∧ ios.Nodup ∧ (∀ i ∈ ios, i ∉ nos) then
    match getsO os env with
    | none => .stuck
    | some ds => match Φ.call j ds with
      | .ok v outs => if outs.length = ios.length then
          (if v.own = false ∧ flatD v.d = true ∧ outs.all plainD = true then .ok v (putsO env ios outs) else .ok v (putsO (shares env nos) ios outs)) else .stuck
      | .exc x => .exc x (killO (shares env nos) ios)
      | .stuck => .stuck
  else .stuck
def intR {α : Type} (v : Val) (f : Int → R α) : R α := match v.d with
  | .int i => f i
  | _ => .stuck
def boolR {α : Type} (v : Val) (f : Bool → R α) : R α := match v.d with
  | .bl b => f b
  | _ => .stuck

def pairsE (n : Nat) : List D → List D
  | [] => []
  | d :: ds => .tup [.int n, d] :: pairsE (n + 1) ds
def zipD : List D → List D → List D
  | x :: xs, y :: ys => .tup [x, y] :: zipD xs ys
  | _, _ => []
def big62 (j : Int) : Bool := decide (-(2 ^ 62) ≤ j) && decide (j < 2 ^ 62)
def rangeD (lo : Int) (n : Nat) : List D := (List.range n).map fun i => .int (lo + (i : Nat))
def itemsD (k : ItK) (ds : List D) : Option (List D) :=
  match k, ds with
  | .seq, [.lst xs] => some xs
  | .tupl, [.tup xs] => some xs
  | .seq, [.scr ns] => some (ns.map D.int)
  | .text, [.str z] => some (z.cps.toList.map fun c => .str ⟨#[c]⟩)
  | .range1, [.int j] => if big62 j then some (rangeD 0 j.toNat) else none
  | .range2, [.int i, .int j] => if big62 i && big62 j then some (rangeD i (j - i).toNat) else none
  | .enum, [.lst xs] => some (pairsE 0 xs)
  | .zip, [.lst xs, .lst ys] => some (zipD xs ys)
  | .rev, [.lst xs] => some xs.reverse
  | _, _ => none
mutual
def asgT (io : List Nat) : IT → D → Env → Option Env
  | .nm i, d, env => if i ∈ io ∨ env.length ≤ i then none else some (env.set i (some ⟨d, false⟩))
  | .tp ts, .tup ds, env => asgTs io ts ds env
  | .tp ts, .lst ds, env => asgTs io ts ds env
  | .tp _, _, _ => none
def asgTs (io : List Nat) : ITs → List D → Env → Option Env
  | .nil, [], env => some env
  | .cons t ts, d :: ds, env => (asgT io t d env).bind fun e => asgTs io ts ds e
  | _, _, _ => none
end
def wipeE (env : Env) (is : List Nat) : Env := is.foldl (fun e i => e.set i none) env
def backE (env old : Env) (is : List Nat) : Env := is.foldl (fun e i => e.set i (slot old i)) env
/-- what the operands are walked as -/
def itR (k : ItK) (os : List Opd) (e : Env) : R (List D) := match (getsO os e).bind (itemsD k) with
  | some items => .ok items (shares e (noSlots [] os))
  | none => .stuck
/-- what may be changed so -/
def preM (m : MI) (d : D) : Bool := match m, d with
  | .append, .lst _ => true
  | .insert, .lst _ => true
  | .popAt, .lst _ => true
  | _, _ => false
/-- the turns of a comprehension -/
def lcL (own : List Nat) (t : D → Env → R (Option D)) : List D → Env → R (List D)
  | [], e => .ok [] e
  | d :: ds, e => match t d e with
    | .ok o e1 => (lcL own t ds (wipeE e1 own)).bind fun r e2 => .ok (match o with
      | some y => y :: r
      | none => r) e2
    | _ => .stuck

def isTy (Φ : CT) (d : D) : Ty → Bool
  | .str => match d with
    | .str _ => true
    | _ => false
  | .int => match d with
    | .int _ => true
    | .bl _ => true
    | _ => false
  | .bool => match d with
    | .bl _ => true
    | _ => false
  | .list => match d with
    | .lst _ => true
    | .scr _ => true
    | _ => false
  | .tuple => match d with
    | .tup _ => true
    | _ => false
  | .dict => match d with
    | .dK _ => true
    | .dT _ => true
    | _ => false
  | .cls c => match d with
    | .obj c' _ => Φ.isa c' c
    | _ => false
def noCls : Ty → Bool
  | .cls _ => false
  | _ => true
/-- what may be asked of -/
def isiOk (d : D) (ts : List Ty) : Bool := ts.all noCls && (match d with
  | .dT _ => false
  | .obj _ _ => false
  | .scr _ => false
  | _ => true)
/-- a display of pairs: k, v, k, v, .. -/
def pairsD (acc : List (Key × D)) : List D → Option (List (Key × D))
  | [] => some acc
  | k :: v :: r => (keyD k).bind fun k => pairsD (setA acc k v) r
  | _ => none
mutual
def ev (Φ : CT) (io : List Nat) : IE → Env → R Val
  | .cst d, e => .ok ⟨d, false⟩ e
  | .var i, e => match slot e i with
    | some v => if v.own = true ∧ i ∈ io then .stuck else .ok ⟨v.d, false⟩ (share e i)
    | none => .stuck
  | .neg a, e => (ev Φ io a e).bind fun v e => match v.d with
    | .int i => .ok ⟨.int (-i), false⟩ e
    | _ => .stuck
  | .not a, e => (ev Φ io a e).bind fun v e => boolR v fun b => .ok ⟨.bl (!b), false⟩ e
  | .and a b, e => (ev Φ io a e).bind fun v e => boolR v fun c => if c = true then ev Φ io b e else .ok ⟨.bl false, false⟩ e
  | .or a b, e => (ev Φ io a e).bind fun v e => boolR v fun c => if c = true then .ok ⟨.bl true, false⟩ e else ev Φ io b e
  | .ite c a b, e => (ev Φ io c e).bind fun v e => boolR v fun c => if c = true then ev Φ io a e else ev Φ io b e
  | .bin op a b, e => (mkO a (ev Φ io a) e).bind fun x e => (mkO b (ev Φ io b) e).bind fun y e =>
      match x.get e, y.get e with
      | some dx, some dy => R.opt (binD op dx dy) e
      | _, _ => .stuck
  | .cmp op a b, e => (mkO a (ev Φ io a) e).bind fun x e => (mkO b (ev Φ io b) e).bind fun y e =>
      match x.get e, y.get e with
      | some dx, some dy => R.opt ((cmpD op dx dy).map fun b => ⟨.bl b, false⟩) e
      | _, _ => .stuck
  | .lst es, e => (evs Φ io es e).bind fun ds e => if ds.length ≤ lineD then .ok ⟨.lst ds, true⟩ e else .stuck
  | .tup es, e => (evs Φ io es e).bind fun ds e => if ds.length ≤ lineD then .ok ⟨.tup ds, false⟩ e else .stuck
  | .dct es, e => (evs Φ io es e).bind fun ds e => R.opt ((pairsD [] ds).map fun kvs => ⟨.dK kvs, true⟩) e
  | .dctT, e => .ok ⟨.dT [], true⟩ e
  | .ix a i, e => (mkO a (ev Φ io a) e).bind fun x e => (mkO i (ev Φ io i) e).bind fun y e =>
      match x.get e, y.get e with
      | some dx, some dy => R.opt ((ixD dx dy).map fun d => ⟨d, false⟩) e
      | _, _ => .stuck
  | .sl00 a, e => (mkO a (ev Φ io a) e).bind fun x e => match x.get e with
      | some dx => R.opt (slD dx none none) e
      | _ => .stuck
  | .sl10 a lo, e => (mkO a (ev Φ io a) e).bind fun x e => (ev Φ io lo e).bind fun l e => intR l fun l => match x.get e with
      | some dx => R.opt (slD dx (some l) none) e
      | _ => .stuck
  | .sl01 a hi, e => (mkO a (ev Φ io a) e).bind fun x e => (ev Φ io hi e).bind fun l e => intR l fun l => match x.get e with
      | some dx => R.opt (slD dx none (some l)) e
      | _ => .stuck
  | .sl11 a lo hi, e => (mkO a (ev Φ io a) e).bind fun x e => (ev Φ io lo e).bind fun l e => intR l fun l => (ev Φ io hi e).bind fun h e => intR h fun h => match x.get e with
      | some dx => R.opt (slD dx (some l) (some h)) e
      | _ => .stuck
  | .fld a f, e => (mkO a (ev Φ io a) e).bind fun x e => match x.get e with
      | some (.obj _ fs) => R.opt ((getA fs f).map fun d => ⟨d, false⟩) e
      | _ => .stuck
  | .bi b es, e => (evo Φ io es e).bind fun os e => R.opt ((getsO os e).bind (biD b)) e
  | .isi a ts, e => (mkO a (ev Φ io a) e).bind fun x e => match x.get e with
      | some d => if isiOk d ts = true then .ok ⟨.bl (ts.any (isTy Φ d)), false⟩ e else .stuck
      | _ => .stuck
  | .get2 a k d, e => (mkO a (ev Φ io a) e).bind fun x e => (ev Φ io k e).bind fun k e => (ev Φ io d e).bind fun d e => match x.get e, keyD k.d with
      | some (.dK kvs), some k => .ok ⟨(getA kvs k).getD d.d, false⟩ e
      | _, _ => .stuck
  | .call j es, e => (evo Φ io es e).bind fun os e => callO Φ j os e
  | .mk c es, e => (evo Φ io es e).bind fun os e => match Φ.init c with
      | some j => match getsO os e with
        | some ds => match Φ.call j (.obj c [] :: ds) with
          | .ok v [o] => if Φ.io j = [true] ∧ v.own = false then (match v.d with
            | .non => .ok ⟨o, true⟩ (shares e (noSlots [] os))
            | _ => .stuck) else .stuck
          | _ => .stuck
        | none => .stuck
      | none => .stuck
  | .meth a m es, e => (mkO a (ev Φ io a) e).bind fun x e => (evo Φ io es e).bind fun os e => match x.get e with
      | some (.obj c _) => match Φ.meth c m with
        | some j => callO Φ j (x :: os) e
        | none => .stuck
      | _ => .stuck
  | .mu i m es, e => match slot e i with
      | some v0 => if v0.own = true ∧ preM m v0.d = true then (evs Φ io es e).bind fun ds e => (match slot e i with
          | some v => if v.own = true then (match muD m v.d ds with
            | some (d', r) => .ok ⟨r, false⟩ (e.set i (some ⟨d', true⟩))
            | none => .stuck) else .stuck
          | none => .stuck) else .stuck
      | none => .stuck
  | .lc own tg k it ifs elt, e => ((evo Φ io it e).bind fun os e => itR k os e).bind fun items e1 =>
      if items.length < lineD ∧ (∀ i ∈ own, i ∉ io ∧ i < e1.length) then
          (lcL own (fun d en => match asgT io tg d en with
            | some en => (evt Φ io ifs en).bind fun b en => if b = true then (ev Φ io elt en).bind fun v en => .ok (some v.d) en else .ok none en
            | none => .stuck) items (wipeE e1 own)).bind fun ds e2 => .ok ⟨.lst ds, true⟩ (backE e2 e1 own)
        else .stuck
/-- values, one after another: they go into a new thing -/
def evs (Φ : CT) (io : List Nat) : IEs → Env → R (List D)
  | .nil, e => .ok [] e
  | .cons a es, e => (ev Φ io a e).bind fun v e => (evs Φ io es e).bind fun ds e => .ok (v.d :: ds) e
/-- operands -/
def evo (Φ : CT) (io : List Nat) : IEs → Env → R (List Opd)
  | .nil, e => .ok [] e
  | .cons a es, e => (mkO a (ev Φ io a) e).bind fun x e => (evo Φ io es e).bind fun os e => .ok (x :: os) e
/-- tests, all of them -/
def evt (Φ : CT) (io : List Nat) : IEs → Env → R Bool
  | .nil, e => .ok true e
  | .cons a _, e => (ev Φ io a e).bind fun v e => boolR v fun b => .ok b e
end

inductive Xr where
  | nx (e : Env) | rt (v : Val) (e : Env) | bk (e : Env) | ct (e : Env) | exc (x : Exc) (e : Env) | stuck
def R.x {α : Type} (r : R α) (f : α → Env → Xr) : Xr := match r with
  | .ok a e => f a e
  | .exc x e => .exc x e
  | .stuck => .stuck
def forL (t : D → Env → Xr) : List D → Env → Xr
  | [], e => .nx e
  | d :: ds, e => match t d e with
    | .nx e => forL t ds e
    | .ct e => forL t ds e
    | .bk e => .nx e
    | r => r
def whileL (c : Env → R Val) (t : Env → Xr) : Nat → Env → Xr
  | 0, _ => .stuck
  | n + 1, e => (c e).x fun v e => match v.d with
    | .bl true => (match t e with
      | .nx e => whileL c t n e
      | .ct e => whileL c t n e
      | .bk e => .nx e
      | r => r)
    | .bl false => .nx e
    | _ => .stuck
/-- a name is given a value: an own one stays own -/
def setV (io : List Nat) (i : Nat) (v : Val) (e : Env) : Xr := if i ∈ io ∨ e.length ≤ i then .stuck else .nx (e.set i (some v))
mutual
def ex (Φ : CT) (io : List Nat) : IS → Env → Xr
  | .expr a, e => (ev Φ io a e).x fun _ e => .nx e
  | .asg (.nm i) a, e => (ev Φ io a e).x fun v e => setV io i v e
  | .asg t a, e => (ev Φ io a e).x fun v e => match asgT io t v.d e with
    | some e => .nx e
    | none => .stuck
  | .put i k v, e => (ev Φ io v e).x fun v e => if (slot e i).isSome = true then (ev Φ io k e).x fun k e => (match slot e i with
    | some s => if s.own = true then (match muD .put s.d [k.d, v.d] with
      | some (d', _) => .nx (e.set i (some ⟨d', true⟩))
      | none => .stuck) else .stuck
    | none => .stuck) else .stuck
  | .setF i f v, e => (ev Φ io v e).x fun v e => match slot e i with
    | some ⟨.obj c fs, true⟩ => if fs.length < 900 then .nx (e.set i (some ⟨.obj c (setA fs f v.d), true⟩)) else .stuck
    | _ => .stuck
  | .ret a, e => match a with
    | .var i => (match slot e i with
      | some v => if i ∈ io then .stuck else .rt v e
      | none => .stuck)
    | a => (ev Φ io a e).x fun v e => .rt v e
  | .ite c a b, e => (ev Φ io c e).x fun v e => match v.d with
    | .bl true => exs Φ io a e
    | .bl false => exs Φ io b e
    | _ => .stuck
  | .loop t k it body, e => ((evo Φ io it e).bind fun os e => itR k os e).x fun items e => forL (fun d e => match asgT io t d e with
        | some e => exs Φ io body e
        | none => .stuck) items e
  | .whl c body, e => whileL (ev Φ io c) (exs Φ io body) Φ.wf e
  | .brk, e => .bk e
  | .cont, e => .ct e
  | .pass, e => .nx e
  | .aug i op a, e => match slot e i with
    | some v => (ev Φ io a e).x fun y e => (match op, v.d, y.d with
      | .Add, .int m, .int n => setV io i ⟨.int (m + n), false⟩ e
      | .Sub, .int m, .int n => setV io i ⟨.int (m - n), false⟩ e
      | _, _, _ => .stuck)
    | none => .stuck
  | .never, _ => .stuck
  | .raise c es, e => (evs Φ io es e).x fun ds e => match es with
    | .nil => .exc ⟨c, []⟩ e
    | _ => .stuck
def exs (Φ : CT) (io : List Nat) : ISs → Env → Xr
  | .nil, e => .nx e
  | .cons s ss, e => match ex Φ io s e with
    | .nx e => exs Φ io ss e
    | r => r
end

structure DefI where
  nps : Nat
  nsl : Nat
  io : List Bool
  body : ISs
/-- the places of the trues -/
def ioIx : Nat → List Bool → List Nat
  | _, [] => []
  | n, b :: bs => if b = true then n :: ioIx (n + 1) bs else ioIx (n + 1) bs
def argsE : List Bool → List D → Env
  | _, [] => []
  | [], d :: ds => some ⟨d, false⟩ :: argsE [] ds
  | b :: bs, d :: ds => some ⟨d, b⟩ :: argsE bs ds
def outsE (env : Env) : List Nat → Option (List D)
  | [] => some []
  | i :: is => match slot env i with
    | some ⟨d, true⟩ => (outsE env is).map (d :: ·)
    | _ => none
def runDef (Φ : CT) (f : DefI) (ds : List D) : CR :=
  if ds.length = f.nps ∧ f.nps ≤ f.nsl ∧ f.io.length ≤ f.nps then
    match exs Φ (ioIx 0 f.io) f.body (argsE f.io ds ++ List.replicate (f.nsl - f.nps) none) with
    | .nx e => (match outsE e (ioIx 0 f.io) with
      | some outs => .ok ⟨.non, false⟩ outs
      | none => .stuck)
    | .rt v e => (match outsE e (ioIx 0 f.io) with
      | some outs => .ok v outs
      | none => .stuck)
    | .exc x _ => .exc x
    | _ => .stuck
  else .stuck
structure Pg where
  defs : List DefI
  meth : Nat → Nat → Option Nat
  init : Nat → Option Nat
  isa : Nat → Nat → Bool
def Pg.io (P : Pg) (j : Nat) : List Bool := match P.defs[j]? with
  | some f => f.io
  | none => []
def Pg.call (P : Pg) (wf : Nat) : Nat → Nat → List D → CR
  | 0, _, _ => .stuck
  | n + 1, j, ds => match P.defs[j]? with
    | some f => runDef ⟨P.call wf n, P.io, P.meth, P.init, P.isa, wf⟩ f ds
    | none => .stuck
def Pg.ct (P : Pg) (wf n : Nat) : CT := ⟨P.call wf n, P.io, P.meth, P.init, P.isa, wf⟩
end MT
namespace MT
open PySem PySem.Spec PyProof.Rows L2

abbrev St := L2.St
structure Sx where
  nm : Nm
  Φ : CT
  io : List Nat
  W : WX

def Ow (σ : St) (env : Env) : AS := fun a => ∃ i x, slot env i = some x ∧ x.own = true ∧ σ[i]? = some (some (.ref a))
structure EnvR (nm : Nm) (F H : Hp) (σ : St) (env : Env) : Prop where
  len : σ.length = env.length
  le : Le F H
  val : ∀ i x, slot env i = some x → ∃ v, σ[i]? = some (some v) ∧ ValR nm F H v x
  sep : ∀ i j x y a, slot env i = some x → slot env j = some y → x.own = true → y.own = true → σ[i]? = some (some (.ref a)) → σ[j]? = some (some (.ref a)) → i = j

theorem slot_set (env : Env) (i j : Nat) (o : Option Val) : slot (env.set i o) j = if i = j ∧ i < env.length then o else slot env j := by
  unfold slot
  rw [List.getElem?_set]
  by_cases h : i = j
  · subst h
    by_cases h2 : i < env.length
    · simp [h2]
    · simp [h2]
  · simp [h]
theorem slot_lt {env : Env} {i : Nat} {x : Val} (h : slot env i = some x) : i < env.length := by
  unfold slot at h
  cases e : env[i]? with
  | none => rw [e] at h; cases h
  | some o => exact (List.getElem?_eq_some_iff.mp e).1
section
variable {nm : Nm} {F F' H H' : Hp} {σ : St} {env env' : Env}
theorem EnvR.ow_some (E : EnvR nm F H σ env) {a : Addr} (h : Ow σ env a) : H a ≠ none := by
  obtain ⟨i, x, hx, ho, hs⟩ := h
  obtain ⟨v, hv, r⟩ := E.val i x hx
  rw [hv] at hs
  cases hs
  unfold ValR at r
  rw [if_pos ho] at r
  obtain ⟨b, e, _, q⟩ := r
  cases e
  obtain ⟨o, q⟩ := q.some
  rw [q]
  exact fun z => nomatch z
/-- nothing of one's own is touched -/
theorem EnvR.ext (E : EnvR nm F H σ env) (e : Ext F H F' H') : EnvR nm F' H' σ env where
  len := E.len
  le := e.1
  val := fun i x hx => by
    obtain ⟨v, hv, r⟩ := E.val i x hx
    exact ⟨v, hv, r.step e.2 fun _ _ _ => id⟩
  sep := E.sep
theorem Ext.step (e : Ext F H F' H') : Step (Ow σ env) F H (Ow σ env) F' H' := e.2.wk fun _ h => h

theorem slot_share (env : Env) (i j : Nat) : slot (share env i) j = if i = j then (slot env i).map (fun v => ⟨v.d, false⟩) else slot env j := by
  unfold share
  cases e : slot env i with
  | none =>
    by_cases h : i = j
    · subst h; simp [e]
    · simp [h]
  | some v =>
    simp only [slot_set, Option.map_some]
    by_cases h : i = j
    · subst h; simp [slot_lt e]
    · simp [h]
theorem share_len (env : Env) (i : Nat) : (share env i).length = env.length := by
  unfold share
  split <;> simp
theorem ow_share {i : Nat} {a : Addr} (h : Ow σ (share env i) a) : Ow σ env a := by
  obtain ⟨j, x, hx, ho, hs⟩ := h
  rw [slot_share] at hx
  by_cases hij : i = j
  · rw [if_pos hij] at hx
    cases e : slot env i with
    | none => rw [e] at hx; cases hx
    | some v => rw [e] at hx; cases hx; cases ho
  · rw [if_neg hij] at hx
    exact ⟨j, x, hx, ho, hs⟩
theorem EnvR.share (E : EnvR nm F H σ env) (i : Nat) : ∃ F', EnvR nm F' H σ (share env i) ∧ Step (Ow σ env) F H (Ow σ (MT.share env i)) F' H := by
  cases e : slot env i with
  | none =>
    have : MT.share env i = env := by unfold MT.share; rw [e]
    rw [this]
    exact ⟨F, E, Step.refl⟩
  | some x =>
    obtain ⟨v, hv, r⟩ := E.val i x e
    cases ho : x.own with
    | false =>
      have : MT.share env i = env := by
        unfold MT.share; rw [e]
        show env.set i (some ⟨x.d, false⟩) = env
        have e2 : (⟨x.d, false⟩ : Val) = x := by cases x; simp only at ho; rw [ho]
        rw [e2]
        unfold slot at e
        cases q : env[i]? with
        | none => rw [q] at e; cases e
        | some o =>
          rw [q] at e; simp only at e; subst e
          refine List.ext_getElem? fun k => ?_
          rw [List.getElem?_set]
          by_cases hk : i = k
          · subst hk; rw [if_pos rfl, if_pos (List.getElem?_eq_some_iff.mp q).1, q]
          · rw [if_neg hk]
      rw [this]
      exact ⟨F, E, Step.refl⟩
    | true =>
      unfold ValR at r
      rw [if_pos ho] at r
      obtain ⟨a, o, rfl, fn, ha, rep, sb, le⟩ := r.share E.le
      have ow : Ow σ env a := ⟨i, x, e, ho, hv⟩
      refine ⟨upd F a o, ⟨by rw [share_len]; exact E.len, le, fun j y hy => ?_, fun j k y z b hy hz oy oz h1 h2 => ?_⟩, ⟨sb, fun b hb => ?_, fun _ _ h _ => h, fun b h => .inl (ow_share h), fun _ h => h⟩⟩
      · rw [slot_share] at hy
        by_cases hij : i = j
        · subst hij
          rw [if_pos rfl, e] at hy
          cases hy
          exact ⟨_, hv, rep⟩
        · rw [if_neg hij] at hy
          obtain ⟨w, hw, rw'⟩ := E.val j y hy
          refine ⟨w, hw, ?_⟩
          unfold ValR at rw' ⊢
          split
          · rename_i oy
            rw [if_pos oy] at rw'
            obtain ⟨b, rfl, fb, q⟩ := rw'
            have ne : b ≠ a := fun z => by
              subst z
              exact hij (E.sep i j x y b e hy ho oy hv hw)
            exact ⟨b, rfl, by rw [upd_ne ne]; exact fb, q.mono sb rfl⟩
          · rename_i oy
            rw [if_neg oy] at rw'
            exact rw'.mono sb
      · rw [slot_share] at hy hz
        by_cases hij : i = j
        · rw [if_pos hij, e] at hy; cases hy; cases oy
        · by_cases hik : i = k
          · rw [if_pos hik, e] at hz; cases hz; cases oz
          · rw [if_neg hij] at hy; rw [if_neg hik] at hz
            exact E.sep j k y z b hy hz oy oz h1 h2
      · by_cases hba : b = a
        · subst hba; exact .inr (.inr ow)
        · rw [upd_ne hba] at hb; exact .inl hb
theorem EnvR.shares (E : EnvR nm F H σ env) (is : List Nat) : ∃ F', EnvR nm F' H σ (shares env is) ∧ Step (Ow σ env) F H (Ow σ (MT.shares env is)) F' H := by
  induction is generalizing env F with
  | nil => exact ⟨F, E, Step.refl⟩
  | cons i is ih =>
    obtain ⟨F1, E1, S1⟩ := E.share i
    obtain ⟨F2, E2, S2⟩ := ih E1
    exact ⟨F2, E2, S1.trans S2⟩
/-- a new own value is given to all -/
theorem EnvR.shareV (E : EnvR nm F H σ env) {v : V} {x : Val} (r : ValR nm F H v x) (n : x.own = true → ∀ p, v = .ref p → ¬ Ow σ env p) :
    ∃ F', EnvR nm F' H σ env ∧ Rep nm F' v x.d ∧ Sub F F' ∧ Le F' H ∧ ∀ b, F' b ≠ none → F b ≠ none ∨ (x.own = true ∧ v = .ref b) := by
  unfold ValR at r
  by_cases ho : x.own = true
  · rw [if_pos ho] at r
    obtain ⟨a, o, rfl, fn, ha, rep, sb, le⟩ := r.share E.le
    have na := n ho a rfl
    refine ⟨upd F a o, ⟨E.len, le, fun j y hy => ?_, E.sep⟩, rep, sb, le, fun b hb => ?_⟩
    · obtain ⟨w, hw, rw'⟩ := E.val j y hy
      refine ⟨w, hw, ?_⟩
      unfold ValR at rw' ⊢
      split
      · rename_i oy
        rw [if_pos oy] at rw'
        obtain ⟨b, rfl, fb, q⟩ := rw'
        have ne : b ≠ a := fun z => by
          subst z
          exact na ⟨j, y, hy, oy, hw⟩
        exact ⟨b, rfl, by rw [upd_ne ne]; exact fb, q.mono sb rfl⟩
      · rename_i oy
        rw [if_neg oy] at rw'
        exact rw'.mono sb
    · by_cases hba : b = a
      · subst hba; exact .inr ⟨ho, rfl⟩
      · rw [upd_ne hba] at hb; exact .inl hb
  · rw [if_neg ho] at r
    exact ⟨F, E, r, Sub.refl _, E.le, fun b hb => .inl hb⟩
end

/-- an exception as it lies -/
def ExcR (nm : Nm) (x : Exc) (cls : Value) (dd : Option Addr) (H : Hp) : Prop := cls = .ref (nm.ca x.c) ∧ x.fs = [] ∧ dd = none
structure Rl (α β : Type) where
  r : Hp → α → β → Hp → Hp → Env → Prop
  anti : ∀ {H H1 : Hp} {a : α} {b : β} {F' H' : Hp} {e : Env}, (∀ x, H1 x = none → H x = none) → r H1 a b F' H' e → r H a b F' H' e
def rlV (nm : Nm) (σ : St) : Rl Val V := ⟨fun H x v F' H' e => ValR nm F' H' v x ∧ (x.own = true → ∀ p, v = .ref p → H p = none ∧ ¬ Ow σ e p), fun h q => ⟨q.1, fun o p e => ⟨h _ (q.2 o p e).1, (q.2 o p e).2⟩⟩⟩
def rO (nm : Nm) (σ : St) (H0 F' H' : Hp) (e : Env) (o : Opd) (v : V) : Prop := match o with
  | .tmp x => ValR nm F' H' v x ∧ (x.own = true → ∀ p, v = .ref p → H0 p = none ∧ ¬ Ow σ e p)
  | .rd i => σ[i]? = some (some v)
theorem rO.anti {nm : Nm} {σ : St} {H0 H1 F' H' : Hp} {e : Env} {o : Opd} {v : V} (h : ∀ x, H1 x = none → H0 x = none) (r : rO nm σ H1 F' H' e o v) : rO nm σ H0 F' H' e o v := by
  cases o with
  | rd i => exact r
  | tmp x => exact ⟨r.1, fun o p e => ⟨h _ (r.2 o p e).1, (r.2 o p e).2⟩⟩
def rlO (nm : Nm) (σ : St) : Rl Opd V := ⟨fun H o v F' H' e => rO nm σ H F' H' e o v, fun h q => q.anti h⟩
def rlL (nm : Nm) (σ : St) : Rl (List D) (List V) := ⟨fun _ ds vs F' _ _ => RepL nm F' vs ds, fun _ q => q⟩
def rlOs (nm : Nm) (σ : St) : Rl (List Opd) (List V) := ⟨fun H os vs F' H' e => Paired (rO nm σ H F' H' e) os vs, fun h q => Paired.mapP q fun _ _ r => r.anti h⟩
def rlB (σ : St) : Rl Bool Bool := ⟨fun _ a b _ _ _ => a = b, fun _ q => q⟩

def Res (c : Sx) (σ : St) (F H : Hp) (env : Env) {α β : Type} (rl : Rl α β) (r : R α) (Q : β → Hp → Prop) : Prop := match r with
  | .ok a env' => ∀ F' H' b, EnvR c.nm F' H' σ env' → Step (Ow σ env) F H (Ow σ env') F' H' → rl.r H a b F' H' env' → Q b H'
  | .exc x env' => ∀ F' H' cls dd, EnvR c.nm F' H' σ env' → Step (Ow σ env) F H (Ow σ env') F' H' → ExcR c.nm x cls dd H' → c.W cls dd σ H'
  | .stuck => False
def tR (c : Sx) {α β : Type} (rl : St → Rl α β) (f : Env → R α) : St → Hp → (β → Hp → Prop) → Prop := fun σ H Q => ∃ F env, EnvR c.nm F H σ env ∧ Res c σ F H env (rl σ) (f env) Q
abbrev tE (c : Sx) (e : IE) : TE := tR c (rlV c.nm) (ev c.Φ c.io e)
abbrev tO (c : Sx) (e : IE) : TE := tR c (rlO c.nm) (mkO e (ev c.Φ c.io e))
section
variable {c : Sx} {σ : St} {F H F1 H1 : Hp} {env env1 : Env} {α β γ δ : Type}
theorem Res.shift {rl : Rl α β} {r : R α} {Q : β → Hp → Prop} (h : Res c σ F H env rl r Q) (s : Step (Ow σ env) F H (Ow σ env1) F1 H1) : Res c σ F1 H1 env1 rl r Q := by
  cases r with
  | ok a e => exact fun F' H' b E S q => h F' H' b E (s.trans S) (rl.anti s.there q)
  | exc x e => exact fun F' H' cls dd E S q => h F' H' cls dd E (s.trans S) q
  | stuck => exact h
/-- a first part, and what follows it -/
theorem tR_bind {f : Env → R α} {g : α → Env → R γ} {rlA : St → Rl α β} {rlC : St → Rl γ δ} {Q : δ → Hp → Prop} {Q1 : β → Hp → Prop} (h : tR c rlC (fun e => (f e).bind g) σ H Q)
    (k : ∀ F env a b F1 H1 env1, EnvR c.nm F1 H1 σ env1 → Step (Ow σ env) F H (Ow σ env1) F1 H1 → (rlA σ).r H a b F1 H1 env1 → Res c σ F H env (rlC σ) (g a env1) Q → Q1 b H1) : tR c rlA f σ H Q1 := by
  obtain ⟨F, env, E, h⟩ := h
  refine ⟨F, env, E, ?_⟩
  have h : Res c σ F H env (rlC σ) ((f env).bind g) Q := h
  cases e : f env with
  | ok a env1 =>
    intro F1 H1 b E1 S1 r1
    rw [e] at h
    exact k F env a b F1 H1 env1 E1 S1 r1 h
  | exc x env1 =>
    rw [e] at h
    exact h
  | stuck =>
    rw [e] at h
    exact h
theorem Res_bind {r : R α} {g : α → Env → R γ} {rlA : Rl α β} {rlC : Rl γ δ} {Q : δ → Hp → Prop} {Q1 : β → Hp → Prop} (h : Res c σ F H env rlC (r.bind g) Q)
    (k : ∀ a b F1 H1 env1, EnvR c.nm F1 H1 σ env1 → Step (Ow σ env) F H (Ow σ env1) F1 H1 → rlA.r H a b F1 H1 env1 → Res c σ F H env rlC (g a env1) Q → Q1 b H1) : Res c σ F H env rlA r Q1 := by
  cases r with
  | ok a env1 => exact fun F1 H1 b E1 S1 r1 => k a b F1 H1 env1 E1 S1 r1 h
  | exc x env1 => exact h
  | stuck => exact h
theorem Res_bindS {r : R α} {g : α → Env → R γ} {rlA : Rl α β} {rlC : Rl γ δ} {Q : δ → Hp → Prop} {Q1 : β → Hp → Prop} (S : Step (Ow σ env) F H (Ow σ env1) F1 H1) (h : Res c σ F H env rlC (r.bind g) Q)
    (k : ∀ a b F2 H2 env2, EnvR c.nm F2 H2 σ env2 → Step (Ow σ env1) F1 H1 (Ow σ env2) F2 H2 → rlA.r H1 a b F2 H2 env2 → Res c σ F H env rlC (g a env2) Q → Q1 b H2) : Res c σ F1 H1 env1 rlA r Q1 := by
  cases r with
  | ok a env2 => exact fun F2 H2 b E2 S2 r2 => k a b F2 H2 env2 E2 S2 r2 h
  | exc x env2 => exact fun F2 H2 cls dd E2 S2 r2 => h F2 H2 cls dd E2 (S.trans S2) r2
  | stuck => exact h
theorem Step.shared {S S1 : AS} {F H F1 H1 F1' : Hp} (s : Step S F H S1 F1 H1) (b : Sub F1 F1') (n : ∀ a, F1' a ≠ none → F1 a ≠ none ∨ H a = none) : Step S F H S1 F1' H1 :=
  ⟨s.sub.trans b, fun a h => (n a h).elim (s.new a) fun z => .inr (.inl z), s.keep, s.les, s.there⟩
theorem Res.of {rl : St → Rl α β} {r : R α} {Q : β → Hp → Prop} {f : Env → R α} (E : EnvR c.nm F H σ env) (h : Res c σ F H env (rl σ) (f env) Q) : tR c rl f σ H Q := ⟨F, env, E, h⟩
theorem tR_one {f : Env → R α} {rlA : St → Rl α β} {Q : β → Hp → Prop} {Q1 : β → Hp → Prop} (h : tR c rlA f σ H Q) (k : ∀ b H, Q b H → Q1 b H) : tR c rlA f σ H Q1 := by
  obtain ⟨F, env, E, h⟩ := h
  refine ⟨F, env, E, ?_⟩
  cases e : f env with
  | ok a env1 => rw [e] at h; exact fun F' H' b E1 S r => k _ _ (h F' H' b E1 S r)
  | exc x env1 => rw [e] at h; exact h
  | stuck => rw [e] at h; exact h
theorem rO.step {nm : Nm} {o : Opd} {v : V} {H0 F2 H2 : Hp} {env2 : Env} (h : rO nm σ H0 F1 H1 env1 o v) (E : EnvR nm F1 H1 σ env1) (s : Step (Ow σ env1) F1 H1 (Ow σ env2) F2 H2) : rO nm σ H0 F2 H2 env2 o v := by
  cases o with
  | rd i => exact h
  | tmp x =>
    refine ⟨h.1.step s fun o a e => (h.2 o a e).2, fun o p e => ⟨(h.2 o p e).1, fun q => ?_⟩⟩
    rcases s.les p q with z | z
    · exact (h.2 o p e).2 z
    · subst e
      have r := h.1
      unfold ValR at r
      rw [if_pos o] at r
      obtain ⟨b, e, _, q⟩ := r
      cases e
      obtain ⟨u, q⟩ := q.some
      rw [z] at q; cases q
theorem rOs.step {nm : Nm} {os : List Opd} {vs : List V} {H0 F2 H2 : Hp} {env2 : Env} (h : Paired (rO nm σ H0 F1 H1 env1) os vs) (E : EnvR nm F1 H1 σ env1) (s : Step (Ow σ env1) F1 H1 (Ow σ env2) F2 H2) : Paired (rO nm σ H0 F2 H2 env2) os vs := Paired.mapP h fun _ _ r => r.step E s
theorem rO.data {nm : Nm} {o : Opd} {v : V} {d : D} {H0 : Hp} (h : rO nm σ H0 F H env o v) (E : EnvR nm F H σ env) (e : o.get env = some d) : DataR nm F H v d := by
  cases o with
  | tmp x => cases e; exact h.1.data
  | rd i =>
    have e : (slot env i).map (·.d) = some d := e
    cases q : slot env i with
    | none => rw [q] at e; cases e
    | some x =>
      rw [q] at e; cases e
      obtain ⟨w, hw, r⟩ := E.val i x q
      have h : σ[i]? = some (some v) := h
      rw [hw] at h; cases h
      exact r.data
end

def Fin (nm : Nm) (F H : Hp) (x : Val) (Q : VK) : Prop := ∀ F' H' v, Ext F H F' H' → ValR nm F' H' v x → (x.own = true → ∀ p, v = .ref p → H p = none) → Q v H'
section
variable {c : Sx} {nm : Nm} {σ : St} {F H : Hp} {env : Env} {Q : VK} {x : Val}
theorem Res.fin (E : EnvR c.nm F H σ env) (h : Res c σ F H env (rlV c.nm σ) (.ok x env) Q) : Fin c.nm F H x Q := fun F' H' v e r n =>
  h F' H' v (E.ext e) (Ext.step e) ⟨r, fun o p q => ⟨n o p q, fun z => E.ow_some z (n o p q)⟩⟩
theorem Fin.flat (l : Le F H) {v : V} {d : D} (h : Fin nm F H ⟨d, false⟩ Q) (r : Rep nm F v d) : Q v H := h F H v (Ext.refl l) r fun z => nomatch z
theorem Fin.newL (l : Le F H) {vs : List V} {ds : List D} (h : Fin nm F H ⟨.lst ds, true⟩ Q) (r : RepL nm F vs ds) (p : Addr) (n : H p = none) : Q (.ref p) (upd H p (.lst vs)) := by
  obtain ⟨e, fp⟩ := Ext.own (o := .lst vs) l n
  exact h F (upd H p (.lst vs)) (.ref p) e ⟨p, rfl, fp, vs, upd_same, r⟩ fun _ q z => by cases z; exact n
theorem Fin.newK (l : Le F H) {kvs : List (Key × V)} {kds : List (Key × D)} (h : Fin nm F H ⟨.dK kds, true⟩ Q) (k : kvs.map (·.1) = kds.map (·.1)) (r : RepL nm F (kvs.map (·.2)) (kds.map (·.2))) (p : Addr) (n : H p = none) : Q (.ref p) (upd H p (.dK kvs)) := by
  obtain ⟨e, fp⟩ := Ext.own (o := .dK kvs) l n
  exact h F (upd H p (.dK kvs)) (.ref p) e ⟨p, rfl, fp, kvs, upd_same, k, r⟩ fun _ q z => by cases z; exact n
theorem Fin.newT (l : Le F H) {vs : List V} {ds : List D} (h : Fin nm F H ⟨.tup ds, false⟩ Q) (r : RepL nm F vs ds) (p : Addr) (n : H p = none) : Q (.ref p) (upd H p (.tup vs)) := by
  obtain ⟨e, s⟩ := Ext.shr (o := .tup vs) l n
  exact h (upd F p (.tup vs)) (upd H p (.tup vs)) (.ref p) e (.tup upd_same (r.mono s)) fun z => nomatch z
end
section
variable {nm : Nm} {F H : Hp} {v : V}
theorem DataR.int {i : Int} (h : DataR nm F H v (.int i)) : v = .int i := by
  rcases h with ⟨a, _, _, q⟩ | h
  · exact q.elim
  · cases h; rfl
theorem DataR.str {i : Str} (h : DataR nm F H v (.str i)) : v = .str i := by
  rcases h with ⟨a, _, _, q⟩ | h
  · exact q.elim
  · cases h; rfl
theorem DataR.bl {i : Bool} (h : DataR nm F H v (.bl i)) : v = .bl i := by
  rcases h with ⟨a, _, _, q⟩ | h
  · exact q.elim
  · cases h; rfl
theorem DataR.non (h : DataR nm F H v .non) : v = .non := by
  rcases h with ⟨a, _, _, q⟩ | h
  · exact q.elim
  · cases h; rfl
theorem DataR.lst {ds : List D} (l : Le F H) (h : DataR nm F H v (.lst ds)) : ∃ a vs, v = .ref a ∧ H a = some (.lst vs) ∧ RepL nm F vs ds := by
  rcases h with ⟨a, e, _, vs, q, r⟩ | h
  · exact ⟨a, vs, e, q, r⟩
  · cases h with
    | lst q r => exact ⟨_, _, rfl, l.lst q, r⟩
theorem DataR.tup {ds : List D} (l : Le F H) (h : DataR nm F H v (.tup ds)) : ∃ a vs, v = .ref a ∧ F a = some (.tup vs) ∧ H a = some (.tup vs) ∧ RepL nm F vs ds := by
  rcases h with ⟨a, e, _, q⟩ | h
  · exact q.elim
  · cases h with
    | tup q r => exact ⟨_, _, rfl, q, l.tup q, r⟩
theorem DataR.scr {ns : List Int} (l : Le F H) (h : DataR nm F H v (.scr ns)) : ∃ a, v = .ref a ∧ SqL nm.K H a (ns.map V.int) := by
  rcases h with ⟨a, e, _, q⟩ | h
  · exact q.elim
  · cases h with
    | scr q => exact ⟨_, rfl, q.sq l⟩
theorem DataR.dK {kds : List (Key × D)} (l : Le F H) (h : DataR nm F H v (.dK kds)) : ∃ a kvs, v = .ref a ∧ Rd H a (.dK kvs) ∧ kvs.map (·.1) = kds.map (·.1) ∧ RepL nm F (kvs.map (·.2)) (kds.map (·.2)) := by
  rcases h with ⟨a, e, _, kvs, q, k, r⟩ | h
  · exact ⟨a, kvs, e, .inl q, k, r⟩
  · cases h with
    | dK q k r => exact ⟨_, _, rfl, l.rd q, k, r⟩
theorem DataR.obj {cl : Nat} {fds : List (Nat × D)} (l : Le F H) (h : DataR nm F H v (.obj cl fds)) : ∃ a dx fvs, v = .ref a ∧ H a = some (.ins (nm.ca cl) dx fvs) ∧ fvs.map (·.1) = fds.map (fun p => nm.fn p.1) ∧ RepL nm F (fvs.map (·.2)) (fds.map (·.2)) := by
  rcases h with ⟨a, e, _, dx, fvs, q, k, r⟩ | h
  · exact ⟨a, dx, fvs, e, q, k, r⟩
  · cases h with
    | obj q k r => exact ⟨_, _, _, rfl, l.ins q, k, r⟩
end

theorem line_eq : (sizeLine : Nat) = lineD := by rw [sizeLine_eq]
def rBin (nm : Nm) (op : Operator) : R2 := fun x y H Q => ∃ F d1 d2 z, Le F H ∧ DataR nm F H x d1 ∧ DataR nm F H y d2 ∧ binD op d1 d2 = some z ∧ Fin nm F H z Q
theorem lt_log {j : Int} (h0 : 0 < j) (h : j < 2 ^ 2000) : CDivW 0 j := by
  refine wide_div (b := 2000) h0 ?_ (by decide) (by decide)
  have : (2 : Int) ^ 2000 = ((2 ^ 2000 : Nat) : Int) := by norm_cast
  omega
theorem op_bin {X : Cx} {nm : Nm} {op : Operator} : OpR X (binaryOp op) (rBin nm op) := by
  intro pins s σ H x y v u Q I rx ry h
  obtain ⟨F, d1, d2, z, l, h1, h2, hz, q⟩ := h
  unfold binD at hz
  split at hz
  · cases h1.int; cases h2.int; cases hz
    exact op_add pins s σ H _ _ v u Q I rx ry ⟨_, _, rfl, rfl, q.flat l .int⟩
  · cases h1.int; cases h2.int; cases hz
    exact op_sub pins s σ H _ _ v u Q I rx ry ⟨_, _, rfl, rfl, q.flat l .int⟩
  · cases h1.int; cases h2.int
    split at hz
    · rename_i hb
      cases hz
      refine op_mul pins s σ H _ _ v u Q I rx ry ⟨_, _, rfl, rfl, ?_, q.flat l .int⟩
      simpa [smallI, CMul, Bool.or_eq_true, Bool.and_eq_true, decide_eq_true_eq] using hb
    · cases hz
  · cases h1.int; cases h2.int
    split at hz
    · rename_i hb
      cases hz
      exact op_fdivW pins s σ H _ _ v u Q I rx ry ⟨_, _, rfl, rfl, lt_log hb.1 hb.2, q.flat l .int⟩
    · cases hz
  · cases h1.int; cases h2.int
    split at hz
    · rename_i hb
      cases hz
      exact op_mod pins s σ H _ _ v u Q I rx ry ⟨_, _, rfl, rfl, hb, q.flat l .int⟩
    · cases hz
  · cases h1.int; cases h2.int
    split at hz
    · rename_i hb
      cases hz
      exact op_pow pins s σ H _ _ v u Q I rx ry ⟨_, _, rfl, rfl, hb, q.flat l .int⟩
    · cases hz
  · cases h1.str; cases h2.str
    split at hz
    · rename_i hb
      cases hz
      exact op_add_str pins s σ H _ _ v u Q I rx ry ⟨_, _, rfl, rfl, by rw [line_eq]; exact hb, q.flat l .str⟩
    · cases hz
  · obtain ⟨a, vs, rfl, ha, ra⟩ := h1.lst l
    obtain ⟨b, ws, rfl, hb, rb⟩ := h2.lst l
    split at hz
    · rename_i hl
      cases hz
      exact op_cat pins s σ H _ _ v u Q I rx ry ⟨_, _, _, _, rfl, rfl, ha, hb, by rw [line_eq, ra.length, rb.length]; exact hl, q.newL l (ra.append rb)⟩
    · cases hz
  · obtain ⟨a, vs, rfl, fa, ha, ra⟩ := h1.tup l
    obtain ⟨b, ws, rfl, fb, hb, rb⟩ := h2.tup l
    split at hz
    · rename_i hl
      cases hz
      refine op_catA pins s σ H _ _ v u Q I rx ry ⟨_, _, _, _, rfl, rfl, SqT.of ha, SqT.of hb, by rw [line_eq, ra.length, rb.length]; exact hl, fun z => ?_, fun _ z => ?_, fun _ _ => q.newT l (ra.append rb)⟩
      · subst z; exact q.flat l (.tup fb (by simpa using ra.append rb))
      · subst z; exact q.flat l (.tup fa (by simpa using ra.append rb))
    · cases hz
  · cases hz
end MT
namespace MT
open PySem PySem.Spec PyProof.Rows L2

def eAt (f : D → D → Option Bool) (xs ys : List D) (j : Nat) : Bool := match xs[j]?, ys[j]? with
  | some x, some y => (f x y).getD true
  | _, _ => true
theorem eqL_spec {f : D → D → Option Bool} : ∀ {xs ys : List D} {b : Bool}, eqL f xs ys = some b →
    (∀ (j : Nat) x y, xs[j]? = some x → ys[j]? = some y → ∃ c, f x y = some c) ∧ b = ((List.range (min xs.length ys.length)).all (eAt f xs ys) && xs.length == ys.length)
  | [], [], b, h => by cases h; exact ⟨fun j x y h => by simp at h, by simp⟩
  | [], y :: ys, b, h => by cases h; exact ⟨fun j x y h => by simp at h, by simp⟩
  | x :: xs, [], b, h => by cases h; exact ⟨fun j x y _ h => by simp at h, by simp⟩
  | x :: xs, y :: ys, b, h => by
    unfold eqL at h
    cases e : f x y with
    | none => rw [e] at h; cases h
    | some c =>
      rw [e] at h
      cases e2 : eqL f xs ys with
      | none => rw [e2] at h; cases h
      | some d =>
        rw [e2] at h
        obtain ⟨h1, h2⟩ := eqL_spec e2
        refine ⟨fun j u v hu hv => ?_, ?_⟩
        · cases j with
          | zero => simp at hu hv; subst hu hv; exact ⟨c, e⟩
          | succ j => exact h1 j u v (by simpa using hu) (by simpa using hv)
        · have hb : (c && d) = b := by simpa using h
          rw [← hb, h2]
          have hm : min (x :: xs).length (y :: ys).length = min xs.length ys.length + 1 := by simp only [List.length_cons]; omega
          rw [hm, List.range_succ_eq_map, List.all_cons, List.all_map]
          have h0 : eAt f (x :: xs) (y :: ys) 0 = c := by simp [eAt, e]
          rw [h0, Bool.and_assoc]
          congr 2
          simp
theorem eqK_spec {f : D → D → Option Bool} {ys : List (Key × D)} : ∀ {xs : List (Key × D)} {b : Bool}, eqK f xs ys = some b →
    (∀ p ∈ xs, ∀ e, getA ys p.1 = some e → ∃ c, f p.2 e = some c) ∧ b = xs.all fun p => match getA ys p.1 with | none => false | some e => (f p.2 e).getD true
  | [], b, h => by cases h; exact ⟨fun p h => by simp at h, rfl⟩
  | p :: r, b, h => by
    unfold eqK at h
    cases e : getA ys p.1 with
    | none =>
      rw [e] at h
      cases e2 : eqK f r ys with
      | none => simp only [e2] at h; cases h
      | some d =>
        simp only [e2, Option.map_some] at h
        obtain ⟨h1, h2⟩ := eqK_spec e2
        refine ⟨fun q hq u hu => ?_, ?_⟩
        · rcases List.mem_cons.mp hq with rfl | hq
          · rw [e] at hu; cases hu
          · exact h1 q hq u hu
        · cases h; simp [e]
    | some u =>
      rw [e] at h
      cases e1 : f p.2 u with
      | none => simp only [e1] at h; cases h
      | some c =>
        cases e2 : eqK f r ys with
        | none => simp only [e1, e2] at h; cases h
        | some d =>
          simp only [e1, e2, Option.map_some, Option.bind_some] at h
          obtain ⟨h1, h2⟩ := eqK_spec e2
          refine ⟨fun q hq u' hu => ?_, ?_⟩
          · rcases List.mem_cons.mp hq with rfl | hq
            · rw [e] at hu; cases hu; exact ⟨c, e1⟩
            · exact h1 q hq u' hu
          · cases h
            rw [List.all_cons, ← h2]
            simp only [e, e1, Option.getD_some]

section
variable {nm : Nm} {F H : Hp}
theorem getA_mem {κ α : Type} [DecidableEq κ] {l : List (κ × α)} {k : κ} {d : α} (nd : (l.map (·.1)).Nodup) (h : (k, d) ∈ l) : getA l k = some d := by
  induction l with
  | nil => cases h
  | cons p r ih =>
    unfold getA
    rcases List.mem_cons.mp h with e | h
    · subst e; rw [if_pos rfl]
    · rw [List.map_cons, List.nodup_cons] at nd
      have hne : ¬ p.1 = k := fun e => nd.1 (e ▸ List.mem_map.mpr ⟨(k, d), h, rfl⟩)
      rw [if_neg hne]
      exact ih nd.2 h
theorem mem_getA {κ α : Type} [DecidableEq κ] : ∀ {l : List (κ × α)} {k : κ} {d : α}, getA l k = some d → (k, d) ∈ l
  | [], _, _, h => by cases h
  | p :: r, k, d, h => by
    unfold getA at h
    split at h
    · rename_i e; cases h; subst e; exact List.mem_cons_self
    · exact List.mem_cons_of_mem _ (mem_getA h)
/-- a dict's value at a key, in the heap and in the data -/
theorem repK_get {κ : Type} [DecidableEq κ] : ∀ {kvs : List (κ × V)} {kds : List (κ × D)}, kvs.map (·.1) = kds.map (·.1) → RepL nm F (kvs.map (·.2)) (kds.map (·.2)) → ∀ k, (valV kvs k = none ∧ getA kds k = none) ∨ ∃ v d, valV kvs k = some v ∧ getA kds k = some d ∧ Rep nm F v d
  | [], [], _, _, k => .inl ⟨rfl, rfl⟩
  | [], _ :: _, h, _, _ => by cases h
  | _ :: _, [], h, _, _ => by cases h
  | p :: r, q :: t, h, rr, k => by
    simp only [List.map_cons, List.cons.injEq] at h
    cases rr with
    | cons r1 r2 =>
      by_cases e : p.1 = k
      · refine .inr ⟨p.2, q.2, valV_pos e, ?_, r1⟩
        unfold getA; rw [if_pos (h.1.symm.trans e)]
      · rw [valV_neg e]
        have e2 : ¬ q.1 = k := fun z => e (h.1.trans z)
        have : getA (q :: t) k = getA t k := by
          show (if q.1 = k then _ else _) = _
          rw [if_neg e2]
        rw [this]
        exact repK_get h.2 r2 k
theorem DataR.rd_ok {X : Cx} {pins : List (Addr × Obj)} {σ : St} {s : Shared} (I : Inv X pins σ H s) (l : Le F H) {a : Addr} {kvs : List (Key × V)} (h : Rd H a (.dK kvs)) : kvs.length ≤ sizeLine ∧ (a == sysModules) = false ∧ ∃ vs, KV kvs vs ∧ s.heap.DictOf (mixKind X.prog X.w) a vs := h.ok I.hok
theorem dict_nodup {X : Cx} {a : Addr} {vs : List (Key × Value)} {h : Heap} (d : h.DictOf (mixKind X.prog X.w) a vs) : (vs.map (·.1)).Nodup := by
  obtain ⟨_, _, _, _, _, _, _, _, nd⟩ := d
  first | exact nd | exact nd.1 | exact nd.2

theorem eqF_at {A : Around} {s : Shared} {d e : D} {b : Bool} {v w : V} {u t : Value} (h : eqF d e = some b) (r1 : Rep nm F v d) (r2 : Rep nm F w e) (q1 : RelV v u) (q2 : RelV w t) : SeqAt.EqAt A s u t b := by
  unfold eqF at h
  split at h <;> first | cases h | skip
  all_goals (cases r1; cases r2)
  all_goals (have z := eqAt_V (A := A) (s := s) q1 q2 rfl rfl; exact z)
theorem eqF_same {d e : D} {b : Bool} {v : V} (h : eqF d e = some b) (r1 : Rep nm F v d) (r2 : Rep nm F v e) : b = true := by
  unfold eqF at h
  split at h <;> (try cases h) <;> (try (cases r1; cases r2)) <;> simp_all
theorem RepL_same {f : D → D → Option Bool} (hf : ∀ v d e b, Rep nm F v d → Rep nm F v e → f d e = some b → b = true) : ∀ {vs : List V} {xs ys : List D} {b : Bool}, RepL nm F vs xs → RepL nm F vs ys → eqL f xs ys = some b → b = true
  | [], _, _, b, r1, r2, h => by cases r1; cases r2; cases h; rfl
  | v :: vs, _, _, b, r1, r2, h => by
    cases r1 with
    | cons a1 t1 => cases r2 with
      | cons a2 t2 =>
        unfold eqL at h
        rename_i d1 ds1 d2 ds2
        cases e : f d1 d2 with
        | none => rw [e] at h; cases h
        | some c =>
          rw [e] at h
          cases e2 : eqL f ds1 ds2 with
          | none => rw [e2] at h; cases h
          | some c2 =>
            rw [e2] at h
            have h1 := hf _ _ _ _ a1 a2 e
            have h2 := RepL_same hf t1 t2 e2
            subst h1 h2
            simpa using h.symm
end
section
variable {nm : Nm} {F H : Hp} {X : Cx} {pins : List (Addr × Obj)} {σ : St} {s : Shared}
theorem eqN_same (I : Inv X pins σ H s) (l : Le F H) : ∀ (n : Nat) (d e : D) (b : Bool) (v : V), Rep nm F v d → Rep nm F v e → eqN n d e = some b → b = true
  | 0, d, e, b, v, r1, r2, h => eqF_same h r1 r2
  | n + 1, d, e, b, v, r1, r2, h => by
    unfold eqN at h
    split at h
    · cases r1 with
      | lst h1 t1 => cases r2 with
        | lst h2 t2 =>
          rw [h1] at h2; cases h2
          rw [if_pos (t1.length.symm.trans t2.length)] at h
          exact RepL_same (fun v d e b => eqN_same I l n d e b v) t1 t2 h
    · cases r1 with
      | tup h1 t1 => cases r2 with
        | tup h2 t2 =>
          rw [h1] at h2; cases h2
          exact RepL_same (fun v d e b => eqN_same I l n d e b v) t1 t2 h
    · rename_i xs ys
      cases r1 with
      | dK h1 k1 t1 => cases r2 with
        | dK h2 k2 t2 =>
          rw [h1] at h2; cases h2
          rename_i a kvs
          have hl : xs.length = ys.length := by
            have e1 := congrArg List.length k1
            have e2 := congrArg List.length k2
            simp only [List.length_map] at e1 e2
            omega
          cases hq : eqK (eqN n) xs ys with
          | none => rw [hq] at h; cases h
          | some c0 =>
          rw [hq] at h
          have h : (xs.length == ys.length && c0) = b := by simpa using h
          obtain ⟨p1, p2⟩ := eqK_spec hq
          rw [← h, hl, p2]
          simp only [beq_self_eq_true, Bool.true_and]
          obtain ⟨_, _, vs, kv, dd⟩ := DataR.rd_ok I l (l.rd h1)
          have nd : (xs.map (·.1)).Nodup := by rw [← k1, kv.keys]; exact dict_nodup dd
          refine List.all_eq_true.mpr fun p hp => ?_
          have g1 : getA xs p.1 = some p.2 := getA_mem nd hp
          rcases repK_get k1 t1 p.1 with ⟨_, z⟩ | ⟨v1, d1, z1, z2, z3⟩
          · rw [g1] at z; cases z
          · rw [g1] at z2; cases z2
            rcases repK_get k2 t2 p.1 with ⟨z, _⟩ | ⟨v2, d2, y1, y2, y3⟩
            · rw [z1] at z; cases z
            · rw [z1] at y1; cases y1
              simp only [y2]
              obtain ⟨c, hc⟩ := p1 p hp d2 y2
              rw [hc]
              exact eqN_same I l n _ _ _ _ z3 y3 hc
    · exact eqF_same h r1 r2
/-- d == e as a tree -/
theorem eqN_tree (I : Inv X pins σ H s) (l : Le F H) : ∀ (n : Nat) (d e : D) (b : Bool) (v w : V) (u t : Value), Rep nm F v d → Rep nm F w e → RelV v u → RelV w t → eqN n d e = some b → PySem.W.EqTree X.prog X.w s n u t b
  | 0, d, e, b, v, w, u, t, r1, r2, q1, q2, h => .leaf fun A _ => eqF_at h r1 r2 q1 q2
  | n + 1, d, e, b, v, w, u, t, r1, r2, q1, q2, h => by
    by_cases hvw : v = w ∧ ∃ a, v = .ref a
    · obtain ⟨rfl, a, rfl⟩ := hvw
      cases q1; cases q2
      have := eqN_same I l (n + 1) d e b _ r1 r2 h
      subst this
      exact .same
    · unfold eqN at h
      split at h
      · cases r1 with
        | lst h1 t1 => cases r2 with
          | lst h2 t2 =>
            rename_i xs ys a vs b' ws
            cases q1; cases q2
            have hne : a ≠ b' := fun z => hvw ⟨by rw [z], a, rfl⟩
            obtain ⟨us, e1, p1, _⟩ := I.list (SqL.of (l.lst h1))
            obtain ⟨ts, e2, p2, _⟩ := I.list (SqL.of (l.lst h2))
            by_cases hl : xs.length = ys.length
            · rw [if_pos hl] at h
              obtain ⟨g1, g2⟩ := eqL_spec h
              have hsz : us.toArray.size = ts.toArray.size := by simp only [List.size_toArray]; rw [← e1.length, ← e2.length, t1.length, t2.length, hl]
              have eb : b = (List.range us.toArray.size).all (eAt (eqN n) xs ys) := by
                rw [g2]
                simp only [hl, Nat.min_self, beq_self_eq_true, Bool.and_true, List.size_toArray, ← e1.length, t1.length]
              rw [eb]
              refine .lists hne p1.isList p2.isList hsz fun j h1 h2 => ?_
              simp only [List.size_toArray] at h1 h2
              have j1 : j < vs.length := by rw [e1.length]; exact h1
              have j2 : j < ws.length := by rw [e2.length]; exact h2
              obtain ⟨d1, x1, x2⟩ := t1.getV (List.getElem?_eq_getElem j1)
              obtain ⟨d2, y1, y2⟩ := t2.getV (List.getElem?_eq_getElem j2)
              obtain ⟨c, hc⟩ := g1 j d1 d2 x1 y1
              obtain ⟨u1, a1, a2⟩ := e1.get (List.getElem?_eq_getElem j1)
              obtain ⟨u2, b1, b2⟩ := e2.get (List.getElem?_eq_getElem j2)
              have ec : eAt (eqN n) xs ys j = c := by simp [eAt, x1, y1, hc]
              rw [ec]
              have f1 : us.toArray[j] = u1 := by simpa [List.getElem?_eq_getElem h1] using a1
              have f2 : ts.toArray[j] = u2 := by simpa [List.getElem?_eq_getElem h2] using b1
              rw [f1, f2]
              exact eqN_tree I l n d1 d2 c _ _ _ _ x2 y2 a2 b2 hc
            · rw [if_neg hl] at h
              cases h
              refine .listsLen hne p1.isList p2.isList ?_
              simp only [List.size_toArray]
              rw [← e1.length, ← e2.length, t1.length, t2.length]
              simpa using hl
      · cases r1 with
        | tup h1 t1 => cases r2 with
          | tup h2 t2 =>
            rename_i xs ys a vs b' ws
            cases q1; cases q2
            have hne : a ≠ b' := fun z => hvw ⟨by rw [z], a, rfl⟩
            obtain ⟨us, e1, p1, _⟩ := I.tuple (SqT.of (l.tup h1))
            obtain ⟨ts, e2, p2, _⟩ := I.tuple (SqT.of (l.tup h2))
            obtain ⟨g1, g2⟩ := eqL_spec h
            have s1 : us.toArray.size = xs.length := by simp only [List.size_toArray]; rw [← e1.length, t1.length]
            have s2 : ts.toArray.size = ys.length := by simp only [List.size_toArray]; rw [← e2.length, t2.length]
            rw [g2, ← s1, ← s2]
            refine .tuples hne p1 p2 fun j h1 h2 => ?_
            simp only [List.size_toArray] at h1 h2
            have j1 : j < vs.length := by rw [e1.length]; exact h1
            have j2 : j < ws.length := by rw [e2.length]; exact h2
            obtain ⟨d1, x1, x2⟩ := t1.getV (List.getElem?_eq_getElem j1)
            obtain ⟨d2, y1, y2⟩ := t2.getV (List.getElem?_eq_getElem j2)
            obtain ⟨c, hc⟩ := g1 j d1 d2 x1 y1
            obtain ⟨u1, a1, a2⟩ := e1.get (List.getElem?_eq_getElem j1)
            obtain ⟨u2, b1, b2⟩ := e2.get (List.getElem?_eq_getElem j2)
            have ec : eAt (eqN n) xs ys j = c := by simp [eAt, x1, y1, hc]
            rw [ec]
            have f1 : us.toArray[j] = u1 := by simpa [List.getElem?_eq_getElem h1] using a1
            have f2 : ts.toArray[j] = u2 := by simpa [List.getElem?_eq_getElem h2] using b1
            rw [f1, f2]
            exact eqN_tree I l n d1 d2 c _ _ _ _ x2 y2 a2 b2 hc
      · rename_i xs ys
        cases r1 with
        | dK h1 k1 t1 => cases r2 with
          | dK h2 k2 t2 =>
            rename_i a kvs b' lvs
            cases q1; cases q2
            have hne : a ≠ b' := fun z => hvw ⟨by rw [z], a, rfl⟩
            obtain ⟨_, sa, va, kva, da⟩ := DataR.rd_ok I l (l.rd h1)
            obtain ⟨_, sb, vb, kvb, db⟩ := DataR.rd_ok I l (l.rd h2)
            have la : va.length = xs.length := by
              have e1 := congrArg List.length k1
              simp only [List.length_map] at e1
              rw [← kva.length, e1]
            have lb : vb.length = ys.length := by
              have e1 := congrArg List.length k2
              simp only [List.length_map] at e1
              rw [← kvb.length, e1]
            have nd : (xs.map (·.1)).Nodup := by rw [← k1, kva.keys]; exact dict_nodup da
            let e : Key → Bool := fun k => match getA xs k, getA ys k with
              | some d, some e => (eqN n d e).getD true
              | _, _ => true
            cases hq : eqK (eqN n) xs ys with
            | none => rw [hq] at h; cases h
            | some c0 =>
            rw [hq] at h
            have h : (xs.length == ys.length && c0) = b := by simpa using h
            obtain ⟨g1, g2⟩ := eqK_spec hq
            have eb : b = (va.length == vb.length && va.all fun p => (valueAt vb p.1).isSome && e p.1) := by
              rw [← h, g2, la, lb]
              congr 1
              have key : va.map (·.1) = xs.map (·.1) := by rw [← kva.keys, k1]
              have one : ∀ k, (valueAt vb k).isSome = (getA ys k).isSome := fun k => by
                rcases repK_get k2 t2 k with ⟨z1, z2⟩ | ⟨v2, d2, z1, z2, _⟩
                · have q := kvb.val k
                  rw [z1] at q
                  rw [z2, q.none_of]
                  rfl
                · have q := kvb.val k
                  rw [z1] at q
                  obtain ⟨_, q, _⟩ := q.some_of
                  rw [z2, q]; rfl
              have e1 : (va.all fun p => (valueAt vb p.1).isSome && e p.1) = ((va.map (·.1)).all fun k => (getA ys k).isSome && e k) := by
                rw [List.all_map]
                congr 1
                funext p
                simp [one]
              have e2 : (xs.all fun p => match getA ys p.1 with | none => false | some e => (eqN n p.2 e).getD true) = ((xs.map (·.1)).all fun k => (getA ys k).isSome && e k) := by
                rw [List.all_map]
                refine Bool.eq_iff_iff.mpr ?_
                simp only [List.all_eq_true]
                refine forall₂_congr fun p hp => ?_
                have g := getA_mem nd (show (p.1, p.2) ∈ xs from hp)
                show _ ↔ ((getA ys p.1).isSome && e p.1) = true
                cases q : getA ys p.1 with
                | none => simp
                | some y => simp [e, g, q]
              rw [e1, e2, key]
            rw [eb]
            refine .dicts hne sa sb da db fun k v y hm hv => ?_
            have hk := getA_mem (dict_nodup da) hm
            rcases repK_get k1 t1 k with ⟨z1, _⟩ | ⟨v1, d1, z1, z2, z3⟩
            · have q := kva.val k
              rw [z1] at q
              have q2 := q.none_of
              have : valueAt va k = some v := by
                obtain ⟨i, hi⟩ := List.getElem?_of_mem hm
                exact valueAt_of_get (dict_nodup da) hi
              rw [this] at q2; cases q2
            · rcases repK_get k2 t2 k with ⟨y1, _⟩ | ⟨v2, d2, y1, y2, y3⟩
              · have q := kvb.val k
                rw [y1] at q
                rw [q.none_of] at hv; cases hv
              · have hb := y2
                have gx : (k, d1) ∈ xs := mem_getA z2
                obtain ⟨c, hc⟩ := g1 (k, d1) gx d2 y2
                have ec : e k = c := by simp only [e, z2, y2, hc, Option.getD_some]
                rw [ec]
                have qa := kva.val k
                rw [z1] at qa
                obtain ⟨ua, q1, q2⟩ := qa.some_of
                have hva : valueAt va k = some v := by
                  obtain ⟨i, hi⟩ := List.getElem?_of_mem hm
                  exact valueAt_of_get (dict_nodup da) hi
                rw [hva] at q1; cases q1
                have qb := kvb.val k
                rw [y1] at qb
                obtain ⟨ub, p1, p2⟩ := qb.some_of
                rw [hv] at p1; cases p1
                exact eqN_tree I l n d1 d2 c _ _ _ _ z3 y3 q2 p2 hc
      · exact .leaf fun A _ => eqF_at h r1 r2 q1 q2
end
end MT
namespace MT
open PySem PySem.Spec PyProof.Rows L2

section
variable {nm : Nm} {F H : Hp}
/-- read data, as given to all -/
theorem DataR.rep {v : V} {d : D} (h : DataR nm F H v d) (l : Le F H) : ∃ F', Sub F F' ∧ Le F' H ∧ Rep nm F' v d ∧ ∀ b, F' b ≠ none → F b ≠ none ∨ (v = .ref b) := by
  rcases h with h | h
  · obtain ⟨a, o, rfl, _, ha, r, s, l'⟩ := h.share l
    refine ⟨_, s, l', r, fun b hb => ?_⟩
    by_cases e : b = a
    · exact .inr (by rw [e])
    · rw [upd_ne e] at hb; exact .inl hb
  · exact ⟨F, Sub.refl _, l, h, fun b hb => .inl hb⟩
theorem At.rep {a : Addr} {d : D} {F' : Hp} (h : At nm F H a d) (s : Sub F F') (l : Le F' H) (n : F' a ≠ none) : Rep nm F' (.ref a) d := by
  cases q : F' a with
  | none => exact absurd q n
  | some o =>
    have lo := l a o q
    cases d with
    | lst _ => obtain ⟨_, h, r⟩ := h; rcases lo with z | ⟨_, _, z⟩ <;> rw [h] at z <;> cases z; exact .lst q (r.mono s)
    | dK _ => obtain ⟨_, h, k, r⟩ := h; rcases lo with z | ⟨_, _, z⟩ <;> rw [h] at z <;> cases z; exact .dK q k (r.mono s)
    | dT _ => obtain ⟨_, h, k, r⟩ := h; rcases lo with z | ⟨_, _, z⟩ <;> rw [h] at z <;> cases z; exact .dT q k (r.mono s)
    | obj _ _ => obtain ⟨_, _, h, k, r⟩ := h; rcases lo with z | ⟨_, _, z⟩ <;> rw [h] at z <;> cases z; exact .obj q k (r.mono s)
    | _ => exact h.elim
theorem DataR.rep2 {v w : V} {d e : D} (h : DataR nm F H v d) (k : DataR nm F H w e) (l : Le F H) : ∃ F', Sub F F' ∧ Le F' H ∧ Rep nm F' v d ∧ Rep nm F' w e := by
  obtain ⟨F1, s1, l1, r1, n1⟩ := h.rep l
  rcases k with ⟨b, rfl, fb, q⟩ | k
  · by_cases e : F1 b = none
    · obtain ⟨F2, s2, l2, r2, _⟩ := DataR.rep (F := F1) (.inl ⟨b, rfl, e, q.mono s1 rfl⟩) l1
      exact ⟨F2, s1.trans s2, l2, r1.mono s2, r2⟩
    · exact ⟨F1, s1, l1, r1, q.rep s1 l1 e⟩
  · exact ⟨F1, s1, l1, r1, k.mono s1⟩
end

section
variable {nm : Nm} {F H : Hp} {X : Cx} {pins : List (Addr × Obj)} {σ : St} {s : Shared}
theorem items_tree (I : Inv X pins σ H s) (l : Le F H) {n : Nat} {xs ys : List D} {vs ws : List V} {us ts : List Value} (t1 : RepL nm F vs xs) (t2 : RepL nm F ws ys) (e1 : Vals vs us) (e2 : Vals ws ts)
    (g1 : ∀ (j : Nat) x y, xs[j]? = some x → ys[j]? = some y → ∃ c, eqN n x y = some c) :
    ∀ j (h1 : j < us.toArray.size) (h2 : j < ts.toArray.size), PySem.W.EqTree X.prog X.w s n us.toArray[j] ts.toArray[j] (eAt (eqN n) xs ys j) := fun j h1 h2 => by
  simp only [List.size_toArray] at h1 h2
  have j1 : j < vs.length := by rw [e1.length]; exact h1
  have j2 : j < ws.length := by rw [e2.length]; exact h2
  obtain ⟨d1, x1, x2⟩ := t1.getV (List.getElem?_eq_getElem j1)
  obtain ⟨d2, y1, y2⟩ := t2.getV (List.getElem?_eq_getElem j2)
  obtain ⟨c, hc⟩ := g1 j d1 d2 x1 y1
  obtain ⟨u1, a1, a2⟩ := e1.get (List.getElem?_eq_getElem j1)
  obtain ⟨u2, b1, b2⟩ := e2.get (List.getElem?_eq_getElem j2)
  have ec : eAt (eqN n) xs ys j = c := by simp [eAt, x1, y1, hc]
  rw [ec]
  have f1 : us.toArray[j] = u1 := by simpa [List.getElem?_eq_getElem h1] using a1
  have f2 : ts.toArray[j] = u2 := by simpa [List.getElem?_eq_getElem h2] using b1
  rw [f1, f2]
  exact eqN_tree I l n d1 d2 c _ _ _ _ x2 y2 a2 b2 hc
def eKey (n : Nat) (xs ys : List (Key × D)) (k : Key) : Bool := match getA xs k, getA ys k with
  | some d, some e => (eqN n d e).getD true
  | _, _ => true
theorem dict_tree (I : Inv X pins σ H s) (l : Le F H) {n : Nat} {xs ys : List (Key × D)} {kvs lvs : List (Key × V)} {va vb : List (Key × Value)} {a b' : Addr}
    (k1 : kvs.map (·.1) = xs.map (·.1)) (t1 : RepL nm F (kvs.map (·.2)) (xs.map (·.2))) (k2 : lvs.map (·.1) = ys.map (·.1)) (t2 : RepL nm F (lvs.map (·.2)) (ys.map (·.2)))
    (kva : KV kvs va) (kvb : KV lvs vb) (da : s.heap.DictOf (mixKind X.prog X.w) a va) (db : s.heap.DictOf (mixKind X.prog X.w) b' vb) {b : Bool} (h : eqN (n + 1) (.dK xs) (.dK ys) = some b) :
    (∀ k v y, (k, v) ∈ va → valueAt vb k = some y → PySem.W.EqTree X.prog X.w s n v y (eKey n xs ys k)) ∧ b = (va.length == vb.length && va.all fun p => (valueAt vb p.1).isSome && eKey n xs ys p.1) := by
  have h : (eqK (eqN n) xs ys).map (fun b => xs.length == ys.length && b) = some b := h
  have la : va.length = xs.length := by
    have e1 := congrArg List.length k1
    simp only [List.length_map] at e1
    rw [← kva.length, e1]
  have lb : vb.length = ys.length := by
    have e1 := congrArg List.length k2
    simp only [List.length_map] at e1
    rw [← kvb.length, e1]
  have nd : (xs.map (·.1)).Nodup := by rw [← k1, kva.keys]; exact dict_nodup da
  cases hq : eqK (eqN n) xs ys with
  | none => rw [hq] at h; cases h
  | some c0 =>
  rw [hq] at h
  have h : (xs.length == ys.length && c0) = b := by simpa using h
  obtain ⟨g1, g2⟩ := eqK_spec hq
  refine ⟨fun k v y hm hv => ?_, ?_⟩
  · have hva : valueAt va k = some v := by
      obtain ⟨i, hi⟩ := List.getElem?_of_mem hm
      exact valueAt_of_get (dict_nodup da) hi
    rcases repK_get k1 t1 k with ⟨z1, _⟩ | ⟨v1, d1, z1, z2, z3⟩
    · have q := kva.val k
      rw [z1] at q
      have q2 := q.none_of
      rw [hva] at q2; cases q2
    · rcases repK_get k2 t2 k with ⟨y1, _⟩ | ⟨v2, d2, y1, y2, y3⟩
      · have q := kvb.val k
        rw [y1] at q
        rw [q.none_of] at hv; cases hv
      · obtain ⟨c, hc⟩ := g1 (k, d1) (mem_getA z2) d2 y2
        have ec : eKey n xs ys k = c := by simp only [eKey, z2, y2, hc, Option.getD_some]
        rw [ec]
        have qa := kva.val k
        rw [z1] at qa
        obtain ⟨ua, q1, q2⟩ := qa.some_of
        rw [hva] at q1; cases q1
        have qb := kvb.val k
        rw [y1] at qb
        obtain ⟨ub, p1, p2⟩ := qb.some_of
        rw [hv] at p1; cases p1
        exact eqN_tree I l n d1 d2 c _ _ _ _ z3 y3 q2 p2 hc
  · rw [← h, g2, la, lb]
    congr 1
    have key : va.map (·.1) = xs.map (·.1) := by rw [← kva.keys, k1]
    have one : ∀ k, (valueAt vb k).isSome = (getA ys k).isSome := fun k => by
      rcases repK_get k2 t2 k with ⟨z1, z2⟩ | ⟨v2, d2, z1, z2, _⟩
      · have q := kvb.val k
        rw [z1] at q
        rw [z2, q.none_of]
        rfl
      · have q := kvb.val k
        rw [z1] at q
        obtain ⟨_, q, _⟩ := q.some_of
        rw [z2, q]; rfl
    have e1 : (va.all fun p => (valueAt vb p.1).isSome && eKey n xs ys p.1) = ((va.map (·.1)).all fun k => (getA ys k).isSome && eKey n xs ys k) := by
      rw [List.all_map]
      congr 1
      funext p
      simp [one]
    have e2 : (xs.all fun p => match getA ys p.1 with | none => false | some e => (eqN n p.2 e).getD true) = ((xs.map (·.1)).all fun k => (getA ys k).isSome && eKey n xs ys k) := by
      rw [List.all_map]
      refine Bool.eq_iff_iff.mpr ?_
      simp only [List.all_eq_true]
      refine forall₂_congr fun p hp => ?_
      have g := getA_mem nd (show (p.1, p.2) ∈ xs from hp)
      show _ ↔ ((getA ys p.1).isSome && eKey n xs ys p.1) = true
      cases q : getA ys p.1 with
      | none => simp
      | some y => simp [eKey, g, q]
    rw [e1, key]
    exact e2
end
theorem eqF_scal {d e : D} {b : Bool} {nm : Nm} {F : Hp} {v w : V} (h : eqF d e = some b) (r1 : Rep nm F v d) (r2 : Rep nm F w e) : scal v w = true ∧ decide (v = w) = b := by
  unfold eqF at h
  split at h <;> first | cases h | skip
  all_goals (cases r1; cases r2)
  all_goals (refine ⟨rfl, ?_⟩)
  all_goals (simp; try (first | exact Bool.beq_eq_decide_eq _ _ |>.symm | rfl))
def rCmp (nm : Nm) (op : CmpOp) : R2 := fun x y H Q => ∃ F d1 d2 b, Le F H ∧ DataR nm F H x d1 ∧ DataR nm F H y d2 ∧ cmpD op d1 d2 = some b ∧ Q (.bl b) H
section
variable {X : Cx} {nm : Nm}
theorem op_eqX (hu : X.A.units + 64 < cLine) : OpR X (compareOp .Eq) (rCmp nm .Eq) := by
  intro pins s σ H x y v u Q I rx ry h
  obtain ⟨F0, d1, d2, b, l0, h1, h2, hb, q⟩ := h
  obtain ⟨F, s0, l, r1, r2⟩ := h1.rep2 h2 l0
  clear h1 h2
  replace hb : eqN 50 d1 d2 = some b := hb
  have flat : eqF d1 d2 = some b → wpAny (model X.prog X.w) X.A (compareOp .Eq v u) (EP X pins σ Q) X.xe s := fun e => by
    obtain ⟨e1, e2⟩ := eqF_scal e r1 r2
    exact op_eq pins s σ H x y v u Q I rx ry ⟨e1, by rw [e2]; exact q⟩
  have hb2 := hb
  rw [show (50 : Nat) = 49 + 1 from rfl] at hb
  unfold eqN at hb
  split at hb
  · cases r1 with
    | lst h1 t1 => cases r2 with
      | lst h2 t2 =>
        rename_i xs ys a vs b' ws
        cases rx; cases ry
        obtain ⟨us, e1, p1, _⟩ := I.list (SqL.of (l.lst h1))
        obtain ⟨ts, e2, p2, _⟩ := I.list (SqL.of (l.lst h2))
        by_cases hl : xs.length = ys.length
        · rw [if_pos hl] at hb
          obtain ⟨g1, g2⟩ := eqL_spec hb
          have hsz : us.toArray.size = ts.toArray.size := by simp only [List.size_toArray]; rw [← e1.length, ← e2.length, t1.length, t2.length, hl]
          refine PySem.W.eq_listsT (n := 49) p1.isList p2.isList hsz (items_tree I l t1 t2 e1 e2 g1) (by omega) ⟨.bl _, H, I, rfl, ?_⟩
          have eb : b = (List.range us.toArray.size).all (eAt (eqN 49) xs ys) := by
            rw [g2]
            simp only [hl, Nat.min_self, beq_self_eq_true, Bool.and_true, List.size_toArray, ← e1.length, t1.length]
          rw [← eb]; exact q
        · rw [if_neg hl] at hb
          cases hb
          refine SeqAt.eq_list_lengthsAt p1.isList p2.isList ?_ (by omega) ⟨.bl _, H, I, rfl, q⟩
          simp only [List.size_toArray]
          rw [← e1.length, ← e2.length, t1.length, t2.length]
          simpa using hl
  · cases r1 with
    | tup h1 t1 => cases r2 with
      | tup h2 t2 =>
        rename_i xs ys a vs b' ws
        cases rx; cases ry
        obtain ⟨us, e1, p1, _⟩ := I.tuple (SqT.of (l.tup h1))
        obtain ⟨ts, e2, p2, _⟩ := I.tuple (SqT.of (l.tup h2))
        obtain ⟨g1, g2⟩ := eqL_spec hb
        have s1 : us.toArray.size = xs.length := by simp only [List.size_toArray]; rw [← e1.length, t1.length]
        have s2 : ts.toArray.size = ys.length := by simp only [List.size_toArray]; rw [← e2.length, t2.length]
        refine PySem.W.eq_tuplesT (n := 49) p1 p2 (items_tree I l t1 t2 e1 e2 g1) (by omega) ⟨.bl _, H, I, rfl, ?_⟩
        rw [s1, s2, ← g2]; exact q
  · rename_i xs ys
    cases r1 with
    | dK h1 k1 t1 => cases r2 with
      | dK h2 k2 t2 =>
        rename_i a kvs b' lvs
        cases rx; cases ry
        obtain ⟨_, sa, va, kva, da⟩ := DataR.rd_ok I l (l.rd h1)
        obtain ⟨_, sb, vb, kvb, db⟩ := DataR.rd_ok I l (l.rd h2)
        obtain ⟨g1, g2⟩ := dict_tree (n := 49) I l k1 t1 k2 t2 kva kvb da db hb2
        refine PySem.W.eq_dictsT (n := 49) sa sb da db g1 (by omega) ⟨.bl _, H, I, rfl, ?_⟩
        rw [← g2]; exact q
  · exact flat hb
theorem op_neX (hu : X.A.units + 64 < cLine) : OpR X (compareOp .NotEq) (rCmp nm .NotEq) := by
  intro pins s σ H x y v u Q I rx ry h
  obtain ⟨F0, d1, d2, nb, l0, h1, h2, hb, q⟩ := h
  obtain ⟨F, s0, l, r1, r2⟩ := h1.rep2 h2 l0
  clear h1 h2
  replace hb : (eqN 50 d1 d2).map (!·) = some nb := hb
  cases hc : eqN 50 d1 d2 with
  | none => rw [hc] at hb; cases hb
  | some b =>
  rw [hc] at hb
  replace hb : (!b) = nb := by simpa using hb
  subst hb
  have hb2 := hc
  rw [show (50 : Nat) = 49 + 1 from rfl] at hc
  unfold eqN at hc
  split at hc
  · cases r1 with
    | lst h1 t1 => cases r2 with
      | lst h2 t2 =>
        rename_i xs ys a vs b' ws
        cases rx; cases ry
        obtain ⟨us, e1, p1, _⟩ := I.list (SqL.of (l.lst h1))
        obtain ⟨ts, e2, p2, _⟩ := I.list (SqL.of (l.lst h2))
        by_cases hl : xs.length = ys.length
        · rw [if_pos hl] at hc
          obtain ⟨g1, g2⟩ := eqL_spec hc
          have hsz : us.toArray.size = ts.toArray.size := by simp only [List.size_toArray]; rw [← e1.length, ← e2.length, t1.length, t2.length, hl]
          have it := items_tree I l t1 t2 e1 e2 g1
          refine SeqAt.mt_rcNe_lists (prog := X.prog) (w := X.w) p1.isList p2.isList hsz (by omega) (fun j h1 h2 => (it j h1 h2).at X.A.in1 (by show X.A.units + 1 + 49 < cLine; omega)) ⟨.bl _, H, I, rfl, ?_⟩
          have eb : b = (List.range us.toArray.size).all (eAt (eqN 49) xs ys) := by
            rw [g2]
            simp only [hl, Nat.min_self, beq_self_eq_true, Bool.and_true, List.size_toArray, ← e1.length, t1.length]
          rw [← eb]; exact q
        · rw [if_neg hl] at hc
          cases hc
          refine SeqAt.RcNeAt.lists_lengths p1.isList p2.isList ?_ (by omega) X.prog X.w _ _ ⟨.bl _, H, I, rfl, q⟩
          simp only [List.size_toArray]
          rw [← e1.length, ← e2.length, t1.length, t2.length]
          simpa using hl
  · cases r1 with
    | tup h1 t1 => cases r2 with
      | tup h2 t2 =>
        rename_i xs ys a vs b' ws
        cases rx; cases ry
        obtain ⟨us, e1, p1, _⟩ := I.tuple (SqT.of (l.tup h1))
        obtain ⟨ts, e2, p2, _⟩ := I.tuple (SqT.of (l.tup h2))
        obtain ⟨g1, g2⟩ := eqL_spec hc
        have s1 : us.toArray.size = xs.length := by simp only [List.size_toArray]; rw [← e1.length, t1.length]
        have s2 : ts.toArray.size = ys.length := by simp only [List.size_toArray]; rw [← e2.length, t2.length]
        have it := items_tree I l t1 t2 e1 e2 g1
        refine SeqAt.mt_rcNe_tuples (prog := X.prog) (w := X.w) p1 p2 (by omega) (fun j h1 h2 => (it j h1 h2).at X.A.in1 (by show X.A.units + 1 + 49 < cLine; omega)) ⟨.bl _, H, I, rfl, ?_⟩
        rw [s1, s2, ← g2]; exact q
  · rename_i xs ys
    cases r1 with
    | dK h1 k1 t1 => cases r2 with
      | dK h2 k2 t2 =>
        rename_i a kvs b' lvs
        cases rx; cases ry
        obtain ⟨_, sa, va, kva, da⟩ := DataR.rd_ok I l (l.rd h1)
        obtain ⟨_, sb, vb, kvb, db⟩ := DataR.rd_ok I l (l.rd h2)
        obtain ⟨g1, g2⟩ := dict_tree (n := 49) I l k1 t1 k2 t2 kva kvb da db hb2
        refine PySem.W.mt_neIn sa sb da db (by omega) (fun _ => PySem.W.KeqHitsIn.of (e := eKey 49 xs ys) _ fun k v y hm hv => (g1 k v y hm hv).at X.A.in1 (by show X.A.units + 1 + 49 < cLine; omega)) ⟨.bl _, H, I, rfl, ?_⟩
        rw [← g2]; exact q
  · obtain ⟨e1, e2⟩ := eqF_scal hc r1 r2
    exact op_ne pins s σ H x y v u Q I rx ry ⟨e1, by rw [e2]; exact q⟩
end
end MT
namespace MT
open PySem PySem.Spec PyProof.Rows L2

section
variable {nm : Nm} {F H : Hp}
theorem flat_rep {v : V} {d : D} (h : DataR nm F H v d) (f : flatD d = true) : flatV v = true ∧ Rep nm F v d := by
  cases d with
  | non => cases h.non; exact ⟨rfl, .non⟩
  | bl b => cases h.bl; exact ⟨rfl, .bl⟩
  | int b => cases h.int; exact ⟨rfl, .int⟩
  | str b => cases h.str; exact ⟨rfl, .str⟩
  | _ => cases f
theorem eqG_eqV {v w : V} {d e : D} (r : Rep nm F v d) (q : Rep nm F w e) (f : flatD d = true) (g : flatD e = true) : eqG d e = eqV v w := by
  cases r <;> (first | (exact absurd f Bool.false_ne_true) | (cases q <;> first | (exact absurd g Bool.false_ne_true) | rfl))
theorem flats_rep : ∀ {vs : List V} {ds : List D}, RepL nm F vs ds → ds.all flatD = true → vs.all flatV = true
  | [], _, r, _ => rfl
  | v :: vs, _, r, h => by
    cases r with
    | cons a t =>
      rw [List.all_cons, Bool.and_eq_true] at h
      rw [List.all_cons, Bool.and_eq_true]
      exact ⟨(flat_rep (H := fun _ => none) (.inr a) h.1).1, flats_rep t h.2⟩
theorem memD_inV {x : V} {d : D} (r : Rep nm F x d) (f : flatD d = true) : ∀ {vs : List V} {ds : List D}, RepL nm F vs ds → ds.all flatD = true → inV x vs = ds.any fun y => eqG y d
  | [], _, t, _ => by cases t; rfl
  | v :: vs, _, t, h => by
    cases t with
    | cons a t =>
      rw [List.all_cons, Bool.and_eq_true] at h
      have ih := memD_inV r f t h.2
      unfold inV at ih ⊢
      rw [List.any_cons, List.any_cons, ih, eqG_eqV a r h.1 f]
theorem keyD_rep {v : V} {d : D} {k : Key} (h : DataR nm F H v d) (e : keyD d = some k) : v = kV k := by
  cases d with
  | int i => cases e; exact h.int
  | str x => cases e; exact h.str
  | _ => cases e
theorem keysD_rep : ∀ {vs : List V} {ds : List D} {ks : List Key}, RepL nm F vs ds → keysD ds = some ks → vs = ks.map kV
  | [], _, ks, t, h => by cases t; cases h; rfl
  | v :: vs, _, ks, t, h => by
    cases t with
    | @cons _ d _ ds a t =>
      unfold keysD at h
      cases e : keyD d with
      | none => rw [e] at h; cases h
      | some k =>
        rw [e] at h
        cases e2 : keysD ds with
        | none => rw [e2] at h; cases h
        | some r =>
          rw [e2] at h
          cases h
          rw [List.map_cons, ← keysD_rep t e2, keyD_rep (H := fun _ => none) (.inr a) e]
theorem repK_some {κ : Type} [DecidableEq κ] {kvs : List (κ × V)} {kds : List (κ × D)} (k1 : kvs.map (·.1) = kds.map (·.1)) (t : RepL nm F (kvs.map (·.2)) (kds.map (·.2))) (k : κ) : (valV kvs k).isSome = (getA kds k).isSome := by
  rcases repK_get k1 t k with ⟨a, b⟩ | ⟨_, _, a, b, _⟩ <;> rw [a, b] <;> rfl
theorem DataR.dT {v : V} {kds : List (List Key × D)} (l : Le F H) (h : DataR nm F H v (.dT kds)) : ∃ a kvs, v = .ref a ∧ Rd H a (.dT kvs) ∧ kvs.map (·.1) = kds.map (·.1) ∧ RepL nm F (kvs.map (·.2)) (kds.map (·.2)) := by
  rcases h with ⟨a, e, _, kvs, q, k, r⟩ | h
  · exact ⟨a, kvs, e, .inl q, k, r⟩
  · cases h with
    | dT q k r => exact ⟨_, _, rfl, l.rd q, k, r⟩
end
section
variable {X : Cx} {nm : Nm}
theorem op_inX (hu : X.A.units + 64 < cLine) : OpR X (compareOp .In) (rCmp nm .In) := by
  intro pins s σ H x y v u Q I rx ry h
  obtain ⟨F, d1, d2, b, l, h1, h2, hb, q⟩ := h
  unfold cmpD at hb
  simp only at hb
  split at hb
  · obtain ⟨a, vs, rfl, ha, ra⟩ := h2.lst l
    unfold memD at hb
    split at hb
    · rename_i f
      cases hb
      obtain ⟨f1, r1⟩ := flat_rep h1 f.1
      refine op_in_seq pins s σ H _ _ v u Q I rx ry ⟨a, vs, rfl, .inl (SqL.of ha), f1, flats_rep ra f.2, ?_⟩
      rw [if_neg (by decide), memD_inV r1 f.1 ra f.2]; exact q
    · cases hb
  · obtain ⟨a, vs, rfl, _, ha, ra⟩ := h2.tup l
    unfold memD at hb
    split at hb
    · rename_i f
      cases hb
      obtain ⟨f1, r1⟩ := flat_rep h1 f.1
      refine op_in_seq pins s σ H _ _ v u Q I rx ry ⟨a, vs, rfl, .inr (SqT.of ha), f1, flats_rep ra f.2, ?_⟩
      rw [if_neg (by decide), memD_inV r1 f.1 ra f.2]; exact q
    · cases hb
  · obtain ⟨a, kvs, rfl, ha, k, ra⟩ := h2.dK l
    cases e : keyD d1 with
    | none => rw [e] at hb; cases hb
    | some key =>
      rw [e] at hb
      cases hb
      have := keyD_rep h1 e
      subst this
      cases ry
      exact d_in (A := X.A) (by omega) I (.inl ⟨kvs, key, ha, rfl, rfl⟩) rx fun s3 I3 => ⟨.bl _, H, I3, rfl, by rw [repK_some k ra]; exact q⟩
  · split at hb
    · obtain ⟨a, kvs, rfl, ha, k, ra⟩ := h2.dT l
      rename_i ks
      cases e : keysD ks with
      | none => rw [e] at hb; cases hb
      | some key =>
        rw [e] at hb
        cases hb
        obtain ⟨t, vs, rfl, _, ht, rt⟩ := h1.tup l
        cases ry
        exact d_in (A := X.A) (by omega) I (.inr ⟨kvs, key, t, ha, rfl, by rw [ht, keysD_rep rt e], rfl⟩) rx fun s3 I3 => ⟨.bl _, H, I3, rfl, by rw [repK_some k ra]; exact q⟩
    · cases hb
  · cases hb
theorem op_notInX (hu : X.A.units + 64 < cLine) : OpR X (compareOp .NotIn) (rCmp nm .NotIn) := by
  intro pins s σ H x y v u Q I rx ry h
  obtain ⟨F, d1, d2, b, l, h1, h2, hb, q⟩ := h
  unfold cmpD at hb
  simp only at hb
  split at hb
  · obtain ⟨a, vs, rfl, ha, ra⟩ := h2.lst l
    unfold memD at hb
    split at hb
    · rename_i f
      cases hb
      obtain ⟨f1, r1⟩ := flat_rep h1 f.1
      refine op_notIn_seq pins s σ H _ _ v u Q I rx ry ⟨a, vs, rfl, .inl (SqL.of ha), f1, flats_rep ra f.2, ?_⟩
      rw [if_pos rfl, memD_inV r1 f.1 ra f.2]; exact q
    · cases hb
  · obtain ⟨a, vs, rfl, _, ha, ra⟩ := h2.tup l
    unfold memD at hb
    split at hb
    · rename_i f
      cases hb
      obtain ⟨f1, r1⟩ := flat_rep h1 f.1
      refine op_notIn_seq pins s σ H _ _ v u Q I rx ry ⟨a, vs, rfl, .inr (SqT.of ha), f1, flats_rep ra f.2, ?_⟩
      rw [if_pos rfl, memD_inV r1 f.1 ra f.2]; exact q
    · cases hb
  · obtain ⟨a, kvs, rfl, ha, k, ra⟩ := h2.dK l
    cases e : keyD d1 with
    | none => rw [e] at hb; cases hb
    | some key =>
      rw [e] at hb
      cases hb
      have := keyD_rep h1 e
      subst this
      cases ry
      exact d_notIn (A := X.A) (by omega) I (.inl ⟨kvs, key, ha, rfl, rfl⟩) rx fun s3 I3 => ⟨.bl _, H, I3, rfl, by rw [repK_some k ra]; exact q⟩
  · split at hb
    · obtain ⟨a, kvs, rfl, ha, k, ra⟩ := h2.dT l
      rename_i ks
      cases e : keysD ks with
      | none => rw [e] at hb; cases hb
      | some key =>
        rw [e] at hb
        cases hb
        obtain ⟨t, vs, rfl, _, ht, rt⟩ := h1.tup l
        cases ry
        exact d_notIn (A := X.A) (by omega) I (.inr ⟨kvs, key, t, ha, rfl, by rw [ht, keysD_rep rt e], rfl⟩) rx fun s3 I3 => ⟨.bl _, H, I3, rfl, by rw [repK_some k ra]; exact q⟩
    · cases hb
  · cases hb
theorem op_isX : OpR X (compareOp .Is) (rCmp nm .Is) := by
  intro pins s σ H x y v u Q I rx ry h
  obtain ⟨F, d1, d2, b, l, h1, h2, hb, q⟩ := h
  unfold cmpD at hb
  simp only at hb
  have isN : ∀ c, y = .non → decide (x = .non) = c → Q (.bl c) H → wpAny (model X.prog X.w) X.A (compareOp .Is v u) (EP X pins σ Q) X.xe s := fun c e1 e2 q =>
    op_isN pins s σ H x y v u Q I rx ry ⟨e1, by rw [e2]; exact q⟩
  split at hb <;> (try cases hb)
  · exact isN _ h2.non (by rw [h1.non]; rfl) q
  · exact op_isBl pins s σ H x y v u Q I rx ry ⟨_, _, h1.bl, h2.bl, q⟩
  · cases h1.non; cases h2.bl; cases rx; cases ry
    exact wpAny_is_other rfl (fun z => nomatch z) ⟨.bl false, H, I, rfl, q⟩
  · exact isN _ h2.non (by rw [h1.bl]; rfl) q
  · exact isN _ h2.non (by rw [h1.int]; rfl) q
  · exact isN _ h2.non (by rw [h1.str]; rfl) q
  · exact isN _ h2.non (by obtain ⟨_, _, e, _⟩ := h1.lst l; rw [e]; rfl) q
  · exact isN _ h2.non (by obtain ⟨_, _, e, _⟩ := h1.tup l; rw [e]; rfl) q
  · exact isN _ h2.non (by obtain ⟨_, _, e, _⟩ := h1.dK l; rw [e]; rfl) q
  · exact isN _ h2.non (by obtain ⟨_, _, _, e, _⟩ := h1.obj l; rw [e]; rfl) q
theorem op_isNotX : OpR X (compareOp .IsNot) (rCmp nm .IsNot) := by
  intro pins s σ H x y v u Q I rx ry h
  obtain ⟨F, d1, d2, b, l, h1, h2, hb, q⟩ := h
  unfold cmpD at hb
  simp only at hb
  have isN : ∀ c, y = .non → (!decide (x = .non)) = c → Q (.bl c) H → wpAny (model X.prog X.w) X.A (compareOp .IsNot v u) (EP X pins σ Q) X.xe s := fun c e1 e2 q =>
    op_notN pins s σ H x y v u Q I rx ry ⟨e1, by rw [e2]; exact q⟩
  split at hb <;> (try cases hb)
  · exact isN _ h2.non (by rw [h1.non]; rfl) q
  · exact op_notBl pins s σ H x y v u Q I rx ry ⟨_, _, h1.bl, h2.bl, q⟩
  · cases h1.non; cases h2.bl; cases rx; cases ry
    exact wpAny_isNot_other rfl (fun z => nomatch z) ⟨.bl true, H, I, rfl, q⟩
  · exact isN _ h2.non (by rw [h1.bl]; rfl) q
  · exact isN _ h2.non (by rw [h1.int]; rfl) q
  · exact isN _ h2.non (by rw [h1.str]; rfl) q
  · exact isN _ h2.non (by obtain ⟨_, _, e, _⟩ := h1.lst l; rw [e]; rfl) q
  · exact isN _ h2.non (by obtain ⟨_, _, e, _⟩ := h1.tup l; rw [e]; rfl) q
  · exact isN _ h2.non (by obtain ⟨_, _, e, _⟩ := h1.dK l; rw [e]; rfl) q
  · exact isN _ h2.non (by obtain ⟨_, _, _, e, _⟩ := h1.obj l; rw [e]; rfl) q
theorem op_cmpX (hu : X.A.units + 64 < cLine) (op : CmpOp) : OpR X (compareOp op) (rCmp nm op) := by
  cases op with
  | Eq => exact op_eqX hu
  | NotEq => exact op_neX hu
  | In => exact op_inX hu
  | NotIn => exact op_notInX hu
  | Is => exact op_isX
  | IsNot => exact op_isNotX
  | Lt =>
    intro pins s σ H x y v u Q I rx ry h
    obtain ⟨F, d1, d2, b, l, h1, h2, hb, q⟩ := h
    unfold cmpD at hb
    simp only at hb
    split at hb <;> cases hb
    · exact op_lt pins s σ H x y v u Q I rx ry ⟨_, _, h1.int, h2.int, q⟩
    · exact op_lt_str pins s σ H x y v u Q I rx ry ⟨_, _, h1.str, h2.str, q⟩
  | LtE =>
    intro pins s σ H x y v u Q I rx ry h
    obtain ⟨F, d1, d2, b, l, h1, h2, hb, q⟩ := h
    unfold cmpD at hb
    simp only at hb
    split at hb <;> cases hb
    exact op_le pins s σ H x y v u Q I rx ry ⟨_, _, h1.int, h2.int, q⟩
  | Gt =>
    intro pins s σ H x y v u Q I rx ry h
    obtain ⟨F, d1, d2, b, l, h1, h2, hb, q⟩ := h
    unfold cmpD at hb
    simp only at hb
    split at hb <;> cases hb
    exact op_gt pins s σ H x y v u Q I rx ry ⟨_, _, h1.int, h2.int, q⟩
  | GtE =>
    intro pins s σ H x y v u Q I rx ry h
    obtain ⟨F, d1, d2, b, l, h1, h2, hb, q⟩ := h
    unfold cmpD at hb
    simp only at hb
    split at hb <;> cases hb
    exact op_ge pins s σ H x y v u Q I rx ry ⟨_, _, h1.int, h2.int, q⟩

theorem ix_dict (hu : X.A.units + 1 < cLine) : IxR X (fun x y H Q => ∃ a v, x = .ref a ∧ DGet H a y (some v) ∧ Q v H) := by
  intro value slice pins s σ H x y v u Q I rx ry h hs
  obtain ⟨a, w, rfl, g, q⟩ := h
  cases rx
  have hT := dict_typeIs I g
  unfold subscriptTail
  refine wpAny_bind ?_
  rw [getitemInPython_of_ne hT.not_modules]
  refine wpAny_bind (wpAny_specialOf hT PySem.F.slot_dict_getitem.lookup ?_)
  have fin : wpAny (model X.prog X.w) X.A (subscripted slice false (.ref a) u) (fun r s₃ => wpAny (model X.prog X.w) X.A (letTemporaryGo value (.ref a) r >>= fun _ => pure r) (EP X pins σ Q) X.xe s₃) X.xe s := by
    rw [hs]
    exact wpAny_operating (wpAny_mono (d_getItem hu I g ry fun w' s3 I3 rw' => (show EP X pins σ Q w' s3 from ⟨w, H, I3, rw', q⟩)) (fun r s₃ h₃ => wpAny_bind (wpAny_letTemporaryGo (wpAny_pure h₃))) fun _ _ x => x)
  first
    | exact wpAny_pure (wpAny_bind fin)
    | exact wpAny_bind (wpAny_pure (wpAny_bind fin))
    | exact wpAny_bind fin
def rIxX (nm : Nm) : R2 := fun x y H Q => ∃ F d1 d2 d, Le F H ∧ DataR nm F H x d1 ∧ DataR nm F H y d2 ∧ ixD d1 d2 = some d ∧ Fin nm F H ⟨d, false⟩ Q
theorem ixN_len {α β : Type} {xs : List α} {ys : List β} (e : xs.length = ys.length) {i : Int} {d : β} (h : atI ys i = some d) : ∃ j : Nat, ys[j]? = some d ∧ ∀ v, xs[j]? = some v → atI xs i = some v := by
  unfold atI at h ⊢
  rw [e]
  cases q : ixN ys.length i with
  | none => rw [q] at h; cases h
  | some j => rw [q] at h; exact ⟨j, h, fun v hv => hv⟩
theorem ix_X (hK : X.K = nm.K) (hu : X.A.units + 64 < cLine) : IxR X (rIxX nm) := by
  intro value slice pins s σ H x y v u Q I rx ry h hs
  obtain ⟨F, d1, d2, d, l, h1, h2, hb, q⟩ := h
  unfold ixD at hb
  split at hb
  · obtain ⟨a, vs, rfl, ha, ra⟩ := h1.lst l
    cases h2.int
    obtain ⟨j, hj, hv⟩ := ixN_len ra.length hb
    obtain ⟨w, hw, rw'⟩ := ra.get hj
    exact ix_list value slice pins s σ H _ _ v u Q I rx ry ⟨a, vs, _, w, rfl, rfl, SqL.of ha, hv w hw, q.flat l rw'⟩ hs
  · obtain ⟨a, vs, rfl, _, ha, ra⟩ := h1.tup l
    cases h2.int
    obtain ⟨j, hj, hv⟩ := ixN_len ra.length hb
    obtain ⟨w, hw, rw'⟩ := ra.get hj
    exact ix_tup value slice pins s σ H _ _ v u Q I rx ry ⟨a, vs, _, w, rfl, rfl, SqT.of ha, hv w hw, q.flat l rw'⟩ hs
  · rename_i xs i
    obtain ⟨a, rfl, ha⟩ := h1.scr l
    rw [← hK] at ha
    cases h2.int
    cases e : atI xs i with
    | none => rw [e] at hb; cases hb
    | some n =>
      rw [e] at hb; cases hb
      obtain ⟨j, hj, hv⟩ := ixN_len (xs := xs.map V.int) (by simp) e
      exact ix_list value slice pins s σ H _ _ v u Q I rx ry ⟨a, _, _, V.int n, rfl, rfl, ha, hv _ (by simp [hj]), q.flat l .int⟩ hs
  · rename_i z i
    cases h1.str
    cases h2.int
    split at hb
    · rename_i hz
      cases e : atI z.cps.toList i with
      | none => rw [e] at hb; cases hb
      | some c =>
        rw [e] at hb; cases hb
        exact ix_str value slice pins s σ H _ _ v u Q I rx ry ⟨z, i, c, rfl, rfl, by rw [line_eq]; exact hz, e, q.flat l .str⟩ hs
    · cases hb
  · obtain ⟨a, kvs, rfl, ha, k, ra⟩ := h1.dK l
    cases e : keyD d2 with
    | none => rw [e] at hb; cases hb
    | some key =>
      rw [e] at hb
      have hb : getA _ key = some d := hb
      have := keyD_rep h2 e
      subst this
      rcases repK_get k ra key with ⟨_, z⟩ | ⟨w, d', z1, z2, z3⟩
      · rw [z] at hb; cases hb
      · rw [z2] at hb; cases hb
        exact ix_dict (by omega) value slice pins s σ H _ _ v u Q I rx ry ⟨a, w, rfl, .inl ⟨kvs, key, ha, rfl, z1.symm⟩, q.flat l z3⟩ hs
  · cases hb

def rSlX2 (nm : Nm) : V → Option Int → Option Int → Hp → VK → Prop := fun x lo hi H Q => ∃ F d z, Le F H ∧ DataR nm F H x d ∧ slD d lo hi = some z ∧ Fin nm F H z Q
theorem cut_rep {nm : Nm} {F : Hp} {vs : List V} {ds : List D} (r : RepL nm F vs ds) (lo hi : Option Int) : RepL nm F (cutV vs lo hi) (cutD ds lo hi) := by
  unfold cutV cutD
  rw [r.length]
  exact (r.drop _).take _
theorem sl_X (hK : X.K = nm.K) : SlR X (rSlX2 nm) := by
  intro pins s σ H x v vl vu lo hi sl Q I rx hs pl pu h
  obtain ⟨F, d, z, l, h1, hb, q⟩ := h
  unfold slD at hb
  split at hb
  · cases hb
    obtain ⟨a, vs, rfl, ha, ra⟩ := h1.lst l
    exact sl_list pins s σ H _ _ _ _ _ _ _ Q I rx hs pl pu ⟨a, vs, rfl, SqL.of ha, q.newL l (cut_rep ra _ _)⟩
  · cases hb
    obtain ⟨a, rfl, ha⟩ := h1.scr l
    rw [← hK] at ha
    rename_i xs
    refine sl_list pins s σ H _ _ _ _ _ _ _ Q I rx hs pl pu ⟨a, xs.map V.int, rfl, ha, q.newL l ?_⟩
    have : (cutD xs lo hi).map D.int = cutD (xs.map D.int) lo hi := by unfold cutD; simp [List.map_drop, List.map_take]
    rw [this]
    exact cut_rep (RepL.of_ints xs) _ _
  · split at hb
    · rename_i hz
      cases hb
      cases h1.str
      exact sl_str pins s σ H _ _ _ _ _ _ _ Q I rx hs pl pu ⟨_, rfl, by rw [line_eq]; exact hz, q.flat l .str⟩
    · cases hb
  · cases hb
end
end MT
namespace MT
open PySem PySem.Spec PyProof.Rows L2

def biV : BI → Value
  | .len => .builtin "len"
  | .sorted => .builtin "sorted"
  | .list => .type "list"
  | .dict => .type "dict"
  | .max2 => .builtin "max"
  | .min2 => .builtin "min"
  | .sum => .builtin "sum"
  | .any => .builtin "any"
  | .all => .builtin "all"
def rBi (nm : Nm) (b : BI) : List V → Hp → VK → Prop := fun xs H Q => ∃ F ds z, Le F H ∧ Paired (DataR nm F H) xs ds ∧ biD b ds = some z ∧ Fin nm F H z Q
theorem insI_perm (x : Int) : ∀ xs : List Int, (insI x xs).Perm (x :: xs)
  | [] => List.Perm.refl _
  | y :: ys => by
    unfold insI
    split
    · exact List.Perm.refl _
    · exact ((insI_perm x ys).cons y).trans (List.Perm.swap x y ys)
theorem sortI_perm : ∀ xs : List Int, (sortI xs).Perm xs
  | [] => List.Perm.refl _
  | x :: xs => (insI_perm x _).trans ((sortI_perm xs).cons x)
theorem insI_sorted (x : Int) : ∀ {xs : List Int}, xs.Pairwise (· ≤ ·) → (insI x xs).Pairwise (· ≤ ·)
  | [], _ => by simp [insI]
  | y :: ys, h => by
    unfold insI
    rw [List.pairwise_cons] at h
    split
    · rename_i e
      refine List.pairwise_cons.mpr ⟨fun z hz => ?_, List.pairwise_cons.mpr h⟩
      rcases List.mem_cons.mp hz with rfl | hz
      · exact e
      · exact Int.le_trans e (h.1 z hz)
    · rename_i e
      refine List.pairwise_cons.mpr ⟨fun z hz => ?_, insI_sorted x h.2⟩
      rcases List.mem_cons.mp ((insI_perm x ys).mem_iff.mp hz) with rfl | hz
      · omega
      · exact h.1 z hz
theorem sortI_sorted : ∀ xs : List Int, (sortI xs).Pairwise (· ≤ ·)
  | [] => List.Pairwise.nil
  | x :: xs => insI_sorted x (sortI_sorted xs)
theorem intsD_eq : ∀ {ds : List D} {ns : List Int}, intsD ds = some ns → ds = ns.map D.int
  | [], _, h => by cases h; rfl
  | d :: ds, ns, h => by
    unfold intsD at h
    split at h
    · rename_i h1; cases h1
    · rename_i i r h1
      cases h1
      cases e : intsD ds with
      | none => rw [e] at h; cases h
      | some ms => rw [e] at h; cases h; rw [List.map_cons, ← intsD_eq e]
    · cases h
theorem blsD_eq : ∀ {ds : List D} {ns : List Bool}, blsD ds = some ns → ds = ns.map D.bl
  | [], _, h => by cases h; rfl
  | d :: ds, ns, h => by
    unfold blsD at h
    split at h
    · rename_i h1; cases h1
    · rename_i i r h1
      cases h1
      cases e : blsD ds with
      | none => rw [e] at h; cases h
      | some ms => rw [e] at h; cases h; rw [List.map_cons, ← blsD_eq e]
    · cases h
section
variable {X : Cx} {nm : Nm}
theorem paired1 {α β : Type} {P : α → β → Prop} {xs : List α} {d : β} (h : Paired P xs [d]) : ∃ x, xs = [x] ∧ P x d := by
  cases h with | cons h t => cases t; exact ⟨_, rfl, h⟩
theorem paired2 {α β : Type} {P : α → β → Prop} {xs : List α} {d e : β} (h : Paired P xs [d, e]) : ∃ x y, xs = [x, y] ∧ P x d ∧ P y e := by
  cases h with | cons h t => cases t with | cons k t => cases t; exact ⟨_, _, rfl, h, k⟩
theorem call_lenD2 : CallR X (.builtin "len") (fun xs H Q => ∃ p kvs, xs = [.ref p] ∧ Rd H p (.dK kvs) ∧ Q (.int kvs.length) H) := by
  intro pins s σ H xs us Q I r h
  obtain ⟨p, kvs, rfl, e, q⟩ := h
  rw [Vals.ref1 r]
  exact d_len I e fun t s' I' => ⟨.int _, H, I', ⟨t, rfl⟩, q⟩
theorem bi_call (hK : X.K = nm.K) (hc : X.calm = true) (b : BI) : CallR X (biV b) (rBi nm b) := by
  intro pins s σ H xs us Q I r h
  obtain ⟨F, ds, z, l, hd, hb, q⟩ := h
  unfold biD at hb
  split at hb
  · obtain ⟨x, rfl, h1⟩ := paired1 hd
    rename_i d
    cases e : lenD d with
    | none => rw [e] at hb; cases hb
    | some n =>
      rw [e] at hb; cases hb
      unfold lenD at e
      split at e
      · cases e
        obtain ⟨a, vs, rfl, ha, ra⟩ := h1.lst l
        exact call_len pins s σ H _ us Q I r ⟨_, _, rfl, .inl ⟨vs, SqL.of ha, rfl⟩, by rw [ra.length]; exact q.flat l .int⟩
      · cases e
        obtain ⟨a, vs, rfl, _, ha, ra⟩ := h1.tup l
        exact call_len pins s σ H _ us Q I r ⟨_, _, rfl, .inr ⟨vs, SqT.of ha, rfl⟩, by rw [ra.length]; exact q.flat l .int⟩
      · cases e
        rename_i ns
        obtain ⟨a, rfl, ha⟩ := h1.scr l
        rw [← hK] at ha
        exact call_len pins s σ H _ us Q I r ⟨_, _, rfl, .inl ⟨ns.map V.int, ha, rfl⟩, by rw [List.length_map]; exact q.flat l .int⟩
      · split at e
        · rename_i z hz
          cases e
          cases h1.str
          exact call_len pins s σ H _ us Q I r ⟨_, _, rfl, ⟨by rw [line_eq]; exact hz, rfl⟩, q.flat l .int⟩
        · cases e
      · cases e
        obtain ⟨a, kvs, rfl, ha, k, ra⟩ := h1.dK l
        rename_i kds
        have : kvs.length = kds.length := by simpa using congrArg List.length k
        exact call_lenD2 pins s σ H _ us Q I r ⟨_, _, rfl, ha, by rw [this]; exact q.flat l .int⟩
      · cases e
  · obtain ⟨x, rfl, h1⟩ := paired1 hd
    obtain ⟨a, vs, rfl, ha, ra⟩ := h1.lst l
    rename_i ds
    cases e : intsD ds with
    | none => rw [e] at hb; cases hb
    | some ns =>
      rw [e] at hb; cases hb
      have e := intsD_eq e
      subst e
      have := ra.ints
      subst this
      refine cr_sortedI pins s σ H _ us Q I r ⟨a, ns, rfl, SqL.of ha, fun ns' p hp hs hn => ?_⟩
      have e : ns' = sortI ns := PySem.W.ksm_same (hp.trans (sortI_perm ns).symm) hs (sortI_sorted ns)
      subst e
      exact q.newL l (RepL.of_ints _) p hn
  · cases hb
    obtain ⟨x, rfl, h1⟩ := paired1 hd
    obtain ⟨a, vs, rfl, ha, ra⟩ := h1.lst l
    exact call_list_of pins s σ H _ us Q I r ⟨a, vs, rfl, .inl (SqL.of ha), q.newL l ra⟩
  · cases hb
    obtain ⟨x, rfl, h1⟩ := paired1 hd
    obtain ⟨a, vs, rfl, _, ha, ra⟩ := h1.tup l
    exact call_list_of pins s σ H _ us Q I r ⟨a, vs, rfl, .inr (SqT.of ha), q.newL l ra⟩
  · cases hb
    obtain ⟨x, rfl, h1⟩ := paired1 hd
    obtain ⟨a, kvs, rfl, ha, k, ra⟩ := h1.dK l
    exact call_dictD pins s σ H _ us Q I r ⟨a, kvs, rfl, ha, q.newK l k ra⟩
  · cases hb
    obtain ⟨x, y, rfl, h1, h2⟩ := paired2 hd
    cases h1.int; cases h2.int
    exact call_max2 hc pins s σ H _ us Q I r ⟨_, _, rfl, q.flat l .int⟩
  · cases hb
    obtain ⟨x, y, rfl, h1, h2⟩ := paired2 hd
    cases h1.int; cases h2.int
    exact call_min2 hc pins s σ H _ us Q I r ⟨_, _, rfl, q.flat l .int⟩
  · obtain ⟨x, rfl, h1⟩ := paired1 hd
    obtain ⟨a, vs, rfl, ha, ra⟩ := h1.lst l
    rename_i ds
    cases e : intsD ds with
    | none => rw [e] at hb; cases hb
    | some ns =>
      rw [e] at hb; cases hb
      have e := intsD_eq e
      subst e
      have := ra.ints
      subst this
      exact cr_sum hc pins s σ H _ us Q I r ⟨a, ns, rfl, SqL.of ha, q.flat l .int⟩
  · obtain ⟨x, rfl, h1⟩ := paired1 hd
    obtain ⟨a, vs, rfl, ha, ra⟩ := h1.lst l
    rename_i ds
    cases e : blsD ds with
    | none => rw [e] at hb; cases hb
    | some ns =>
      rw [e] at hb; cases hb
      have e := blsD_eq e
      subst e
      have := ra.bls
      subst this
      exact cr_any hc pins s σ H _ us Q I r ⟨a, ns, rfl, SqL.of ha, q.flat l .bl⟩
  · obtain ⟨x, rfl, h1⟩ := paired1 hd
    obtain ⟨a, vs, rfl, ha, ra⟩ := h1.lst l
    rename_i ds
    cases e : blsD ds with
    | none => rw [e] at hb; cases hb
    | some ns =>
      rw [e] at hb; cases hb
      have e := blsD_eq e
      subst e
      have := ra.bls
      subst this
      exact cr_all hc pins s σ H _ us Q I r ⟨a, ns, rfl, SqL.of ha, q.flat l .bl⟩
  · cases hb
end

theorem _root_.L2.PE.imp {X : Cx} {e : Expr} {t t' : TE} (h : PE X e t) (k : ∀ σ H Q, t' σ H Q → t σ H Q) : PE X e t' := ⟨fun pins s σ H Q I q => h.run pins s σ H Q I (k σ H Q q)⟩
theorem _root_.L2.PT.imp {X : Cx} {e : Expr} {t t' : TT} (h : PT X e t) (k : ∀ σ H Q, t' σ H Q → t σ H Q) : PT X e t' := ⟨fun pins s σ H Q I q => h.run pins s σ H Q I (k σ H Q q)⟩
theorem _root_.L2.PW.imp {X : Cx} {e : Expr} {t t' : TT} (h : PW X e t) (k : ∀ σ H Q, t' σ H Q → t σ H Q) : PW X e t' := ⟨fun wh pins s σ H Q I q => h.run wh pins s σ H Q I (k σ H Q q)⟩
theorem _root_.L2.PA.imp {X : Cx} {e : List Expr} {t t' : TA} (h : PA X e t) (k : ∀ σ H Q, t' σ H Q → t σ H Q) : PA X e t' := ⟨fun pos pins s σ H Q I q => h.run pos pins s σ H Q I (k σ H Q q)⟩
theorem _root_.L2.PS.imp {X : Cx} {e : Stmt} {t t' : TS} (h : PS X e t) (k : ∀ D σ H, t' D σ H → t D σ H) : PS X e t' := ⟨fun pins s σ H D I q => h.run pins s σ H D I (k D σ H q)⟩
theorem _root_.L2.PSs.imp {X : Cx} {e : List Stmt} {t t' : TS} (h : PSs X e t) (k : ∀ D σ H, t' D σ H → t D σ H) : PSs X e t' := ⟨fun pins s σ H D I q => h.run pins s σ H D I (k D σ H q)⟩
/-- a test's answer -/
def bR (r : R Val) : R Bool := r.bind fun v e => boolR v fun b => .ok b e
def tT (c : Sx) (e : IE) : TT := tR c rlB (fun env => bR (ev c.Φ c.io e env))
abbrev tVs (c : Sx) (es : IEs) : TA := tR c (rlL c.nm) (evs c.Φ c.io es)
abbrev tOs (c : Sx) (es : IEs) : TA := tR c (rlOs c.nm) (evo c.Φ c.io es)
section
variable {X : Cx} {c : Sx} {e a b : Expr} {ia ib ic : IE} {pos : Pos} {σ : St} {F H F1 H1 : Hp} {env env1 : Env} {α β γ δ : Type}
theorem boolR_ok {α : Type} {v : Val} {f : Bool → R α} : (∃ b, v.d = .bl b ∧ boolR v f = f b) ∨ boolR v f = .stuck := by
  unfold boolR
  cases h : v.d with
  | bl b => exact .inl ⟨b, rfl, rfl⟩
  | _ => exact .inr rfl
theorem rlV_bl {v : V} {x : Val} {bb : Bool} (r : (rlV c.nm σ).r H x v F1 H1 env1) (h : x.d = .bl bb) : v = .bl bb := by
  have := r.1.data
  rw [h] at this
  exact this.bl
/-- an operand that is no name -/
theorem s_opd (ne : ∀ i, ia ≠ .var i) (h : PE X a (tE c ia)) : PE X a (tO c ia) := by
  refine h.imp fun σ H Q q => ?_
  obtain ⟨F, env, E, q⟩ := q
  have : mkO ia (ev c.Φ c.io ia) env = (ev c.Φ c.io ia env).bind fun v e => .ok (.tmp v) e := by
    unfold mkO
    cases ia <;> first | rfl | exact absurd rfl (ne _)
  rw [this] at q
  refine ⟨F, env, E, Res_bind q fun x v F1 H1 env1 E1 S1 r1 h1 => ?_⟩
  exact h1 F1 H1 v E1 S1 ⟨r1.1, r1.2⟩
theorem s_cst {d : D} {v : V} (h : ∀ F, Rep c.nm F v d) (he : PE X e (tC v)) : PE X e (tE c (.cst d)) := by
  refine he.imp fun σ H Q ⟨F, env, E, q⟩ => ?_
  exact q F H v E Step.refl ⟨h F, fun z => nomatch z⟩
theorem s_var {i : Nat} (he : PE X e (tVar i)) : PE X e (tE c (.var i)) := by
  refine he.imp fun σ H Q ⟨F, env, E, q⟩ => ?_
  unfold ev at q
  cases h : slot env i with
  | none => rw [h] at q; exact q.elim
  | some x =>
    rw [h] at q
    simp only at q
    split at q
    · exact q.elim
    · obtain ⟨v, hv, r⟩ := E.val i x h
      obtain ⟨F', E', S'⟩ := E.share i
      refine ⟨v, hv, q F' H v E' S' ⟨?_, fun z => nomatch z⟩⟩
      obtain ⟨w, hw, r'⟩ := E'.val i ⟨x.d, false⟩ (by rw [slot_share, if_pos rfl, h]; rfl)
      rw [hv] at hw; cases hw
      exact r'
theorem s_varO {i : Nat} (he : PE X e (tVar i)) : PE X e (tO c (.var i)) := by
  refine he.imp fun σ H Q ⟨F, env, E, q⟩ => ?_
  unfold mkO at q
  simp only at q
  cases h : slot env i with
  | none => rw [h] at q; exact q.elim
  | some x =>
    rw [h] at q
    obtain ⟨v, hv, r⟩ := E.val i x h
    exact ⟨v, hv, q F H v E Step.refl hv⟩
theorem s_neg (ha : PE X a (tE c ia)) : PE X (.UnaryOp .USub a pos) (tE c (.neg ia)) := by
  refine (pe_un un_neg ha).imp fun σ H Q q => ?_
  obtain ⟨F, env, E, q⟩ := q
  refine ⟨F, env, E, Res_bind q fun x v F1 H1 env1 E1 S1 r1 h1 => ?_⟩
  split at h1
  · rename_i i hi
    have := r1.1.data
    rw [hi] at this
    exact ⟨i, this.int, h1 F1 H1 _ E1 S1 ⟨.int, fun z => nomatch z⟩⟩
  · exact h1.elim
theorem s_not (ha : PE X a (tE c ia)) : PE X (.UnaryOp .Not a pos) (tE c (.not ia)) := by
  refine (pe_not ha).imp fun σ H Q q => ?_
  obtain ⟨F, env, E, q⟩ := q
  refine ⟨F, env, E, Res_bind q fun x v F1 H1 env1 E1 S1 r1 h1 => ?_⟩
  rcases boolR_ok (v := x) (f := fun b => R.ok (⟨.bl (!b), false⟩ : Val) env1) with ⟨b, hb, e⟩ | e
  · rw [e] at h1
    exact ⟨b, rlV_bl r1 hb, h1 F1 H1 _ E1 S1 ⟨.bl, fun z => nomatch z⟩⟩
  · rw [e] at h1; exact h1.elim
theorem s_and {rest : List Expr} (ha : PE X a (tE c ia)) (hb : PE X (.BoolOp .And (b :: rest) pos) (tE c ib)) : PE X (.BoolOp .And (a :: b :: rest) pos) (tE c (.and ia ib)) := by
  refine (pe_and ha hb).imp fun σ H Q q => ?_
  obtain ⟨F, env, E, q⟩ := q
  refine ⟨F, env, E, Res_bind q fun x v F1 H1 env1 E1 S1 r1 h1 => ?_⟩
  rcases boolR_ok (v := x) (f := fun c1 => if c1 = true then ev c.Φ c.io ib env1 else R.ok (⟨.bl false, false⟩ : Val) env1) with ⟨b, hb, e⟩ | e
  · rw [e] at h1
    refine ⟨b, rlV_bl r1 hb, ?_⟩
    cases b with
    | true => exact ⟨F1, env1, E1, Res.shift h1 S1⟩
    | false => exact h1 F1 H1 _ E1 S1 ⟨.bl, fun z => nomatch z⟩
  · rw [e] at h1; exact h1.elim
theorem s_or {rest : List Expr} (ha : PE X a (tE c ia)) (hb : PE X (.BoolOp .Or (b :: rest) pos) (tE c ib)) : PE X (.BoolOp .Or (a :: b :: rest) pos) (tE c (.or ia ib)) := by
  refine (pe_or ha hb).imp fun σ H Q q => ?_
  obtain ⟨F, env, E, q⟩ := q
  refine ⟨F, env, E, Res_bind q fun x v F1 H1 env1 E1 S1 r1 h1 => ?_⟩
  rcases boolR_ok (v := x) (f := fun c1 => if c1 = true then R.ok (⟨.bl true, false⟩ : Val) env1 else ev c.Φ c.io ib env1) with ⟨b, hb, e⟩ | e
  · rw [e] at h1
    refine ⟨b, rlV_bl r1 hb, ?_⟩
    cases b with
    | false => exact ⟨F1, env1, E1, Res.shift h1 S1⟩
    | true => exact h1 F1 H1 _ E1 S1 ⟨.bl, fun z => nomatch z⟩
  · rw [e] at h1; exact h1.elim
theorem st_val (he : ∀ whole, isTrue a X.env whole = (do let v ← whole; standAt a.pos; holding [v] (truthy v))) (ha : PE X a (tE c ia)) : PT X a (tT c ia) := by
  refine (pt_val ha he).imp fun σ H Q q => ?_
  obtain ⟨F, env, E, q⟩ := q
  refine ⟨F, env, E, Res_bind q fun x v F1 H1 env1 E1 S1 r1 h1 => ?_⟩
  rcases boolR_ok (v := x) (f := fun b => R.ok b env1) with ⟨b, hb, e⟩ | e
  · rw [e] at h1
    exact ⟨b, rlV_bl r1 hb, h1 F1 H1 _ E1 S1 rfl⟩
  · rw [e] at h1; exact h1.elim
theorem bR_bind {r : R Val} {f : Val → Env → R Val} : bR (r.bind f) = r.bind fun v e => bR (f v e) := by
  cases r <;> rfl
theorem st_not (ha : PT X a (tT c ia)) : PT X (.UnaryOp .Not a pos) (tT c (.not ia)) := by
  refine (pt_not ha).imp fun σ H Q ⟨F, env, E, q⟩ => ?_
  have q : Res c σ F H env (rlB σ) (bR (ev c.Φ c.io (.not ia) env)) Q := q
  have e : bR (ev c.Φ c.io (.not ia) env) = (bR (ev c.Φ c.io ia env)).bind fun b e => .ok (!b) e := by
    show bR ((ev c.Φ c.io ia env).bind _) = _
    rw [bR_bind]
    unfold bR
    cases ev c.Φ c.io ia env with
    | ok v e =>
      show (boolR v fun b => R.ok (⟨.bl (!b), false⟩ : Val) e).bind _ = (boolR v fun b => R.ok b e).bind _
      unfold boolR
      cases v.d <;> rfl
    | _ => rfl
  rw [e] at q
  refine ⟨F, env, E, Res_bind q fun x v F1 H1 env1 E1 S1 r1 h1 => ?_⟩
  have r1 : x = v := r1
  subst r1
  exact h1 F1 H1 _ E1 S1 rfl
theorem bR_bool {v : Val} {f : Bool → R Val} : bR (boolR v f) = boolR v fun b => bR (f b) := by
  unfold boolR
  cases v.d <;> rfl
theorem st_and {rest : List Expr} (ha : PT X a (tT c ia)) (hb : PW X (.BoolOp .And (b :: rest) pos) (tT c ib)) : PW X (.BoolOp .And (a :: b :: rest) pos) (tT c (.and ia ib)) := by
  refine (pw_and ha hb).imp fun σ H Q ⟨F, env, E, q⟩ => ?_
  have q : Res c σ F H env (rlB σ) (bR (ev c.Φ c.io (.and ia ib) env)) Q := q
  have e : bR (ev c.Φ c.io (.and ia ib) env) = (bR (ev c.Φ c.io ia env)).bind fun c1 e => if c1 = true then bR (ev c.Φ c.io ib e) else .ok false e := by
    show bR ((ev c.Φ c.io ia env).bind _) = _
    rw [bR_bind]
    unfold bR
    cases ev c.Φ c.io ia env with
    | ok v e =>
      show bR (boolR v fun c1 => if c1 = true then ev c.Φ c.io ib e else .ok ⟨.bl false, false⟩ e) = (boolR v fun b => R.ok b e).bind _
      rw [bR_bool]
      unfold boolR
      cases v.d with
      | bl b => cases b <;> rfl
      | _ => rfl
    | _ => rfl
  rw [e] at q
  refine ⟨F, env, E, Res_bind q fun x v F1 H1 env1 E1 S1 r1 h1 => ?_⟩
  have r1 : x = v := r1
  subst r1
  cases x with
  | true => exact ⟨F1, env1, E1, Res.shift h1 S1⟩
  | false => exact h1 F1 H1 _ E1 S1 rfl
theorem st_or {rest : List Expr} (ha : PT X a (tT c ia)) (hb : PW X (.BoolOp .Or (b :: rest) pos) (tT c ib)) : PW X (.BoolOp .Or (a :: b :: rest) pos) (tT c (.or ia ib)) := by
  refine (pw_or ha hb).imp fun σ H Q ⟨F, env, E, q⟩ => ?_
  have q : Res c σ F H env (rlB σ) (bR (ev c.Φ c.io (.or ia ib) env)) Q := q
  have e : bR (ev c.Φ c.io (.or ia ib) env) = (bR (ev c.Φ c.io ia env)).bind fun c1 e => if c1 = true then .ok true e else bR (ev c.Φ c.io ib e) := by
    show bR ((ev c.Φ c.io ia env).bind _) = _
    rw [bR_bind]
    unfold bR
    cases ev c.Φ c.io ia env with
    | ok v e =>
      show bR (boolR v fun c1 => if c1 = true then .ok ⟨.bl true, false⟩ e else ev c.Φ c.io ib e) = (boolR v fun b => R.ok b e).bind _
      rw [bR_bool]
      unfold boolR
      cases v.d with
      | bl b => cases b <;> rfl
      | _ => rfl
    | _ => rfl
  rw [e] at q
  refine ⟨F, env, E, Res_bind q fun x v F1 H1 env1 E1 S1 r1 h1 => ?_⟩
  have r1 : x = v := r1
  subst r1
  cases x with
  | false => exact ⟨F1, env1, E1, Res.shift h1 S1⟩
  | true => exact h1 F1 H1 _ E1 S1 rfl
theorem s_ite {t : Expr} (hc : PT X t (tT c ic)) (ha : PE X a (tE c ia)) (hb : PE X b (tE c ib)) : PE X (.IfExp t a b pos) (tE c (.ite ic ia ib)) := by
  refine (pe_ifExp hc ha hb).imp fun σ H Q ⟨F, env, E, q⟩ => ?_
  have q : Res c σ F H env (rlV c.nm σ) (ev c.Φ c.io (.ite ic ia ib) env) Q := q
  have e : ev c.Φ c.io (.ite ic ia ib) env = (bR (ev c.Φ c.io ic env)).bind fun c1 e => if c1 = true then ev c.Φ c.io ia e else ev c.Φ c.io ib e := by
    show (ev c.Φ c.io ic env).bind _ = _
    unfold bR
    cases ev c.Φ c.io ic env with
    | ok v e =>
      show (boolR v fun c1 => if c1 = true then ev c.Φ c.io ia e else ev c.Φ c.io ib e) = (boolR v fun b => R.ok b e).bind _
      unfold boolR
      cases v.d <;> rfl
    | _ => rfl
  rw [e] at q
  refine ⟨F, env, E, Res_bind q fun x v F1 H1 env1 E1 S1 r1 h1 => ?_⟩
  have r1 : x = v := r1
  subst r1
  cases x with
  | true => exact ⟨F1, env1, E1, Res.shift h1 S1⟩
  | false => exact ⟨F1, env1, E1, Res.shift h1 S1⟩
theorem opt_ok {α : Type} {o : Option α} {e : Env} {β : Type} {rl : Rl α β} {Q : β → Hp → Prop} (h : Res c σ F H env rl (R.opt o e) Q) : ∃ x, o = some x ∧ Res c σ F H env rl (.ok x e) Q := by
  cases o with
  | none => exact h.elim
  | some x => exact ⟨x, rfl, h⟩
theorem fin2 {x y : Opd} {v w : V} {f : D → D → Option Val} {Q : VK} {H0 H0' : Hp} (E : EnvR c.nm F H σ env) (rx : rO c.nm σ H0 F H env x v) (ry : rO c.nm σ H0' F H env y w)
    (h : Res c σ F H env (rlV c.nm σ) (match x.get env, y.get env with
      | some dx, some dy => R.opt (f dx dy) env
      | _, _ => .stuck) Q) : ∃ d1 d2 z, Le F H ∧ DataR c.nm F H v d1 ∧ DataR c.nm F H w d2 ∧ f d1 d2 = some z ∧ Fin c.nm F H z Q := by
  cases h1 : x.get env with
  | none => simp only [h1] at h; exact h.elim
  | some dx =>
    cases h2 : y.get env with
    | none => simp only [h1, h2] at h; exact h.elim
    | some dy =>
      simp only [h1, h2] at h
      obtain ⟨z, hz, h⟩ := opt_ok h
      exact ⟨dx, dy, z, E.le, rx.data E h1, ry.data E h2, hz, Res.fin E h⟩
theorem s_bin {op : Operator} (ha : PE X a (tO c ia)) (hb : PE X b (tO c ib)) : PE X (.BinOp a op b pos) (tE c (.bin op ia ib)) := by
  refine (pe_op (op_bin (nm := c.nm)) ha hb).imp fun σ H Q q => ?_
  obtain ⟨F, env, E, q⟩ := q
  refine ⟨F, env, E, Res_bind q fun x v F1 H1 env1 E1 S1 r1 h1 => ?_⟩
  refine ⟨F1, env1, E1, Res_bind (Res.shift h1 S1) fun y w F2 H2 env2 E2 S2 r2 h2 => ?_⟩
  obtain ⟨d1, d2, z, l, k1, k2, k3, k4⟩ := fin2 E2 (rO.step r1 E1 S2) r2 (Res.shift h2 S2)
  exact ⟨F2, d1, d2, z, l, k1, k2, k3, k4⟩
theorem s_cmp {op : CmpOp} (hu : X.A.units + 64 < cLine) (hm : behindInMarks op b = false) (ha : PE X a (tO c ia)) (hb : PE X b (tO c ib)) : PE X (.Compare a [op] [b] pos) (tE c (.cmp op ia ib)) := by
  refine (pe_cmpR (op_cmpX (nm := c.nm) hu op) ha hb hm).imp fun σ H Q q => ?_
  obtain ⟨F, env, E, q⟩ := q
  refine ⟨F, env, E, Res_bind q fun x v F1 H1 env1 E1 S1 r1 h1 => ?_⟩
  refine ⟨F1, env1, E1, Res_bind (Res.shift h1 S1) fun y w F2 H2 env2 E2 S2 r2 h2 => ?_⟩
  obtain ⟨d1, d2, z, l, k1, k2, k3, k4⟩ := fin2 (f := fun d1 d2 => (cmpD op d1 d2).map fun b => ⟨.bl b, false⟩) E2 (rO.step r1 E1 S2) r2 (Res.shift h2 S2)
  cases e : cmpD op d1 d2 with
  | none => rw [e] at k3; cases k3
  | some b =>
    rw [e] at k3; cases k3
    exact ⟨F2, d1, d2, b, l, k1, k2, e, k4.flat l .bl⟩
/-- a comparison as a test -/
theorem st_cmp {op : CmpOp} (hu : X.A.units + 64 < cLine) (hm : behindInMarks op b = false) (ha : PE X a (tO c ia)) (hb : PE X b (tO c ib)) : PT X (.Compare a [op] [b] pos) (tT c (.cmp op ia ib)) := by
  refine (pt_cmpR (op_cmpX (nm := c.nm) hu op) ha hb hm).imp fun σ H Q q => ?_
  obtain ⟨F, env, E, q⟩ := q
  have q : Res c σ F H env (rlB σ) ((mkO ia (ev c.Φ c.io ia) env).bind fun x e => (mkO ib (ev c.Φ c.io ib) e).bind fun y e => bR (match x.get e, y.get e with
      | some dx, some dy => R.opt ((cmpD op dx dy).map fun b => (⟨.bl b, false⟩ : Val)) e
      | _, _ => .stuck)) Q := by
    have e : bR (ev c.Φ c.io (.cmp op ia ib) env) = ((mkO ia (ev c.Φ c.io ia) env).bind fun x e => (mkO ib (ev c.Φ c.io ib) e).bind fun y e => bR (match x.get e, y.get e with
      | some dx, some dy => R.opt ((cmpD op dx dy).map fun b => (⟨.bl b, false⟩ : Val)) e
      | _, _ => .stuck)) := by
      have bb : ∀ {α : Type} (r : R α) (f : α → Env → R Val), bR (r.bind f) = r.bind fun v e => bR (f v e) := fun r f => by cases r <;> rfl
      show bR ((mkO ia (ev c.Φ c.io ia) env).bind _) = _
      rw [bb]
      congr 1
      funext x e
      rw [bb] <;> rfl
    rw [← e]; exact q
  refine ⟨F, env, E, Res_bind q fun x v F1 H1 env1 E1 S1 r1 h1 => ?_⟩
  refine ⟨F1, env1, E1, Res_bind (Res.shift h1 S1) fun y w F2 H2 env2 E2 S2 r2 h2 => ?_⟩
  have h2 := Res.shift h2 S2
  cases e1 : x.get env2 with
  | none => simp only [e1] at h2; exact h2.elim
  | some dx =>
    cases e2 : y.get env2 with
    | none => simp only [e1, e2] at h2; exact h2.elim
    | some dy =>
      simp only [e1, e2] at h2
      cases e : cmpD op dx dy with
      | none => rw [e] at h2; exact h2.elim
      | some k =>
        rw [e] at h2
        exact ⟨F2, dx, dy, k, E2.le, (rO.step r1 E1 S2).data E2 e1, rO.data r2 E2 e2, e, k, rfl, h2 F2 H2 k E2 Step.refl rfl⟩
theorem s_ix (hK : X.K = c.nm.K) (hu : X.A.units + 64 < cLine) (hs : PlainIx b) (ha : PE X a (tO c ia)) (hb : PE X b (tO c ib)) : PE X (.Subscript a b pos) (tE c (.ix ia ib)) := by
  refine (pe_ix (ix_X (nm := c.nm) hK hu) ha hb hs).imp fun σ H Q q => ?_
  obtain ⟨F, env, E, q⟩ := q
  refine ⟨F, env, E, Res_bind q fun x v F1 H1 env1 E1 S1 r1 h1 => ?_⟩
  refine ⟨F1, env1, E1, Res_bind (Res.shift h1 S1) fun y w F2 H2 env2 E2 S2 r2 h2 => ?_⟩
  obtain ⟨d1, d2, z, l, k1, k2, k3, k4⟩ := fin2 (f := fun d1 d2 => (ixD d1 d2).map fun d => ⟨d, false⟩) E2 (rO.step r1 E1 S2) r2 (Res.shift h2 S2)
  cases e : ixD d1 d2 with
  | none => rw [e] at k3; cases k3
  | some b =>
    rw [e] at k3; cases k3
    exact ⟨F2, d1, d2, b, l, k1, k2, e, k4⟩
theorem fin1 {x : Opd} {v : V} {f : D → Option Val} {Q : VK} {H0 : Hp} (E : EnvR c.nm F H σ env) (rx : rO c.nm σ H0 F H env x v)
    (h : Res c σ F H env (rlV c.nm σ) (match x.get env with
      | some dx => R.opt (f dx) env
      | _ => .stuck) Q) : ∃ d1 z, Le F H ∧ DataR c.nm F H v d1 ∧ f d1 = some z ∧ Fin c.nm F H z Q := by
  cases h1 : x.get env with
  | none => simp only [h1] at h; exact h.elim
  | some dx =>
    simp only [h1] at h
    obtain ⟨z, hz, h⟩ := opt_ok h
    exact ⟨dx, z, E.le, rx.data E h1, hz, Res.fin E h⟩
theorem s_sl00 {p2 : Pos} (hK : X.K = c.nm.K) (ha : PE X a (tO c ia)) : PE X (.Subscript a (.Slice none none none p2) pos) (tE c (.sl00 ia)) := by
  refine (pe_slice (sl_X (nm := c.nm) hK) ha po_none po_none).imp fun σ H Q q => ?_
  obtain ⟨F, env, E, q⟩ := q
  refine ⟨F, env, E, Res_bind q fun x v F1 H1 env1 E1 S1 r1 h1 => ?_⟩
  obtain ⟨d1, z, l, k1, k3, k4⟩ := fin1 (f := fun d => slD d none none) E1 r1 (Res.shift h1 S1)
  exact ⟨F1, d1, z, l, k1, k3, k4⟩
theorem intR_ok {α : Type} {v : Val} {f : Int → R α} : (∃ b, v.d = .int b ∧ intR v f = f b) ∨ intR v f = .stuck := by
  unfold intR
  cases h : v.d with
  | int b => exact .inl ⟨b, rfl, rfl⟩
  | _ => exact .inr rfl
theorem Res_int {v : Val} {f : Int → R α} {rl : Rl α β} {Q : β → Hp → Prop} (h : Res c σ F H env rl (intR v f) Q) : ∃ i, v.d = .int i ∧ Res c σ F H env rl (f i) Q := by
  rcases intR_ok (v := v) (f := f) with ⟨i, hi, e⟩ | e
  · rw [e] at h; exact ⟨i, hi, h⟩
  · rw [e] at h; exact h.elim
theorem rlV_int {v : V} {x : Val} {bb : Int} (r : (rlV c.nm σ).r H x v F1 H1 env1) (h : x.d = .int bb) : v = .int bb := by
  have := r.1.data
  rw [h] at this
  exact this.int
theorem s_sl10 {p2 : Pos} (hK : X.K = c.nm.K) (ha : PE X a (tO c ia)) (hb : PE X b (tE c ib)) : PE X (.Subscript a (.Slice (some b) none none p2) pos) (tE c (.sl10 ia ib)) := by
  refine (pe_slice (sl_X (nm := c.nm) hK) ha (po_some hb) po_none).imp fun σ H Q q => ?_
  obtain ⟨F, env, E, q⟩ := q
  refine ⟨F, env, E, Res_bind q fun x v F1 H1 env1 E1 S1 r1 h1 => ?_⟩
  refine ⟨F1, env1, E1, Res_bind (Res.shift h1 S1) fun y w F2 H2 env2 E2 S2 r2 h2 => ?_⟩
  obtain ⟨i, hi, h2⟩ := Res_int h2
  · obtain ⟨d1, z, l, k1, k3, k4⟩ := fin1 (f := fun d => slD d (some i) none) E2 (rO.step r1 E1 S2) (Res.shift h2 S2)
    exact ⟨i, rlV_int r2 hi, F2, d1, z, l, k1, k3, k4⟩
theorem s_sl01 {p2 : Pos} (hK : X.K = c.nm.K) (ha : PE X a (tO c ia)) (hb : PE X b (tE c ib)) : PE X (.Subscript a (.Slice none (some b) none p2) pos) (tE c (.sl01 ia ib)) := by
  refine (pe_slice (sl_X (nm := c.nm) hK) ha po_none (po_some hb)).imp fun σ H Q q => ?_
  obtain ⟨F, env, E, q⟩ := q
  refine ⟨F, env, E, Res_bind q fun x v F1 H1 env1 E1 S1 r1 h1 => ?_⟩
  refine ⟨F1, env1, E1, Res_bind (Res.shift h1 S1) fun y w F2 H2 env2 E2 S2 r2 h2 => ?_⟩
  obtain ⟨i, hi, h2⟩ := Res_int h2
  · obtain ⟨d1, z, l, k1, k3, k4⟩ := fin1 (f := fun d => slD d none (some i)) E2 (rO.step r1 E1 S2) (Res.shift h2 S2)
    exact ⟨i, rlV_int r2 hi, F2, d1, z, l, k1, k3, k4⟩
theorem s_sl11 {e' : Expr} {ie : IE} {p2 : Pos} (hK : X.K = c.nm.K) (ha : PE X a (tO c ia)) (hb : PE X b (tE c ib)) (hc : PE X e' (tE c ie)) : PE X (.Subscript a (.Slice (some b) (some e') none p2) pos) (tE c (.sl11 ia ib ie)) := by
  refine (pe_slice (sl_X (nm := c.nm) hK) ha (po_some hb) (po_some hc)).imp fun σ H Q q => ?_
  obtain ⟨F, env, E, q⟩ := q
  refine ⟨F, env, E, Res_bind q fun x v F1 H1 env1 E1 S1 r1 h1 => ?_⟩
  refine ⟨F1, env1, E1, Res_bind (Res.shift h1 S1) fun y w F2 H2 env2 E2 S2 r2 h2 => ?_⟩
  have rx := rO.step r1 E1 S2
  obtain ⟨i, hi, h2⟩ := Res_int h2
  refine ⟨i, rlV_int r2 hi, F2, env2, E2, Res_bind (Res.shift h2 S2) fun u t F3 H3 env3 E3 S3 r3 h3 => ?_⟩
  obtain ⟨j, hj, h3⟩ := Res_int h3
  obtain ⟨d1, z, l, k1, k3, k4⟩ := fin1 (f := fun d => slD d (some i) (some j)) E3 (rO.step rx E2 S3) (Res.shift h3 S3)
  exact ⟨j, rlV_int r3 hj, F3, d1, z, l, k1, k3, k4⟩
end
end MT
namespace MT
open PySem PySem.Spec PyProof.Rows L2

def ioVs : List Bool → List V → List V
  | true :: bs, v :: vs => v :: ioVs bs vs
  | false :: bs, _ :: vs => ioVs bs vs
  | _, _ => []
def ioS (bs : List Bool) (vs : List V) : AS := fun a => .ref a ∈ ioVs bs vs
def ArgR (nm : Nm) (F H : Hp) : List Bool → List V → List D → Prop
  | _, [], [] => True
  | [], v :: vs, d :: ds => Rep nm F v d ∧ ArgR nm F H [] vs ds
  | b :: bs, v :: vs, d :: ds => ValR nm F H v ⟨d, b⟩ ∧ ArgR nm F H bs vs ds
  | _, _, _ => False
def spD (nm : Nm) (Φ : CT) (nps : Nat) (j : Nat) : Sp := fun vs H Q E => ∃ F ds, vs.length = nps ∧ Le F H ∧ ArgR nm F H (Φ.io j) vs ds ∧ (ioVs (Φ.io j) vs).Nodup ∧
  match Φ.call j ds with
  | .ok x outs => ∀ F' H' w, Le F' H' → Step (ioS (Φ.io j) vs) F H (ioS (Φ.io j) vs) F' H' → ValR nm F' H' w x → (x.own = true → ∀ p, w = .ref p → H p = none) → Paired (Own nm F' H') (ioVs (Φ.io j) vs) outs → Q w H'
  | .exc x => ∀ F' H' cls dd, Le F' H' → Step (ioS (Φ.io j) vs) F H (ioS (Φ.io j) vs) F' H' → ExcR nm x cls dd H' → E cls dd H'
  | .stuck => False

section
variable {X : Cx} {c : Sx} {e a b : Expr} {es : List Expr} {ia ib ic : IE} {as : IEs} {pos : Pos} {σ : St} {F H F1 H1 : Hp} {env env1 : Env} {α β γ δ : Type}
theorem s_vnil : PA X [] (tVs c .nil) := pa_nil.imp fun σ H Q ⟨F, env, E, q⟩ => q F H [] E Step.refl .nil
theorem s_vcons (hs : starEach (e :: es) X.env = (false, eval e X.env) :: starEach es X.env) (ha : PE X e (tE c ia)) (hr : PA X es (tVs c as)) : PA X (e :: es) (tVs c (.cons ia as)) := by
  refine (pa_cons ha hr hs).imp fun σ H Q ⟨F, env, E, q⟩ => ?_
  refine ⟨F, env, E, Res_bind q fun x v F1 H1 env1 E1 S1 r1 h1 => ?_⟩
  obtain ⟨F1', E1', rep, sb, _, nw⟩ := E1.shareV r1.1 fun o p e => (r1.2 o p e).2
  have S1' := S1.shared sb fun b hb => (nw b hb).imp id fun z => (r1.2 z.1 b z.2).1
  refine ⟨F1', env1, E1', Res_bind (Res.shift h1 S1') fun ds ws F2 H2 env2 E2 S2 r2 h2 => ?_⟩
  exact h2 F2 H2 (v :: ws) E2 S2 (.cons (rep.mono S2.sub) r2)
theorem s_onil : PA X [] (tOs c .nil) := pa_nil.imp fun σ H Q ⟨F, env, E, q⟩ => q F H [] E Step.refl .nil
theorem s_ocons (hs : starEach (e :: es) X.env = (false, eval e X.env) :: starEach es X.env) (ha : PE X e (tO c ia)) (hr : PA X es (tOs c as)) : PA X (e :: es) (tOs c (.cons ia as)) := by
  refine (pa_cons ha hr hs).imp fun σ H Q ⟨F, env, E, q⟩ => ?_
  refine ⟨F, env, E, Res_bind q fun x v F1 H1 env1 E1 S1 r1 h1 => ?_⟩
  refine ⟨F1, env1, E1, Res_bindS S1 h1 fun ds ws F2 H2 env2 E2 S2 r2 h2 => ?_⟩
  exact h2 F2 H2 (v :: ws) E2 (S1.trans S2) (.cons (rO.step r1 E1 S2) ((rlOs c.nm σ).anti S1.there r2))
theorem s_lst (h : PA X es (tVs c as)) : PE X (.List es pos) (tE c (.lst as)) := by
  refine (pe_lst h).imp fun σ H Q ⟨F, env, E, q⟩ => ?_
  refine ⟨F, env, E, Res_bind q fun ds vs F1 H1 env1 E1 S1 r1 h1 => ?_⟩
  split at h1
  · rename_i hl
    exact ⟨by rw [line_eq, RepL.length r1]; exact hl, (Res.fin E1 (Res.shift h1 S1)).newL E1.le r1⟩
  · exact h1.elim
theorem s_tup {x1 : Nat} (h : PA X es (tVs c as)) : PE X (.Tuple es x1 pos) (tE c (.tup as)) := by
  refine (pe_tup h).imp fun σ H Q ⟨F, env, E, q⟩ => ?_
  refine ⟨F, env, E, Res_bind q fun ds vs F1 H1 env1 E1 S1 r1 h1 => ?_⟩
  split at h1
  · rename_i hl
    exact ⟨by rw [line_eq, RepL.length r1]; exact hl, (Res.fin E1 (Res.shift h1 S1)).newT E1.le r1⟩
  · exact h1.elim
theorem s_dnew : PE X (.Dict [] [] pos) (tE c (.dct .nil)) := by
  refine pe_dnewK.imp fun σ H Q ⟨F, env, E, q⟩ => ?_
  exact (Res.fin E q).newK E.le (kvs := []) (kds := []) rfl .nil
theorem s_dnewT : PE X (.Dict [] [] pos) (tE c .dctT) := by
  refine pe_dnewT.imp fun σ H Q ⟨F, env, E, q⟩ p n => ?_
  have f := Res.fin E q
  obtain ⟨e, fp⟩ := Ext.own (o := .dT []) E.le n
  exact f F (upd H p (.dT [])) (.ref p) e ⟨p, rfl, fp, [], upd_same, rfl, .nil⟩ fun _ q z => by cases z; exact n
end
section
variable {nm : Nm} {F H : Hp} {κ : Type} [DecidableEq κ]
theorem putK_cons {p : κ × V} {r : List (κ × V)} {k : κ} {v : V} (nd : ((p :: r).map (·.1)).Nodup) : putK (p :: r) k v = if p.1 = k then (p.1, v) :: r else p :: putK r k v := by
  rw [List.map_cons, List.nodup_cons] at nd
  unfold putK
  by_cases e : p.1 = k
  · rw [if_pos e, if_pos (by simp [e])]
    rw [List.map_cons, if_pos e]
    congr 1
    refine (List.map_congr_left fun q hq => ?_).trans (List.map_id _)
    have : ¬ q.1 = k := fun z => nd.1 (List.mem_map.mpr ⟨q, hq, z.trans e.symm⟩)
    rw [if_neg this]; rfl
  · rw [if_neg e]
    by_cases h : (r.any fun kv => decide (kv.1 = k)) = true
    · rw [if_pos (by simpa [e] using h), if_pos h, List.map_cons, if_neg e]
    · rw [if_neg (by simpa [e] using h), if_neg h]; rfl
theorem put_rep : ∀ {kvs : List (κ × V)} {kds : List (κ × D)}, kvs.map (·.1) = kds.map (·.1) → RepL nm F (kvs.map (·.2)) (kds.map (·.2)) → (kvs.map (·.1)).Nodup → ∀ {k : κ} {v : V} {d : D}, Rep nm F v d →
    (putK kvs k v).map (·.1) = (setA kds k d).map (·.1) ∧ RepL nm F ((putK kvs k v).map (·.2)) ((setA kds k d).map (·.2)) ∧ ((putK kvs k v).map (·.1)).Nodup ∧ ∀ x ∈ (putK kvs k v).map (·.1), x ∈ kvs.map (·.1) ∨ x = k
  | [], [], _, _, _, k, v, d, r => ⟨rfl, .cons r .nil, by simp [putK], fun x hx => by simp [putK] at hx; exact .inr hx⟩
  | [], _ :: _, h, _, _, _, _, _, _ => by cases h
  | _ :: _, [], h, _, _, _, _, _, _ => by cases h
  | p :: r, q :: t, h, rr, nd, k, v, d, rv => by
    rw [putK_cons nd]
    have h0 := h
    simp only [List.map_cons, List.cons.injEq] at h
    cases rr with
    | cons r1 r2 =>
      unfold setA
      by_cases e : p.1 = k
      · rw [if_pos e, if_pos (h.1.symm.trans e)]
        refine ⟨by simp [h], .cons rv r2, by simpa using nd, fun x hx => .inl ?_⟩
        simpa using hx
      · rw [if_neg e, if_neg fun z => e (h.1.trans z)]
        have nd' := nd
        rw [List.map_cons, List.nodup_cons] at nd'
        obtain ⟨a1, a2, a3, a4⟩ := put_rep h.2 r2 nd'.2 (k := k) rv
        refine ⟨by simp [h.1, a1], .cons r1 a2, ?_, fun x hx => ?_⟩
        · rw [List.map_cons, List.nodup_cons]
          refine ⟨fun z => ?_, a3⟩
          rcases a4 _ z with z | z
          · exact nd'.1 z
          · exact e z
        · rw [List.map_cons, List.mem_cons] at hx
          rcases hx with rfl | hx
          · exact .inl (by simp)
          · rcases a4 x hx with z | z
            · exact .inl (by simp only [List.map_cons, List.mem_cons]; exact .inr z)
            · exact .inr z
theorem putK_len {kvs : List (κ × V)} {k : κ} {v : V} : (putK kvs k v).length ≤ kvs.length + 1 := by
  unfold putK
  split
  · rw [List.length_map]; omega
  · simp
end
def pairV : List V → List (V × V)
  | x :: y :: r => (x, y) :: pairV r
  | _ => []
theorem pairs_merge {nm : Nm} {F : Hp} : ∀ (n : Nat) {ws : List V} {ds : List D} {acc : List (Key × V)} {accD kds : List (Key × D)}, ws.length ≤ n → RepL nm F ws ds → acc.map (·.1) = accD.map (·.1) → RepL nm F (acc.map (·.2)) (accD.map (·.2)) → (acc.map (·.1)).Nodup → pairsD accD ds = some kds →
    ∃ kvs : List (Key × V), pairV ws = kvs.map (fun kv => (kV kv.1, kv.2)) ∧ kvs.length ≤ ws.length ∧ (mergeK acc kvs).map (·.1) = kds.map (·.1) ∧ RepL nm F ((mergeK acc kvs).map (·.2)) (kds.map (·.2))
  | 0, ws, ds, acc, accD, kds, hn, r, k, ra, nd, h => by
    have : ws = [] := List.eq_nil_of_length_eq_zero (by omega)
    subst this
    cases r
    cases h
    exact ⟨[], rfl, Nat.le_refl _, k, ra⟩
  | n + 1, ws, ds, acc, accD, kds, hn, r, k, ra, nd, h => by
    cases r with
    | nil => cases h; exact ⟨[], rfl, Nat.le_refl _, k, ra⟩
    | @cons x d ws ds r1 r =>
      cases r with
      | nil => cases h
      | @cons y d2 ws ds r2 r =>
        unfold pairsD at h
        cases e : keyD d with
        | none => rw [e] at h; cases h
        | some key =>
          rw [e] at h
          have hx := keyD_rep (H := fun _ => none) (.inr r1) e
          obtain ⟨a1, a2, a3, _⟩ := put_rep k ra nd (k := key) r2
          simp only [List.length_cons] at hn
          obtain ⟨kvs, b1, b2, b3, b4⟩ := pairs_merge n (by omega) r a1 a2 a3 h
          refine ⟨(key, y) :: kvs, ?_, ?_, b3, b4⟩
          · simp [pairV, hx, b1]
          · simp only [List.length_cons]; omega
section
variable {X : Cx} {c : Sx} {e a b : Expr} {es : List Expr} {ia ib ic : IE} {as : IEs} {pos : Pos} {σ : St} {F H F1 H1 : Hp} {env env1 : Env} {α β γ δ : Type}
inductive PPd (X : Cx) (c : Sx) : List (Option Expr) → List Expr → IEs → Prop
  | nil : PPd X c [] [] .nil
  | cons {k v : Expr} {ks : List (Option Expr)} {vs : List Expr} {ik iv : IE} {is : IEs} : PE X k (tE c ik) → PE X v (tE c iv) → PPd X c ks vs is → PPd X c (some k :: ks) (v :: vs) (.cons ik (.cons iv is))
theorem PPd.read {ks : List (Option Expr)} {vs : List Expr} {is : IEs} (h : PPd X c ks vs is) :
    ∃ trs, PPs X pos ks vs trs ∧ ks.all (·.isSome) = true ∧ ks.length = vs.length ∧ ∀ σ H Q, tVs c is σ H (fun ws H' => ws.length = 2 * ks.length → Q (pairV ws) H') → tPairs trs σ H Q := by
  induction h with
  | nil => exact ⟨[], pps_nil, rfl, rfl, fun σ H Q ⟨F, env, E, q⟩ => q F H [] E Step.refl .nil rfl⟩
  | @cons k v ks vs ik iv is hk hv _ ih =>
    obtain ⟨trs, h1, h2, h3, h4⟩ := ih
    refine ⟨(tE c ik, tE c iv) :: trs, pps_cons hk hv h1, by simpa using h2, by simp [h3], fun σ H Q ⟨F, env, E, q⟩ => ?_⟩
    refine ⟨F, env, E, Res_bind q fun x v F1 H1 env1 E1 S1 r1 h1 => ?_⟩
    obtain ⟨F1', E1', rep, sb, _, nw⟩ := E1.shareV r1.1 fun o p e => (r1.2 o p e).2
    have S1' := S1.shared sb fun b hb => (nw b hb).imp id fun z => (r1.2 z.1 b z.2).1
    have h1 := Res.shift h1 S1'
    have h1 : Res c σ F1' H1 env1 (rlL c.nm σ) (((ev c.Φ c.io iv env1).bind fun v e => (evs c.Φ c.io is e).bind fun ds e => .ok (v.d :: ds) e).bind fun ds e => .ok (x.d :: ds) e) _ := h1
    have e : (((ev c.Φ c.io iv env1).bind fun v e => (evs c.Φ c.io is e).bind fun ds e => R.ok (v.d :: ds) e).bind fun ds e => R.ok (x.d :: ds) e) = (ev c.Φ c.io iv env1).bind fun v e => (evs c.Φ c.io is e).bind fun ds e => R.ok (x.d :: v.d :: ds) e := by
      cases ev c.Φ c.io iv env1 with
      | ok v e => show ((evs c.Φ c.io is e).bind _).bind _ = (evs c.Φ c.io is e).bind _; cases evs c.Φ c.io is e <;> rfl
      | _ => rfl
    rw [e] at h1
    refine ⟨F1', env1, E1', Res_bind h1 fun y w F2 H2 env2 E2 S2 r2 h2 => ?_⟩
    obtain ⟨F2', E2', rep2, sb2, _, nw2⟩ := E2.shareV r2.1 fun o p e => (r2.2 o p e).2
    have S2' := S2.shared sb2 fun b hb => (nw2 b hb).imp id fun z => (r2.2 z.1 b z.2).1
    refine h4 σ H2 _ ⟨F2', env2, E2', Res_bind (Res.shift h2 S2') fun ds ws F3 H3 env3 E3 S3 r3 h3 => fun hl => ?_⟩
    exact h3 F3 H3 (v :: w :: ws) E3 S3 (.cons (rep.mono (S2'.sub.trans S3.sub)) (.cons (rep2.mono S3.sub) r3)) (by simp only [List.length_cons]; omega)
/-- nothing of the relation leans on p -/
theorem EnvR.at_free {p : Addr} {o : HO} (E : EnvR c.nm F H σ env) (fp : F p = none) (np : ¬ Ow σ env p) : EnvR c.nm F (upd H p o) σ env where
  len := E.len
  le := fun a u h => by rw [upd_ne (ne_of_none h fp)]; exact E.le a u h
  val := fun i x hx => by
    obtain ⟨v, hv, r⟩ := E.val i x hx
    refine ⟨v, hv, ?_⟩
    unfold ValR at r ⊢
    split
    · rename_i ho
      rw [if_pos ho] at r
      obtain ⟨a, rfl, fa, q⟩ := r
      have ne : a ≠ p := fun z => np ⟨i, x, hx, ho, by rw [hv, z]⟩
      exact ⟨a, rfl, fa, q.mono (Sub.refl _) (upd_ne ne)⟩
    · rename_i ho
      rw [if_neg ho] at r
      exact r
  sep := E.sep
theorem s_dct {ks : List (Option Expr)} {vs : List Expr} {is : IEs} (h : PPd X c ks vs is) (h0 : ks ≠ []) (h15 : ks.length ≤ 15) : PE X (.Dict ks vs pos) (tE c (.dct is)) := by
  obtain ⟨trs, h1, h2, h3, h4⟩ := h.read (pos := pos)
  refine (pe_disp h1 h2 h3 h0 h15).imp fun σ H Q ⟨F, env, E, q⟩ p n => ?_
  obtain ⟨xt, fp⟩ := Ext.own (o := .dK []) E.le n
  have np : ¬ Ow σ env p := fun z => E.ow_some z n
  refine h4 σ _ _ ⟨F, env, E.ext xt, ?_⟩
  have q : Res c σ F H env (rlV c.nm σ) ((evs c.Φ c.io is env).bind fun ds e => R.opt ((pairsD [] ds).map fun kvs => ⟨.dK kvs, true⟩) e) Q := q
  cases hq : evs c.Φ c.io is env with
  | stuck => rw [hq] at q; exact q
  | exc x env' =>
    rw [hq] at q
    exact fun F' H' cls dd E' S' r => q F' H' cls dd E' (Step.trans (Ext.step xt) S') r
  | ok ds env2 =>
    rw [hq] at q
    intro F2 H2 ws E2 S2 r2 hlen
    obtain ⟨z, hz, q⟩ := opt_ok q
    cases hp : pairsD [] ds with
    | none => rw [hp] at hz; cases hz
    | some kds =>
      rw [hp] at hz
      cases hz
      have hp2 : H2 p = some (.dK []) := S2.keep p _ upd_same np
      have fp2 : F2 p = none := by
        cases hf : F2 p with
        | none => rfl
        | some o =>
          rcases S2.new p (by rw [hf]; exact fun z => nomatch z) with z | z | z
          · exact absurd fp z
          · rw [upd_same] at z; cases z
          · exact absurd z np
      have np2 : ¬ Ow σ env2 p := fun z => by
        rcases S2.les p z with z | z
        · exact np z
        · rw [upd_same] at z; cases z
      obtain ⟨kvs, b1, b2, b3, b4⟩ := pairs_merge (nm := c.nm) (F := F2) (acc := []) (accD := []) _ (Nat.le_refl _) r2 rfl .nil (by simp) hp
      have hl : kvs.length ≤ 15 := by
        have : (pairV ws).length = kvs.length := by rw [b1, List.length_map]
        have pl : ∀ (n : Nat) (ws : List V), ws.length ≤ n → (pairV ws).length ≤ ws.length / 2 := by
          intro n
          induction n using Nat.strongRecOn with
          | _ n ih =>
            intro ws hn
            match ws with
            | [] => simp [pairV]
            | [_] => simp [pairV]
            | _ :: _ :: r =>
              simp only [List.length_cons] at hn
              have := ih (n - 2) (by omega) r (by omega)
              simp only [pairV, List.length_cons]
              omega
        have := pl _ ws (Nat.le_refl _)
        omega
      refine ⟨hp2, kvs, b1, hl, ?_⟩
      have S3 : Step (Ow σ env) F H (Ow σ env2) F2 (upd H2 p (.dK (mergeK [] kvs))) := by
        have S := Step.trans (Ext.step (σ := σ) (env := env) xt) S2
        refine ⟨S.sub, S.new, fun a o ha na => ?_, S.les, fun a ha => ?_⟩
        · rw [upd_ne (ne_of_none ha n)]; exact S.keep a o ha na
        · by_cases e : a = p
          · subst e; rw [upd_same] at ha; cases ha
          · rw [upd_ne e] at ha; exact S.there a ha
      refine q F2 _ (.ref p) (E2.at_free fp2 np2) S3 ⟨⟨p, rfl, fp2, _, upd_same, b3, b4⟩, fun _ p' e => ?_⟩
      cases e
      exact ⟨n, np2⟩
end
end MT
namespace MT
open PySem PySem.Spec PyProof.Rows L2

section
variable {c : Sx} {σ : St} {F H F1 H1 : Hp} {env env1 : Env}
theorem slot_shares (is : List Nat) : ∀ {env : Env} {j : Nat}, j ∉ is → slot (shares env is) j = slot env j := by
  induction is with
  | nil => intro env j _; rfl
  | cons i is ih =>
    intro env j h
    rw [List.mem_cons, not_or] at h
    show slot (shares (share env i) is) j = _
    rw [ih h.2, slot_share, if_neg (fun e => h.1 e.symm)]
theorem slot_shares_d (is : List Nat) : ∀ {env : Env} {j : Nat}, (slot (shares env is) j).map (·.d) = (slot env j).map (·.d) := by
  induction is with
  | nil => intro env j; rfl
  | cons i is ih =>
    intro env j
    show (slot (shares (share env i) is) j).map _ = _
    rw [ih, slot_share]
    by_cases e : i = j
    · subst e; rw [if_pos rfl]; cases slot env i <;> rfl
    · rw [if_neg e]
theorem slot_shares_own (is : List Nat) : ∀ {env : Env} {j : Nat}, j ∈ is → ∀ x, slot (shares env is) j = some x → x.own = false := by
  induction is with
  | nil => intro env j h; cases h
  | cons i is ih =>
    intro env j h x hx
    by_cases hj : j ∈ is
    · exact ih hj x hx
    · have hij : j = i := by rcases List.mem_cons.mp h with e | e
                             · exact e
                             · exact absurd e hj
      have hx : slot (shares (share env i) is) j = some x := hx
      rw [slot_shares is hj, hij, slot_share, if_pos rfl] at hx
      cases e : slot env i with
      | none => rw [e] at hx; cases hx
      | some v => rw [e] at hx; cases hx; rfl
theorem shares_len (is : List Nat) : ∀ {env : Env}, (shares env is).length = env.length := by
  induction is with
  | nil => intro env; rfl
  | cons i is ih => intro env; show (shares (share env i) is).length = _; rw [ih, share_len]
/-- operands, all of them given to all but those that are handed over to be changed -/
theorem ops_share : ∀ (bs : List Bool) (os : List Opd) (vs : List V) {H0 F H : Hp} {env : Env}, EnvR c.nm F H σ env → Paired (rO c.nm σ H0 F H env) os vs →
    ∃ F2, EnvR c.nm F2 H σ (shares env (noSlots bs os)) ∧ Sub F F2 ∧ (∀ b, F2 b ≠ none → F b ≠ none ∨ Ow σ env b ∨ H0 b = none) ∧ (∀ a, Ow σ (shares env (noSlots bs os)) a → Ow σ env a) ∧
      ∀ ds, getsO os env = some ds → ∀ (k : Nat) v d, bs[k]?.getD false = false → vs[k]? = some v → ds[k]? = some d → Rep c.nm F2 v d
  | bs, [], _, H0, F, H, env, E, p => by
    cases p
    refine ⟨F, ?_, Sub.refl _, fun b hb => .inl hb, ?_, fun ds hd k v d _ hv => by simp at hv⟩
    · cases bs with
      | nil => exact E
      | cons b bs => cases b <;> exact E
    · cases bs with
      | nil => exact fun a h => h
      | cons b bs => cases b <;> exact fun a h => h
  | bs, o :: os, _, H0, F, H, env, E, p => by
    cases p with
    | @cons _ v _ vs r p =>
      -- the rest's flags
      have key : ∀ (bs' : List Bool) (fl : Bool), (bs[0]?.getD false = fl) → (∀ k, bs[k + 1]?.getD false = bs'[k]?.getD false) → (noSlots bs (o :: os) = (if fl = true then noSlots bs' os else match o with | .rd i => i :: noSlots bs' os | .tmp _ => noSlots bs' os)) →
          ∃ F2, EnvR c.nm F2 H σ (shares env (noSlots bs (o :: os))) ∧ Sub F F2 ∧ (∀ b, F2 b ≠ none → F b ≠ none ∨ Ow σ env b ∨ H0 b = none) ∧ (∀ a, Ow σ (shares env (noSlots bs (o :: os))) a → Ow σ env a) ∧
            ∀ ds, getsO (o :: os) env = some ds → ∀ (k : Nat) u d, bs[k]?.getD false = false → (v :: vs)[k]? = some u → ds[k]? = some d → Rep c.nm F2 u d := fun bs' fl h0 hs hn => by
        cases fl with
        | true =>
          rw [hn, if_pos rfl]
          obtain ⟨F2, E2, s2, n2, ow2, rep2⟩ := ops_share bs' os vs E p
          refine ⟨F2, E2, s2, n2, ow2, fun ds hd k u d hb hv hd' => ?_⟩
          · cases k with
            | zero => rw [h0] at hb; cases hb
            | succ k =>
              unfold getsO at hd
              cases e1 : o.get env with
              | none => rw [e1] at hd; cases hd
              | some d0 =>
                rw [e1] at hd
                cases e2 : getsO os env with
                | none => rw [e2] at hd; cases hd
                | some ds' =>
                  rw [e2] at hd; cases hd
                  exact rep2 ds' e2 k u d (by rw [← hs]; exact hb) (by simpa using hv) (by simpa using hd')
        | false =>
          cases o with
          | rd i =>
            rw [hn]
            show ∃ F2, EnvR c.nm F2 H σ (shares (share env i) (noSlots bs' os)) ∧ _
            obtain ⟨F1, E1, S1⟩ := E.share i
            obtain ⟨F2, E2, s2, n2, ow2, rep2⟩ := ops_share bs' os vs E1 (rOs.step p E S1)
            refine ⟨F2, E2, S1.sub.trans s2, fun b hb => ?_, fun a h => ow_share (ow2 a h), fun ds hd k u d hb hv hd' => ?_⟩
            · rcases n2 b hb with z | z | z
              · rcases S1.new b z with z | z | z
                · exact .inl z
                · exfalso
                  cases hf : F1 b with
                  | none => exact ‹F1 b ≠ none› hf
                  | some o => exact (E1.le b o hf).ne z
                · exact .inr (.inl z)
              · exact .inr (.inl (ow_share z))
              · exact .inr (.inr z)
            · have gd : ∀ os : List Opd, getsO os (share env i) = getsO os env := fun os => by
                induction os with
                | nil => rfl
                | cons o os ih =>
                  unfold getsO
                  rw [ih]
                  have : o.get (share env i) = o.get env := by
                    cases o with
                    | tmp x => rfl
                    | rd j =>
                      show (slot (share env i) j).map _ = _
                      rw [slot_share]
                      by_cases e : i = j
                      · subst e; rw [if_pos rfl]; show ((slot env i).map _).map _ = (slot env i).map _; cases slot env i <;> rfl
                      · rw [if_neg e]; rfl
                  rw [this]
              unfold getsO at hd
              cases e1 : (Opd.rd i).get env with
              | none => rw [e1] at hd; cases hd
              | some d0 =>
                rw [e1] at hd
                cases e2 : getsO os env with
                | none => rw [e2] at hd; cases hd
                | some ds' =>
                  rw [e2] at hd; cases hd
                  cases k with
                  | zero =>
                    simp at hv hd'
                    subst hv hd'
                    have e1 : (slot env i).map (·.d) = some d0 := e1
                    cases q : slot env i with
                    | none => rw [q] at e1; cases e1
                    | some x =>
                      rw [q] at e1; cases e1
                      obtain ⟨w, hw, rw'⟩ := E1.val i ⟨x.d, false⟩ (by rw [slot_share, if_pos rfl, q]; rfl)
                      have r : σ[i]? = some (some v) := r
                      rw [r] at hw; cases hw
                      exact Rep.mono s2 rw'
                  | succ k => exact rep2 ds' (by rw [gd]; exact e2) k u d (by rw [← hs]; exact hb) (by simpa using hv) (by simpa using hd')
          | tmp x =>
            rw [hn]
            show ∃ F2, EnvR c.nm F2 H σ (shares env (noSlots bs' os)) ∧ _
            -- the other operands stand by F1, unless one is this very thing
            obtain ⟨F2, E2, s2, n2, ow2, rep2⟩ := ops_share bs' os vs E p
            -- join both
            by_cases ho : x.own = true
            · have hv : ValR c.nm F H v x := r.1
              unfold ValR at hv
              rw [if_pos ho] at hv
              obtain ⟨a, rfl, fa, hat⟩ := hv
              have na : ¬ Ow σ env a := (r.2 ho a rfl).2
              by_cases f2 : F2 a = none
              · have own2 : Own c.nm F2 H (.ref a) x.d := ⟨a, rfl, f2, hat.mono s2 rfl⟩
                obtain ⟨F3, E3, rep3, sb3, _, nw3⟩ := E2.shareV (x := x) (v := .ref a) (by unfold ValR; rw [if_pos ho]; exact own2) fun _ p e z => by cases e; exact na (ow2 a z)
                refine ⟨F3, E3, s2.trans sb3, fun b hb => ?_, ow2, fun ds hd k u d hb hv hd' => ?_⟩
                · rcases nw3 b hb with z | ⟨_, z⟩
                  · exact n2 b z
                  · exact .inr (.inr (r.2 ho b z).1)
                · unfold getsO at hd
                  cases e2 : getsO os env with
                  | none => rw [e2] at hd; cases hd
                  | some ds' =>
                    rw [e2] at hd; cases hd
                    cases k with
                    | zero => simp at hv hd'; subst hv hd'; exact rep3
                    | succ k => exact (rep2 ds' e2 k u d (by rw [← hs]; exact hb) (by simpa using hv) (by simpa using hd')).mono sb3
              · refine ⟨F2, E2, s2, n2, ow2, fun ds hd k u d hb hv hd' => ?_⟩
                · unfold getsO at hd
                  cases e2 : getsO os env with
                  | none => rw [e2] at hd; cases hd
                  | some ds' =>
                    rw [e2] at hd; cases hd
                    cases k with
                    | zero => simp at hv hd'; subst hv hd'; exact hat.rep s2 E2.le f2
                    | succ k => exact rep2 ds' e2 k u d (by rw [← hs]; exact hb) (by simpa using hv) (by simpa using hd')
            · have hv0 : Rep c.nm F v x.d := by have := r.1; unfold ValR at this; rw [if_neg ho] at this; exact this
              refine ⟨F2, E2, s2, n2, ow2, fun ds hd k u d hb hv hd' => ?_⟩
              · unfold getsO at hd
                cases e2 : getsO os env with
                | none => rw [e2] at hd; cases hd
                | some ds' =>
                  rw [e2] at hd; cases hd
                  cases k with
                  | zero => simp at hv hd'; subst hv hd'; exact hv0.mono s2
                  | succ k => exact rep2 ds' e2 k u d (by rw [← hs]; exact hb) (by simpa using hv) (by simpa using hd')
      cases bs with
      | nil => exact key [] false rfl (fun k => by simp) (by cases o <;> rfl)
      | cons b bs => cases b with
        | true => exact key bs true rfl (fun k => by simp) rfl
        | false => exact key bs false rfl (fun k => by simp) (by cases o <;> rfl)

theorem paired_get {α β : Type} {P : α → β → Prop} {xs : List α} {ys : List β} (h : Paired P xs ys) {k : Nat} {y : β} (e : ys[k]? = some y) : ∃ x, xs[k]? = some x ∧ P x y := by
  induction h generalizing k with
  | nil => simp at e
  | cons h _ ih =>
    cases k with
    | zero => simp at e; subst e; exact ⟨_, rfl, h⟩
    | succ k => simpa using ih (by simpa using e)
theorem argR_of {nm : Nm} : ∀ (bs : List Bool) (vs : List V) (ds : List D), vs.length = ds.length → (∀ (k : Nat) v d, vs[k]? = some v → ds[k]? = some d → ValR nm F H v ⟨d, bs[k]?.getD false⟩) → ArgR nm F H bs vs ds
  | [], [], [], _, _ => trivial
  | _ :: _, [], [], _, _ => trivial
  | [], v :: vs, d :: ds, hl, h => ⟨h 0 v d rfl rfl, argR_of [] vs ds (by simpa using hl) fun k v d h1 h2 => by simpa using h (k + 1) v d (by simpa using h1) (by simpa using h2)⟩
  | b :: bs, v :: vs, d :: ds, hl, h => ⟨h 0 v d rfl rfl, argR_of bs vs ds (by simpa using hl) fun k v d h1 h2 => by simpa using h (k + 1) v d (by simpa using h1) (by simpa using h2)⟩
  | [], [], _ :: _, hl, _ => by cases hl
  | [], _ :: _, [], hl, _ => by cases hl
  | _ :: _, [], _ :: _, hl, _ => by cases hl
  | _ :: _, _ :: _, [], hl, _ => by cases hl
theorem getsO_len : ∀ {os : List Opd} {ds : List D}, getsO os env = some ds → os.length = ds.length
  | [], _, h => by cases h; rfl
  | o :: os, ds, h => by
    unfold getsO at h
    cases e : o.get env with
    | none => rw [e] at h; cases h
    | some d =>
      rw [e] at h
      cases e2 : getsO os env with
      | none => rw [e2] at h; cases h
      | some r => rw [e2] at h; cases h; simp [getsO_len e2]
/-- an operand that is handed over: its slot -/
theorem io_at : ∀ {bs : List Bool} {os : List Opd} {vs : List V} {ds : List D} {H0 : Hp}, ioOk bs os env = true → Paired (rO c.nm σ H0 F H env) os vs → getsO os env = some ds →
    ∀ (k : Nat) v d, bs[k]?.getD false = true → vs[k]? = some v → ds[k]? = some d → ∃ i x, i ∈ ioSlots bs os ∧ slot env i = some x ∧ x.own = true ∧ x.d = d ∧ σ[i]? = some (some v)
  | [], os, vs, ds, _, _, _, _, k, v, d, hb, _, _ => by simp at hb
  | b :: bs, [], vs, ds, _, ok, p, g, k, v, d, hb, hv, hd => by cases p; simp at hv
  | b :: bs, o :: os, vs, ds, _, ok, p, g, k, v, d, hb, hv, hd => by
    cases p with
    | @cons _ u _ us r p =>
      unfold getsO at g
      cases e : o.get env with
      | none => rw [e] at g; cases g
      | some d0 =>
        rw [e] at g
        cases e2 : getsO os env with
        | none => rw [e2] at g; cases g
        | some ds' =>
          rw [e2] at g; cases g
          cases b with
          | true =>
            cases o with
            | tmp x => cases ok
            | rd i =>
              have ok : ((match slot env i with | some v => v.own | none => false) && ioOk bs os env) = true := ok
              rw [Bool.and_eq_true] at ok
              cases k with
              | zero =>
                simp at hv hd
                subst hv hd
                have e : (slot env i).map (·.d) = some d0 := e
                cases q : slot env i with
                | none => rw [q] at e; cases e
                | some x =>
                  rw [q] at e; cases e
                  have o1 := ok.1
                  rw [q] at o1
                  exact ⟨i, x, List.mem_cons_self, q, o1, rfl, r⟩
              | succ k =>
                obtain ⟨j, x, h1, h2⟩ := io_at ok.2 p e2 k v d (by simpa using hb) (by simpa using hv) (by simpa using hd)
                exact ⟨j, x, List.mem_cons_of_mem _ h1, h2⟩
          | false =>
            have ok : ioOk bs os env = true := by cases o <;> exact ok
            cases k with
            | zero => simp at hb
            | succ k =>
              obtain ⟨j, x, h1, h2⟩ := io_at ok p e2 k v d (by simpa using hb) (by simpa using hv) (by simpa using hd)
              exact ⟨j, x, by cases o <;> exact h1, h2⟩
theorem io_slots : ∀ {bs : List Bool} {os : List Opd} {vs : List V} {H0 : Hp}, ioOk bs os env = true → Paired (rO c.nm σ H0 F H env) os vs →
    Paired (fun i v => σ[i]? = some (some v) ∧ ∃ x, slot env i = some x ∧ x.own = true) (ioSlots bs os) (ioVs bs vs)
  | [], os, vs, _, ok, p => by cases p <;> exact .nil
  | b :: bs, [], vs, _, ok, p => by cases p; cases b <;> exact .nil
  | b :: bs, o :: os, vs, _, ok, p => by
    cases p with
    | @cons _ u _ us r p =>
      cases b with
      | true =>
        cases o with
        | tmp x => cases ok
        | rd i =>
          have ok : ((match slot env i with | some v => v.own | none => false) && ioOk bs os env) = true := ok
          rw [Bool.and_eq_true] at ok
          refine .cons ⟨r, ?_⟩ (io_slots ok.2 p)
          cases q : slot env i with
          | none => rw [q] at ok; cases ok.1
          | some x => rw [q] at ok; exact ⟨x, rfl, ok.1⟩
      | false =>
        have ok : ioOk bs os env = true := by cases o <;> exact ok
        have t := io_slots ok p
        cases o <;> exact t
theorem paired_mem {α β : Type} {P : α → β → Prop} {xs : List α} {ys : List β} (h : Paired P xs ys) {y : β} (e : y ∈ ys) : ∃ x ∈ xs, P x y := by
  induction h with
  | nil => cases e
  | cons h _ ih =>
    rcases List.mem_cons.mp e with rfl | e
    · exact ⟨_, List.mem_cons_self, h⟩
    · obtain ⟨x, h1, h2⟩ := ih e; exact ⟨x, List.mem_cons_of_mem _ h1, h2⟩
theorem own_ref {nm : Nm} {i : Nat} {v : V} (E : EnvR nm F H σ env) (h : σ[i]? = some (some v) ∧ ∃ x, slot env i = some x ∧ x.own = true) : ∃ a, v = .ref a ∧ Ow σ env a := by
  obtain ⟨hv, x, hx, ho⟩ := h
  obtain ⟨w, hw, r⟩ := E.val i x hx
  rw [hv] at hw; cases hw
  unfold ValR at r
  rw [if_pos ho] at r
  obtain ⟨a, rfl, _, _⟩ := r
  exact ⟨a, rfl, i, x, hx, ho, hv⟩
theorem io_nodup {nm : Nm} (E : EnvR nm F H σ env) {is : List Nat} {vs : List V} (h : Paired (fun i v => σ[i]? = some (some v) ∧ ∃ x, slot env i = some x ∧ x.own = true) is vs) (nd : is.Nodup) : vs.Nodup := by
  induction h with
  | nil => exact List.nodup_nil
  | @cons i v is vs h t ih =>
    rw [List.nodup_cons] at nd ⊢
    refine ⟨fun hm => ?_, ih nd.2⟩
    obtain ⟨j, hj, h2⟩ := paired_mem t hm
    obtain ⟨a, rfl, _⟩ := own_ref E h
    obtain ⟨hv, x, hx, ho⟩ := h
    obtain ⟨hv2, y, hy, hoy⟩ := h2
    have := E.sep i j x y a hx hy ho hoy hv hv2
    subst this
    exact nd.1 hj
theorem ioS_ow {nm : Nm} (E : EnvR nm F H σ env) {bs : List Bool} {os : List Opd} {vs : List V} (h : Paired (fun i v => σ[i]? = some (some v) ∧ ∃ x, slot env i = some x ∧ x.own = true) (ioSlots bs os) (ioVs bs vs)) {a : Addr} (ha : ioS bs vs a) :
    ∃ i ∈ ioSlots bs os, σ[i]? = some (some (.ref a)) ∧ ∃ x, slot env i = some x ∧ x.own = true := by
  obtain ⟨i, hi, h2⟩ := paired_mem h ha
  exact ⟨i, hi, h2⟩

theorem putsO_len : ∀ (is : List Nat) (ds : List D) {env : Env}, (putsO env is ds).length = env.length
  | [], _, _ => rfl
  | _ :: _, [], _ => rfl
  | i :: is, d :: ds, env => by show (putsO (env.set i _) is ds).length = _; rw [putsO_len is ds, List.length_set]
theorem slot_putsO_out : ∀ (is : List Nat) (ds : List D) {env : Env} {j : Nat}, j ∉ is → slot (putsO env is ds) j = slot env j
  | [], _, _, _, _ => rfl
  | _ :: _, [], _, _, _ => rfl
  | i :: is, d :: ds, env, j, h => by
    rw [List.mem_cons, not_or] at h
    show slot (putsO (env.set i _) is ds) j = _
    rw [slot_putsO_out is ds h.2, slot_set, if_neg fun e => h.1 e.1.symm]
theorem slot_putsO_in {nm : Nm} {F' H' : Hp} : ∀ (is : List Nat) (ds : List D) (vs : List V) {env : Env} {j : Nat}, is.Nodup → (∀ i ∈ is, i < env.length) → Paired (fun i v => σ[i]? = some (some v)) is vs → Paired (Own nm F' H') vs ds → j ∈ is →
    ∃ d v, slot (putsO env is ds) j = some ⟨d, true⟩ ∧ σ[j]? = some (some v) ∧ Own nm F' H' v d ∧ v ∈ vs
  | [], _, _, _, _, _, _, _, _, h => by cases h
  | i :: is, ds, vs, env, j, nd, lt, p, q, h => by
    cases p with
    | @cons _ v _ vs p1 p2 =>
      cases q with
      | @cons _ d _ ds q1 q2 =>
        rw [List.nodup_cons] at nd
        by_cases hj : j ∈ is
        · obtain ⟨d', v', h1, h2, h3, h4⟩ := slot_putsO_in is ds vs (env := env.set i (some ⟨d, true⟩)) nd.2 (fun k hk => by rw [List.length_set]; exact lt k (List.mem_cons_of_mem _ hk)) p2 q2 hj
          exact ⟨d', v', h1, h2, h3, List.mem_cons_of_mem _ h4⟩
        · have e : j = i := (List.mem_cons.mp h).elim id fun z => absurd z hj
          subst e
          refine ⟨d, v, ?_, p1, q1, List.mem_cons_self⟩
          show slot (putsO (env.set j (some ⟨d, true⟩)) is ds) j = _
          rw [slot_putsO_out is ds hj, slot_set, if_pos ⟨rfl, lt j List.mem_cons_self⟩]
theorem killO_len : ∀ (is : List Nat) {env : Env}, (killO env is).length = env.length
  | [], _ => rfl
  | i :: is, env => by show (killO (env.set i none) is).length = _; rw [killO_len is, List.length_set]
theorem slot_killO : ∀ (is : List Nat) {env : Env} {j : Nat} {x : Val}, slot (killO env is) j = some x → j ∉ is ∧ slot env j = some x
  | [], _, _, _, h => ⟨by simp, h⟩
  | i :: is, env, j, x, h => by
    have h : slot (killO (env.set i none) is) j = some x := h
    obtain ⟨h1, h2⟩ := slot_killO is h
    rw [slot_set] at h2
    split at h2
    · cases h2
    · rename_i hn
      refine ⟨fun hm => ?_, h2⟩
      rcases List.mem_cons.mp hm with e | e
      · exact hn ⟨e.symm, by rw [← e]; exact slot_lt h2⟩
      · exact h1 e
theorem flat_any {nm : Nm} {F F' : Hp} {v : V} {d : D} (r : Rep nm F' v d) (f : flatD d = true) : Rep nm F v d := by
  cases r with
  | non => exact .non
  | bl => exact .bl
  | int => exact .int
  | str => exact .str
  | _ => exact absurd f Bool.false_ne_true
theorem plain_at {nm : Nm} {F' : Hp} {a : Addr} {d : D} (h : plainD d = true) (r : At nm F' H a d) : At nm F H a d := by
  have fl : ∀ (vs : List V) (ds : List D), ds.all flatD = true → RepL nm F' vs ds → RepL nm F vs ds := by
    intro vs ds
    induction ds generalizing vs with
    | nil => intro _ r; cases r; exact .nil
    | cons d ds ih =>
      intro hd r
      cases r with
      | cons r1 r2 =>
        rw [List.all_cons, Bool.and_eq_true] at hd
        exact .cons (flat_any r1 hd.1) (ih _ hd.2 r2)
  cases d with
  | lst ds => obtain ⟨vs, h1, h2⟩ := r; exact ⟨vs, h1, fl _ _ h h2⟩
  | obj cl fs =>
    obtain ⟨dx, fvs, h1, h2, h3⟩ := r
    refine ⟨dx, fvs, h1, h2, fl _ _ ?_ h3⟩
    rw [List.all_map]
    exact h
  | dK _ => cases h
  | dT _ => cases h
  | _ => exact r.elim
/-- THE CALL: operands that stand for data, the callee's promise -/
theorem call_core {j nps : Nat} {os : List Opd} {vs : List V} {Q : VK} (E1 : EnvR c.nm F1 H1 σ env1) (S1 : Step (Ow σ env) F H (Ow σ env1) F1 H1) (p : Paired (rO c.nm σ H F1 H1 env1) os vs) (hl : vs.length = nps)
    (h : Res c σ F H env (rlV c.nm σ) (callO c.Φ j os env1) Q) : spD c.nm c.Φ nps j vs H1 Q (fun cls dd H' => c.W cls dd σ H') := by
  unfold callO at h
  simp only at h
  split at h
  · rename_i hc
    obtain ⟨ok, nd, dis⟩ := hc
    cases hg : getsO os env1 with
    | none => rw [hg] at h; exact h.elim
    | some ds =>
      rw [hg] at h
      simp only at h
      obtain ⟨F2, E2, sb, nw, ow2, rep2⟩ := ops_share (c.Φ.io j) os vs E1 p
      have sl := io_slots ok p
      have slE : Paired (fun i v => σ[i]? = some (some v)) (ioSlots (c.Φ.io j) os) (ioVs (c.Φ.io j) vs) := Paired.mapP sl fun _ _ z => z.1
      have S12 : Step (Ow σ env) F H (Ow σ (shares env1 (noSlots (c.Φ.io j) os))) F2 H1 :=
        ⟨S1.sub.trans sb, fun b hb => by
          rcases nw b hb with z | z | z
          · exact S1.new b z
          · rcases S1.les b z with z | z
            · exact .inr (.inr z)
            · exact .inr (.inl z)
          · exact .inr (.inl z), S1.keep, fun a ha => S1.les a (ow2 a ha), S1.there⟩
      have io2 : ∀ i ∈ ioSlots (c.Φ.io j) os, slot (shares env1 (noSlots (c.Φ.io j) os)) i = slot env1 i := fun i hi => slot_shares _ (dis i hi)
      have sl2 : Paired (fun i v => σ[i]? = some (some v) ∧ ∃ x, slot (shares env1 (noSlots (c.Φ.io j) os)) i = some x ∧ x.own = true) (ioSlots (c.Φ.io j) os) (ioVs (c.Φ.io j) vs) := by
        have : ∀ (is : List Nat) (us : List V), (∀ i ∈ is, i ∈ ioSlots (c.Φ.io j) os) → Paired (fun i v => σ[i]? = some (some v) ∧ ∃ x, slot env1 i = some x ∧ x.own = true) is us → Paired (fun i v => σ[i]? = some (some v) ∧ ∃ x, slot (shares env1 (noSlots (c.Φ.io j) os)) i = some x ∧ x.own = true) is us := by
          intro is us hs q
          induction q with
          | nil => exact .nil
          | cons q _ ih =>
            obtain ⟨q1, x, q2, q3⟩ := q
            exact .cons ⟨q1, x, by rw [io2 _ (hs _ List.mem_cons_self)]; exact q2, q3⟩ (ih fun i hi => hs i (List.mem_cons_of_mem _ hi))
        exact this _ _ (fun i hi => hi) sl
      refine ⟨F2, ds, hl, E2.le, argR_of _ _ _ ?_ fun k v d hv hd => ?_, io_nodup E1 sl nd, ?_⟩
      · have e1 := Paired.length p
        have e2 := getsO_len hg
        omega
      · cases hb : (c.Φ.io j)[k]?.getD false with
        | false => exact rep2 ds hg k v d hb hv hd
        | true =>
          obtain ⟨i, x, i1, i2, i3, i4, i5⟩ := io_at ok p hg k v d hb hv hd
          obtain ⟨w, hw, r⟩ := E2.val i x (by rw [io2 i i1]; exact i2)
          rw [i5] at hw; cases hw
          unfold ValR at r
          rw [if_pos i3, i4] at r
          exact r
      · -- an io address is an own one
        have ioow : ∀ a, ioS (c.Φ.io j) vs a → Ow σ (shares env1 (noSlots (c.Φ.io j) os)) a := fun a ha => by
          obtain ⟨i, _, h1, x, h2, h3⟩ := ioS_ow E2 sl2 ha
          exact ⟨i, x, h2, h3, h1⟩
        cases hcall : c.Φ.call j ds with
        | stuck => rw [hcall] at h; exact h.elim
        | exc x =>
          rw [hcall] at h
          simp only at h ⊢
          intro F' H' cls dd l' S' r'
          have S2 : Step (Ow σ (shares env1 (noSlots (c.Φ.io j) os))) F2 H1 (Ow σ (killO (shares env1 (noSlots (c.Φ.io j) os)) (ioSlots (c.Φ.io j) os))) F' H' :=
            ⟨S'.sub, fun b hb => (S'.new b hb).imp id (.imp id (ioow b)), fun b o hb nb => S'.keep b o hb fun z => nb (ioow b z), fun b ⟨i, y, hy, z⟩ => .inl ⟨i, y, (slot_killO _ hy).2, z⟩, S'.there⟩
          refine h F' H' cls dd ⟨by rw [killO_len]; exact E2.len, l', fun i y hy => ?_, fun i k y z a hy hz => E2.sep i k y z a (slot_killO _ hy).2 (slot_killO _ hz).2⟩ (S12.trans S2) r'
          obtain ⟨n1, n2⟩ := slot_killO _ hy
          obtain ⟨v, hv, r⟩ := E2.val i y n2
          refine ⟨v, hv, r.step S' fun oy a e ha => ?_⟩
          subst e
          obtain ⟨k, hk, h1, z, h2, h3⟩ := ioS_ow E2 sl2 ha
          have := E2.sep i k y z a n2 h2 oy h3 hv h1
          subst this
          exact n1 hk
        | ok x outs =>
          rw [hcall] at h
          simp only at h ⊢
          split at h
          · rename_i hlen
            intro F' H' w l' S' rw' fr outR
            have lt1 : ∀ i ∈ ioSlots (c.Φ.io j) os, i < env1.length := fun i hi => by
              have : ∀ (is : List Nat) (us : List V), Paired (fun i v => σ[i]? = some (some v) ∧ ∃ x, slot env1 i = some x ∧ x.own = true) is us → ∀ i ∈ is, i < env1.length := by
                intro is us q
                induction q with
                | nil => intro i hi; cases hi
                | cons q _ ih =>
                  intro i hi
                  rcases List.mem_cons.mp hi with e | e
                  · obtain ⟨_, x, q2, _⟩ := q; rw [e]; exact slot_lt q2
                  · exact ih i e
              exact this _ _ sl i hi
            have nio : ∀ i y v a, slot (shares env1 (noSlots (c.Φ.io j) os)) i = some y → y.own = true → σ[i]? = some (some v) → i ∉ ioSlots (c.Φ.io j) os → v = .ref a → ¬ ioS (c.Φ.io j) vs a := fun i y v a hy oy hv hi e ha => by
              subst e
              obtain ⟨k, hk, h1, z, h2, h3⟩ := ioS_ow E2 sl2 ha
              have := E2.sep i k y z a hy h2 oy h3 hv h1
              subst this
              exact hi hk
            split at h
            · -- a flat answer: nothing was given away
              rename_i hf
              obtain ⟨f1, f2, f3⟩ := hf
              have nio1 : ∀ i y v a, slot env1 i = some y → y.own = true → σ[i]? = some (some v) → i ∉ ioSlots (c.Φ.io j) os → v = .ref a → ¬ ioS (c.Φ.io j) vs a := fun i y v a hy oy hv hi e ha => by
                subst e
                obtain ⟨k, hk, h1, z, h2, h3⟩ := ioS_ow E1 sl ha
                have := E1.sep i k y z a hy h2 oy h3 hv h1
                subst this
                exact hi hk
              have ow1 : ∀ a, ioS (c.Φ.io j) vs a → Ow σ env1 a := fun a ha => by
                obtain ⟨i, _, h1, x, h2, h3⟩ := ioS_ow E1 sl ha
                exact ⟨i, x, h2, h3, h1⟩
              have lsl : ∀ i y, slot (putsO env1 (ioSlots (c.Φ.io j) os) outs) i = some y → (i ∉ ioSlots (c.Φ.io j) os ∧ slot env1 i = some y) ∨ (i ∈ ioSlots (c.Φ.io j) os ∧ ∃ d v, y = ⟨d, true⟩ ∧ σ[i]? = some (some v) ∧ Own c.nm F' H' v d ∧ d ∈ outs) := fun i y hy => by
                by_cases hi : i ∈ ioSlots (c.Φ.io j) os
                · obtain ⟨d, v, q1, q2, q3, q4⟩ := slot_putsO_in _ outs _ nd lt1 slE outR hi
                  rw [q1] at hy; cases hy
                  refine .inr ⟨hi, d, v, rfl, q2, q3, ?_⟩
                  have : ∀ (is : List Nat) (ds : List D) (e : Env) (k : Nat) (d : D), is.Nodup → (∀ i ∈ is, i < e.length) → is.length = ds.length → k ∈ is → slot (putsO e is ds) k = some ⟨d, true⟩ → d ∈ ds := by
                    intro is
                    induction is with
                    | nil => intro ds e k d _ _ _ hk; cases hk
                    | cons i is ih =>
                      intro ds e k d nd lt hl hk hs
                      cases ds with
                      | nil => cases hl
                      | cons d0 ds =>
                        rw [List.nodup_cons] at nd
                        by_cases hki : k ∈ is
                        · exact List.mem_cons_of_mem _ (ih ds (e.set i (some ⟨d0, true⟩)) k d nd.2 (fun a ha => by rw [List.length_set]; exact lt a (List.mem_cons_of_mem _ ha)) (by simpa using hl) hki hs)
                        · have e1 : k = i := (List.mem_cons.mp hk).elim id fun z => absurd z hki
                          subst e1
                          have hs : slot (putsO (e.set k (some ⟨d0, true⟩)) is ds) k = some ⟨d, true⟩ := hs
                          rw [slot_putsO_out is ds hki, slot_set, if_pos ⟨rfl, lt k List.mem_cons_self⟩] at hs
                          cases hs
                          exact List.mem_cons_self
                  exact this _ outs env1 i d nd lt1 hlen.symm hi q1
                · rw [slot_putsO_out _ _ hi] at hy
                  exact .inl ⟨hi, hy⟩
              have le1 : Le F1 H' := fun a o ha => l' a o (S'.sub a o (sb a o ha))
              have fn1 : ∀ a, Ow σ env1 a → F1 a = none := fun a ⟨i, y, hy, oy, hv⟩ => by
                obtain ⟨v, hv', r⟩ := E1.val i y hy
                rw [hv] at hv'; cases hv'
                unfold ValR at r
                rw [if_pos oy] at r
                obtain ⟨b, e, fb, _⟩ := r
                cases e
                exact fb
              have E' : EnvR c.nm F1 H' σ (putsO env1 (ioSlots (c.Φ.io j) os) outs) := by
                refine ⟨by rw [putsO_len]; exact E1.len, le1, fun i y hy => ?_, fun i k y z a hy hz oy oz h1 h2 => ?_⟩
                · rcases lsl i y hy with ⟨hi, hy⟩ | ⟨hi, d, v, rfl, q2, q3, q4⟩
                  · obtain ⟨v, hv, r⟩ := E1.val i y hy
                    refine ⟨v, hv, ?_⟩
                    unfold ValR at r ⊢
                    split
                    · rename_i oy
                      rw [if_pos oy] at r
                      obtain ⟨a, rfl, fa, q⟩ := r
                      obtain ⟨o, qo⟩ := q.some
                      exact ⟨a, rfl, fa, q.mono (Sub.refl _) (by rw [qo]; exact S'.keep a o qo (nio1 i y _ a hy oy hv hi rfl))⟩
                    · rename_i oy; rw [if_neg oy] at r; exact r
                  · refine ⟨v, q2, ?_⟩
                    obtain ⟨a, rfl, fa, q⟩ := q3
                    have oa : Ow σ env1 a := ow1 a (by
                      obtain ⟨d', v', w1, w2, w3, w4⟩ := slot_putsO_in _ outs _ nd lt1 slE outR hi
                      rw [q2] at w2; cases w2
                      exact w4)
                    exact ⟨a, rfl, fn1 a oa, plain_at (List.all_eq_true.mp f3 d q4) q⟩
                · have back : ∀ i y, slot (putsO env1 (ioSlots (c.Φ.io j) os) outs) i = some y → y.own = true → ∃ y', slot env1 i = some y' ∧ y'.own = true := fun i y hy oy => by
                    rcases lsl i y hy with ⟨_, hy⟩ | ⟨hi, d, v, rfl, q2, q3, q4⟩
                    · exact ⟨y, hy, oy⟩
                    · have : ∀ (is : List Nat) (us : List V), Paired (fun i v => σ[i]? = some (some v) ∧ ∃ x, slot env1 i = some x ∧ x.own = true) is us → ∀ i ∈ is, ∃ x, slot env1 i = some x ∧ x.own = true := by
                        intro is us q
                        induction q with
                        | nil => intro i hi; cases hi
                        | cons q _ ih =>
                          intro i hi
                          rcases List.mem_cons.mp hi with e | e
                          · rw [e]; exact q.2
                          · exact ih i e
                      exact this _ _ sl i hi
                  obtain ⟨y', b1, b2⟩ := back i y hy oy
                  obtain ⟨z', b3, b4⟩ := back k z hz oz
                  exact E1.sep i k y' z' a b1 b3 b2 b4 h1 h2
              have owb : ∀ a, Ow σ (putsO env1 (ioSlots (c.Φ.io j) os) outs) a → Ow σ env1 a := fun a ⟨i, y, hy, oy, hv⟩ => by
                rcases lsl i y hy with ⟨_, hy⟩ | ⟨hi, d, v, rfl, q2, q3, q4⟩
                · exact ⟨i, y, hy, oy, hv⟩
                · refine ow1 a ?_
                  obtain ⟨d', v', w1, w2, w3, w4⟩ := slot_putsO_in _ outs _ nd lt1 slE outR hi
                  rw [hv] at w2; cases w2
                  exact w4
              have S3 : Step (Ow σ env1) F1 H1 (Ow σ (putsO env1 (ioSlots (c.Φ.io j) os) outs)) F1 H' :=
                ⟨Sub.refl _, fun a h => .inl h, fun a o ha na => S'.keep a o ha fun z => na (ow1 a z), fun a ha => .inl (owb a ha), S'.there⟩
              refine h F1 H' w E' (S1.trans S3) ⟨?_, fun o => by rw [f1] at o; cases o⟩
              have : DataR c.nm F' H' w x.d := rw'.data
              have e : x = ⟨x.d, false⟩ := by cases x; simp only at f1; rw [f1]
              rw [e]
              exact flat_any (flat_rep this f2).2 f2
            · have ltS : ∀ i ∈ ioSlots (c.Φ.io j) os, i < (shares env1 (noSlots (c.Φ.io j) os)).length := fun i hi => by rw [shares_len]; exact lt1 i hi
              have lsl : ∀ i y, slot (putsO (shares env1 (noSlots (c.Φ.io j) os)) (ioSlots (c.Φ.io j) os) outs) i = some y → (i ∉ ioSlots (c.Φ.io j) os ∧ slot (shares env1 (noSlots (c.Φ.io j) os)) i = some y) ∨ (i ∈ ioSlots (c.Φ.io j) os ∧ ∃ d v, y = ⟨d, true⟩ ∧ σ[i]? = some (some v) ∧ Own c.nm F' H' v d ∧ v ∈ ioVs (c.Φ.io j) vs) := fun i y hy => by
                by_cases hi : i ∈ ioSlots (c.Φ.io j) os
                · obtain ⟨d, v, q1, q2, q3, q4⟩ := slot_putsO_in _ outs _ nd ltS slE outR hi
                  rw [q1] at hy; cases hy
                  exact .inr ⟨hi, d, v, rfl, q2, q3, q4⟩
                · rw [slot_putsO_out _ _ hi] at hy
                  exact .inl ⟨hi, hy⟩
              have owb : ∀ a, Ow σ (putsO (shares env1 (noSlots (c.Φ.io j) os)) (ioSlots (c.Φ.io j) os) outs) a → Ow σ (shares env1 (noSlots (c.Φ.io j) os)) a := fun a ⟨i, y, hy, oy, hv⟩ => by
                rcases lsl i y hy with ⟨_, hy⟩ | ⟨hi, d, v, rfl, q2, q3, q4⟩
                · exact ⟨i, y, hy, oy, hv⟩
                · rw [hv] at q2; cases q2
                  exact ioow a q4
              have E' : EnvR c.nm F' H' σ (putsO (shares env1 (noSlots (c.Φ.io j) os)) (ioSlots (c.Φ.io j) os) outs) := by
                refine ⟨by rw [putsO_len]; exact E2.len, l', fun i y hy => ?_, fun i k y z a hy hz oy oz h1 h2 => ?_⟩
                · rcases lsl i y hy with ⟨hi, hy⟩ | ⟨hi, d, v, rfl, q2, q3, q4⟩
                  · obtain ⟨v, hv, r⟩ := E2.val i y hy
                    exact ⟨v, hv, r.step S' fun oy a e => nio i y v a hy oy hv hi e⟩
                  · exact ⟨v, q2, q3⟩
                · have back : ∀ i y, slot (putsO (shares env1 (noSlots (c.Φ.io j) os)) (ioSlots (c.Φ.io j) os) outs) i = some y → y.own = true → ∃ y', slot (shares env1 (noSlots (c.Φ.io j) os)) i = some y' ∧ y'.own = true := fun i y hy oy => by
                    rcases lsl i y hy with ⟨_, hy⟩ | ⟨hi, d, v, rfl, q2, q3, q4⟩
                    · exact ⟨y, hy, oy⟩
                    · have : ∀ (is : List Nat) (us : List V), Paired (fun i v => σ[i]? = some (some v) ∧ ∃ x, slot (shares env1 (noSlots (c.Φ.io j) os)) i = some x ∧ x.own = true) is us → ∀ i ∈ is, ∃ x, slot (shares env1 (noSlots (c.Φ.io j) os)) i = some x ∧ x.own = true := by
                        intro is us q
                        induction q with
                        | nil => intro i hi; cases hi
                        | cons q _ ih =>
                          intro i hi
                          rcases List.mem_cons.mp hi with e | e
                          · rw [e]; exact q.2
                          · exact ih i e
                      exact this _ _ sl2 i hi
                  obtain ⟨y', b1, b2⟩ := back i y hy oy
                  obtain ⟨z', b3, b4⟩ := back k z hz oz
                  exact E2.sep i k y' z' a b1 b3 b2 b4 h1 h2
              have S3 : Step (Ow σ (shares env1 (noSlots (c.Φ.io j) os))) F2 H1 (Ow σ (putsO (shares env1 (noSlots (c.Φ.io j) os)) (ioSlots (c.Φ.io j) os) outs)) F' H' :=
                ⟨S'.sub, fun b hb => (S'.new b hb).imp id (.imp id (ioow b)), fun b o hb nb => S'.keep b o hb fun z => nb (ioow b z), fun a ha => .inl (owb a ha), S'.there⟩
              refine h F' H' w E' (S12.trans S3) ⟨rw', fun o p e => ⟨S1.there p (fr o p e), fun z => ?_⟩⟩
              exact E2.ow_some (owb p z) (fr o p e)
          · exact h.elim
  · exact h.elim
end
end MT
namespace MT
open PySem PySem.Spec PyProof.Rows L2

section
variable {X : Cx} {c : Sx} {e a b : Expr} {es : List Expr} {ia ib ic : IE} {as : IEs} {pos : Pos} {σ : St} {F H F1 H1 : Hp} {env env1 : Env} {α β γ δ : Type}
def biN : BI → Str
  | .len => "len"
  | .sorted => "sorted"
  | .list => "list"
  | .dict => "dict"
  | .max2 => "max"
  | .min2 => "min"
  | .sum => "sum"
  | .any => "any"
  | .all => "all"
theorem biN_boot (b : BI) : bootBuiltins (biN b) = some (biV b) := by cases b <;> decide +kernel
theorem biN_name (b : BI) : biN b ≠ "__name__" := by cases b <;> decide +kernel
theorem biN_debug (b : BI) : (biN b == ("__debug__" : Str)) = false := by cases b <;> decide +kernel
theorem ops_data {H0 : Hp} (E : EnvR c.nm F H σ env) : ∀ {os : List Opd} {vs : List V} {ds : List D}, Paired (rO c.nm σ H0 F H env) os vs → getsO os env = some ds → Paired (DataR c.nm F H) vs ds
  | [], _, ds, p, h => by cases p; cases h; exact .nil
  | o :: os, _, ds, p, h => by
    cases p with
    | cons r p =>
      unfold getsO at h
      cases e : o.get env with
      | none => rw [e] at h; cases h
      | some d =>
        rw [e] at h
        cases e2 : getsO os env with
        | none => rw [e2] at h; cases h
        | some r2 => rw [e2] at h; cases h; exact .cons (r.data E e) (ops_data E p e2)
theorem s_bi (bb : BI) {p : Pos} (hK : X.K = c.nm.K) (hc : X.calm = true) (hg : Gl X (biN bb)) (hm : X.mg (biN bb) = none) (ha : PA X (e :: es) (tOs c as)) (he : starEach (e :: es) X.env = (false, eval e X.env) :: starEach es X.env)
    (hpl : (backTo pos (starEach es X.env)).any (·.1) = false) : PE X (.Call (.Name (biN bb) p) (e :: es) [] pos) (tE c (.bi bb as)) := by
  have key : PE X (.Call (.Name (biN bb) p) (e :: es) [] pos) (tCB (rBi c.nm bb) (tOs c as)) := by
    have hv := biN_boot bb
    cases hb : biV bb with
    | builtin id => rw [hb] at hv; exact pe_callB (by have := bi_call (nm := c.nm) hK hc bb; rw [hb] at this; exact this) hg hm hv ha (biN_name bb) (biN_debug bb) he hpl
    | type T => rw [hb] at hv; exact pe_callTy (by have := bi_call (nm := c.nm) hK hc bb; rw [hb] at this; exact this) hg hm hv ha (biN_name bb) (biN_debug bb) he hpl
    | _ => cases bb <;> cases hb
  refine key.imp fun σ H Q ⟨F, env, E, q⟩ => ?_
  refine ⟨F, env, E, Res_bind q fun os vs F1 H1 env1 E1 S1 r1 h1 => ?_⟩
  obtain ⟨z, hz, h1⟩ := opt_ok h1
  cases hg' : getsO os env1 with
  | none => rw [hg'] at hz; cases hz
  | some ds =>
    rw [hg'] at hz
    exact ⟨F1, ds, z, E1.le, ops_data E1 r1 hg', hz, Res.fin E1 (Res.shift h1 S1)⟩
def tyN : Ty → String
  | .str => "str"
  | .int => "int"
  | .bool => "bool"
  | .list => "list"
  | .tuple => "tuple"
  | .dict => "dict"
  | .cls _ => ""
theorem isi_b {K : PySem.W.Frag} {nm : Nm} {v : V} {d : D} {t : Ty} (l : Le F H) (r : DataR nm F H v d) (hd : isiOk d [t] = true) : ∃ tv, TyX K H v tv ∧ PySem.W.kitOne K tv (.type (tyN t)) = some (isTy c.Φ d t) := by
  cases d with
  | non => cases r.non; exact ⟨_, .base .non, by cases t <;> first | (cases hd; done) | (with_unfolding_all rfl)⟩
  | bl b => cases r.bl; exact ⟨_, .base (.bl _), by cases t <;> first | (cases hd; done) | (with_unfolding_all rfl)⟩
  | int b => cases r.int; exact ⟨_, .base (.int _), by cases t <;> first | (cases hd; done) | (with_unfolding_all rfl)⟩
  | str b => cases r.str; exact ⟨_, .base (.str _), by cases t <;> first | (cases hd; done) | (with_unfolding_all rfl)⟩
  | scr ns => unfold isiOk at hd; simp at hd
  | lst ds => obtain ⟨a, vs, rfl, h, _⟩ := r.lst l; exact ⟨_, .base (.lst h), by cases t <;> first | (cases hd; done) | (with_unfolding_all rfl)⟩
  | tup ds => obtain ⟨a, vs, rfl, _, h, _⟩ := r.tup l; exact ⟨_, .base (.tup h), by cases t <;> first | (cases hd; done) | (with_unfolding_all rfl)⟩
  | dK ds =>
    obtain ⟨a, vs, rfl, h, _⟩ := r.dK l
    refine ⟨.type "dict", ?_, by cases t <;> first | (cases hd; done) | (with_unfolding_all rfl)⟩
    rcases h with h | ⟨o, h⟩
    · exact .base (.dK h)
    · exact .fDict h
  | dT ds => unfold isiOk at hd; simp at hd
  | obj cl fs => unfold isiOk at hd; simp at hd
theorem ty_boot (t : Ty) (h : noCls t = true) : bootBuiltins (tyN t : String) = some (.type (tyN t)) := by cases t <;> first | (cases h; done) | decide +kernel
theorem s_isi {t : Ty} {p pt : Pos} (ht : noCls t = true) (hg : Gl X "isinstance") (hm : X.mg "isinstance" = none) (hgt : Gl X (tyN t : String)) (hmt : X.mg (tyN t : String) = none) (ha : PE X a (tO c ia))
    (he : starEach [a, .Name (tyN t : String) pt] X.env = (false, eval a X.env) :: starEach [.Name (tyN t : String) pt] X.env) (he2 : starEach [.Name (tyN t : String) pt] X.env = (false, eval (.Name (tyN t : String) pt) X.env) :: starEach [] X.env)
    (hpl : (backTo pos (starEach [.Name (tyN t : String) pt] X.env)).any (·.1) = false) : PE X (.Call (.Name "isinstance" p) [a, .Name (tyN t : String) pt] [] pos) (tE c (.isi ia [t])) := by
  have hn : (tyN t : Str) ≠ "__name__" := by cases t <;> first | (cases ht; done) | decide +kernel
  have hdb : ((tyN t : Str) == ("__debug__" : Str)) = false := by cases t <;> first | (cases ht; done) | decide +kernel
  refine (pe_callB call_isi hg hm (by decide +kernel) (pa_cons ha (pa_cons (pe_bltn (v := .ty (tyN t)) hgt hmt (ty_boot t ht) rfl hn hdb) pa_nil he2) he) (by decide) (by decide) he hpl).imp fun σ H Q ⟨F, env, E, q⟩ => ?_
  refine ⟨F, env, E, Res_bind q fun x v F1 H1 env1 E1 S1 r1 h1 => ?_⟩
  cases e : x.get env1 with
  | none => rw [e] at h1; exact h1.elim
  | some d =>
    rw [e] at h1
    simp only at h1
    split at h1
    · rename_i hi
      obtain ⟨tv, ty, kit⟩ := isi_b (K := X.K) (c := c) E1.le (rO.data r1 E1 e) hi
      refine ⟨v, .ty (tyN t), tv, _, _, rfl, .ty _, ty, kit, ?_⟩
      have := h1 F1 H1 (.bl ([t].any (isTy c.Φ d))) E1 S1 ⟨.bl, fun z => nomatch z⟩
      simpa using this
    · exact h1.elim
def _root_.MT.IEs.len : IEs → Nat
  | .nil => 0
  | .cons _ es => es.len + 1
theorem evo_len {Φ : CT} {io : List Nat} : ∀ (as : IEs) {e e' : Env} {os : List Opd}, evo Φ io as e = .ok os e' → os.length = as.len
  | .nil, _, _, _, h => by unfold evo at h; cases h; rfl
  | .cons a as, e, e', os, h => by
    unfold evo at h
    cases h1 : mkO a (ev Φ io a) e with
    | ok x e1 =>
      rw [h1] at h
      have h : (evo Φ io as e1).bind (fun os e => R.ok (x :: os) e) = R.ok os e' := h
      cases h2 : evo Φ io as e1 with
      | ok os2 e2 => rw [h2] at h; cases h; simp [evo_len as h2, IEs.len]
      | exc _ _ => rw [h2] at h; cases h
      | stuck => rw [h2] at h; cases h
    | exc _ _ => rw [h1] at h; cases h
    | stuck => rw [h1] at h; cases h
theorem Res_bindE {r : R α} {g : α → Env → R γ} {rlA : Rl α β} {rlC : Rl γ δ} {Q : δ → Hp → Prop} {Q1 : β → Hp → Prop} (h : Res c σ F H env rlC (r.bind g) Q)
    (k : ∀ a b F1 H1 env1, r = .ok a env1 → EnvR c.nm F1 H1 σ env1 → Step (Ow σ env) F H (Ow σ env1) F1 H1 → rlA.r H a b F1 H1 env1 → Res c σ F H env rlC (g a env1) Q → Q1 b H1) : Res c σ F H env rlA r Q1 := by
  cases r with
  | ok a env1 => exact fun F1 H1 b E1 S1 r1 => k a b F1 H1 env1 rfl E1 S1 r1 h
  | exc x env1 => exact h
  | stuck => exact h
theorem s_call {j k nps : Nat} {fd : FuncData} {f : Addr} {ps : List Str} {x : Str} {p : Pos} (F : FnOk X.prog X.w X.K X.mg X.base (L2.CX X.prog X.w) k f fd ps (spD c.nm c.Φ nps j)) (hr : Room k X.A) (hg : Gl X x) (hm : X.mg x = some (.ref f)) (hk : PySem.W.keepIn X.K (.ref f) = true) (hb : Binds X.K fd ps [])
    (tk : Takes X c.W) (hn : as.len = nps) (ha : PA X (e :: es) (tOs c as)) (hl : (x == ("__debug__" : Str)) = false) (he : starEach (e :: es) X.env = (false, eval e X.env) :: starEach es X.env) (hpl : (backTo pos (starEach es X.env)).any (·.1) = false) :
    PE X (.Call (.Name x p) (e :: es) [] pos) (tE c (.call j as)) := by
  refine (pe_callS F hr hg hm hk hb (passAt tk) ha hl he hpl).imp fun σ H Q ⟨F, env, E, q⟩ => ?_
  refine ⟨F, env, E, Res_bindE q fun os vs F1 H1 env1 eq E1 S1 r1 h1 => ?_⟩
  exact call_core E1 S1 r1 (by rw [← hn, ← evo_len as eq]; exact (Paired.length r1).symm) h1
theorem EnvR.mutate {nm : Nm} {i : Nat} {p : Addr} {d d' : D} {o : HO} (E : EnvR nm F H σ env) (hs : slot env i = some ⟨d, true⟩) (hv : σ[i]? = some (some (.ref p))) (ha : At nm F (upd H p o) p d') :
    EnvR nm F (upd H p o) σ (env.set i (some ⟨d', true⟩)) ∧ Step (Ow σ env) F H (Ow σ (env.set i (some ⟨d', true⟩))) F (upd H p o) := by
  have ow : Ow σ env p := ⟨i, _, hs, rfl, hv⟩
  have fp : F p = none := by
    obtain ⟨v, hv2, r⟩ := E.val i _ hs
    rw [hv] at hv2; cases hv2
    obtain ⟨b, e, fb, _⟩ := r.ownR
    cases e; exact fb
  have lt := slot_lt hs
  refine ⟨⟨by rw [List.length_set]; exact E.len, fun b u hb => ?_, fun j y hy => ?_, fun j k y z b hy hz oy oz h1 h2 => ?_⟩, ⟨Sub.refl _, fun b hb => .inl hb, fun b u hb nb => ?_, fun b hb => .inl ?_, fun b hb => ?_⟩⟩
  · rw [upd_ne (ne_of_none hb fp)]; exact E.le b u hb
  · rw [slot_set] at hy
    by_cases hij : i = j
    · subst hij
      rw [if_pos ⟨rfl, lt⟩] at hy
      cases hy
      exact ⟨_, hv, ValR.of_own ⟨p, rfl, fp, ha⟩⟩
    · rw [if_neg fun z => hij z.1] at hy
      obtain ⟨w, hw, r⟩ := E.val j y hy
      refine ⟨w, hw, ?_⟩
      unfold ValR at r ⊢
      split
      · rename_i oy
        rw [if_pos oy] at r
        obtain ⟨b, rfl, fb, q⟩ := r
        have ne : b ≠ p := fun z => by
          subst z
          exact hij (E.sep i j _ y b hs hy rfl oy hv hw)
        exact ⟨b, rfl, fb, q.mono (Sub.refl _) (upd_ne ne)⟩
      · rename_i oy
        rw [if_neg oy] at r
        exact r
  · have key : ∀ j y, slot (env.set i (some ⟨d', true⟩)) j = some y → y.own = true → ∃ y', slot env j = some y' ∧ y'.own = true := fun j y hy oy => by
      rw [slot_set] at hy
      by_cases hij : i = j
      · subst hij; exact ⟨_, hs, rfl⟩
      · rw [if_neg fun z => hij z.1] at hy
        exact ⟨y, hy, oy⟩
    obtain ⟨y', a1, a2⟩ := key j y hy oy
    obtain ⟨z', b1, b2⟩ := key k z hz oz
    exact E.sep j k y' z' b a1 b1 a2 b2 h1 h2
  · rw [upd_ne fun z => nb (by subst z; exact ow)]; exact hb
  · obtain ⟨j, y, hy, oy, hj⟩ := hb
    rw [slot_set] at hy
    by_cases hij : i = j
    · subst hij; exact ⟨_, _, hs, rfl, hj⟩
    · rw [if_neg fun z => hij z.1] at hy
      exact ⟨j, y, hy, oy, hj⟩
  · by_cases hbp : b = p
    · subst hbp; rw [upd_same] at hb; cases hb
    · rw [upd_ne hbp] at hb; exact hb
/-- its thing, as it lies -/
theorem EnvR.own_at {nm : Nm} {i : Nat} {x : Val} (E : EnvR nm F H σ env) (hs : slot env i = some x) (ho : x.own = true) : ∃ p, σ[i]? = some (some (.ref p)) ∧ F p = none ∧ At nm F H p x.d ∧ Ow σ env p := by
  obtain ⟨v, hv, r⟩ := E.val i x hs
  unfold ValR at r
  rw [if_pos ho] at r
  obtain ⟨p, rfl, fp, a⟩ := r
  exact ⟨p, hv, fp, a, i, x, hs, ho, hv⟩
theorem s_append {i : Nat} {o : Expr} {apos : Pos} (ho : PE X o (tVar i)) (ha : PA X (e :: es) (tVs c as)) (hn : as.len = 1)
    (hbase : attributeBase o "append" X.env (eval o X.env) = eval o X.env)
    (hfew : ((backTo pos (starEach (e :: es) X.env)).all (fun x => !x.1) && (backToKw pos (keywordEach [] X.env)).all (fun x => x.1.isSome)
      && decide ((e :: es).length + ([] : List Keyword).length + (if ([] : List Keyword).isEmpty then 0 else 1) < 30)) = true)
    (hline : (apos.endLine == pos.line) = true) (hs : starEach (e :: es) X.env = (false, eval e X.env) :: starEach es X.env) (hplain : (backTo pos (starEach es X.env)).any (·.1) = false) :
    PE X (.Call (.Attribute o "append" apos) (e :: es) [] pos) (tE c (.mu i .append as)) := by
  refine (pe_bm PySem.F.plainAttrs_list PySem.F.slot_list_append PySem.F.type_list_append (mt_append : MtM X _ _) ho ha hbase hfew hline hs hplain).imp fun σ H Q ⟨F, env, E, q⟩ => ?_
  unfold ev at q
  cases h0 : slot env i with
  | none => rw [h0] at q; exact q.elim
  | some x0 =>
    rw [h0] at q
    simp only at q
    split at q
    · rename_i hp
      obtain ⟨p, hv, fp, at0, ow⟩ := E.own_at h0 hp.1
      have pl : ∃ xs, x0.d = .lst xs := by
        have hp2 := hp.2
        unfold preM at hp2
        split at hp2
        · rename_i ex; exact ⟨_, ex⟩
        all_goals simp_all
      obtain ⟨xs0, e0⟩ := pl
      rw [e0] at at0
      obtain ⟨vs0, hv0, _⟩ := at0
      refine ⟨.ref p, hv, .inl ⟨rfl, _, .inl (.inl hv0)⟩, F, env, E, Res_bind q fun ds ws F1 H1 env1 E1 S1 r1 h1 => ?_⟩
      cases h2 : slot env1 i with
      | none => rw [h2] at h1; exact h1.elim
      | some x1 =>
        rw [h2] at h1
        simp only at h1
        split at h1
        · rename_i ho1
          cases hm : muD .append x1.d ds with
          | none => rw [hm] at h1; exact h1.elim
          | some z =>
            obtain ⟨d', r⟩ := z
            rw [hm] at h1
            unfold muD at hm
            split at hm
            · rename_i xs1 d _ ex
              split at hm
              · rename_i hl
                cases hm
                obtain ⟨p1, hv1, fp1, at1, ow1⟩ := E1.own_at h2 ho1
                rw [hv] at hv1; cases hv1
                rw [ex] at at1
                obtain ⟨vs1, hp1, rr⟩ := at1
                have r1 : RepL c.nm F1 ws [d] := r1
                cases r1 with
                | cons rd rn =>
                cases rn
                have hx1 : x1 = ⟨.lst xs1, true⟩ := by cases x1; simp only at ex ho1; rw [ex, ho1]
                obtain ⟨E2, S2⟩ := E1.mutate (d' := .lst (xs1 ++ [d])) (o := .lst (vs1 ++ [_])) (by rw [h2, hx1]) hv ⟨_, upd_same, rr.append (.cons rd .nil)⟩
                exact ⟨p, vs1, _, rfl, rfl, hp1, by rw [line_eq, rr.length]; exact hl, h1 F1 _ .non E2 (S1.trans S2) ⟨.non, fun z => nomatch z⟩⟩
              · cases hm
            all_goals first | contradiction | (cases hm; done)
        · exact h1.elim
    · exact q.elim
end
end MT
namespace MT
open PySem PySem.Spec PyProof.Rows L2

/-- J walks the items, as long as F stands -/
structure Wk (nm : Nm) (F : Hp) (items : List D) (J : It) : Prop where
  go : ∀ i F' H', Sub F F' → Le F' H' → i < items.length → J.go i H'
  stop : ∀ i F' H', Sub F F' → Le F' H' → items.length ≤ i → J.stop i H'
  yld : ∀ i d F' H' x H'', Sub F F' → Le F' H' → items[i]? = some d → J.yld i H' x H'' → ∃ F'', Ext F' H' F'' H'' ∧ Rep nm F'' x d
theorem Wk.mono {nm : Nm} {F F1 : Hp} {items : List D} {J : It} (h : Wk nm F items J) (s : Sub F F1) : Wk nm F1 items J :=
  ⟨fun i F' H' b => h.go i F' H' (s.trans b), fun i F' H' b => h.stop i F' H' (s.trans b), fun i d F' H' x H'' b => h.yld i d F' H' x H'' (s.trans b)⟩
def rlI (nm : Nm) (σ : St) : Rl (List D) It := ⟨fun _ items J F' _ _ => Wk nm F' items J, fun _ q => q⟩
abbrev tI (c : Sx) (k : ItK) (as : IEs) : TI := tR c (rlI c.nm) fun e => (evo c.Φ c.io as e).bind fun os e => itR k os e

section
variable {nm : Nm} {F : Hp} {K : PySem.W.Frag}
theorem wk_seq {a : Addr} {vs : List V} {ds : List D} (hS : ∀ F' H', Sub F F' → Le F' H' → SqL K H' a vs) (r : RepL nm F vs ds) : Wk nm F ds (Itl K a) where
  go := fun i F' H' s l h => by
    have : ∃ x, vs[i]? = some x := ⟨_, List.getElem?_eq_getElem (by rw [r.length]; exact h)⟩
    obtain ⟨x, hx⟩ := this
    exact ⟨vs, x, hS F' H' s l, hx⟩
  stop := fun i F' H' s l h => ⟨vs, hS F' H' s l, by rw [r.length]; exact h⟩
  yld := fun i d F' H' x H'' s l h y => by
    obtain ⟨e, q⟩ := y
    subst e
    obtain ⟨v, hv, rv⟩ := r.get h
    have := q vs (hS F' H'' s l)
    rw [hv] at this; cases this
    exact ⟨F', Ext.refl l, rv.mono s⟩
theorem wk_tup {a : Addr} {vs : List V} {ds : List D} (h : F a = some (.tup vs)) (r : RepL nm F vs ds) : Wk nm F ds (Itt K a) where
  go := fun i F' H' s l hi => by
    have : ∃ x, vs[i]? = some x := ⟨_, List.getElem?_eq_getElem (by rw [r.length]; exact hi)⟩
    obtain ⟨x, hx⟩ := this
    exact ⟨vs, x, SqT.of (l.tup (s _ _ h)), hx⟩
  stop := fun i F' H' s l hi => ⟨vs, SqT.of (l.tup (s _ _ h)), by rw [r.length]; exact hi⟩
  yld := fun i d F' H' x H'' s l hi y => by
    obtain ⟨e, q⟩ := y
    subst e
    obtain ⟨v, hv, rv⟩ := r.get hi
    have := q vs (SqT.of (l.tup (s _ _ h)))
    rw [hv] at this; cases this
    exact ⟨F', Ext.refl l, rv.mono s⟩
theorem wk_str (z : Str) : Wk nm F (z.cps.toList.map fun c => D.str ⟨#[c]⟩) (Its z) where
  go := fun i F' H' s l hi => by simpa [Its] using hi
  stop := fun i F' H' s l hi => by simpa [Its] using hi
  yld := fun i d F' H' x H'' s l hi y => by
    obtain ⟨e, c, hc, rfl⟩ := y
    subst e
    have : d = .str ⟨#[c]⟩ := by
      rw [List.getElem?_map, Array.getElem?_toList, hc] at hi
      exact (Option.some.inj hi).symm
    subst this
    exact ⟨F', Ext.refl l, .str⟩
theorem wk_range (lo : Int) (n : Nat) : Wk nm F (rangeD lo n) (Itr lo n) where
  go := fun i F' H' s l hi => by simpa [Itr, rangeD] using hi
  stop := fun i F' H' s l hi => by simpa [Itr, rangeD] using hi
  yld := fun i d F' H' x H'' s l hi y => by
    obtain ⟨e, rfl⟩ := y
    subst e
    have : d = .int (lo + i) := by
      unfold rangeD at hi
      rw [List.getElem?_map] at hi
      by_cases h : i < n
      · rw [List.getElem?_range h] at hi
        exact (Option.some.inj hi).symm
      · rw [List.getElem?_eq_none (by simpa using h)] at hi; cases hi
    subst this
    exact ⟨F', Ext.refl l, .int⟩
theorem pairsE_len : ∀ (ds : List D) (n : Nat), (pairsE n ds).length = ds.length
  | [], _ => rfl
  | d :: ds, n => by simp [pairsE, pairsE_len ds]
theorem pairsE_get : ∀ (ds : List D) (n i : Nat) {d : D}, (pairsE n ds)[i]? = some d → ∃ e, ds[i]? = some e ∧ d = .tup [.int ((n + i : Nat) : Int), e]
  | [], _, _, _, h => by simp [pairsE] at h
  | d :: ds, n, 0, _, h => by simp [pairsE] at h; subst h; exact ⟨d, rfl, by simp⟩
  | d :: ds, n, i + 1, _, h => by
    obtain ⟨e, h1, h2⟩ := pairsE_get ds (n + 1) i (by simpa [pairsE] using h)
    exact ⟨e, by simpa using h1, by rw [h2]; congr 4; omega⟩
theorem wk_enum {a : Addr} {vs : List V} {ds : List D} (h : F a = some (.lst vs)) (r : RepL nm F vs ds) : Wk nm F (pairsE 0 ds) (Ite K a) where
  go := fun i F' H' s l hi => by
    rw [pairsE_len] at hi
    have : ∃ x, vs[i]? = some x := ⟨_, List.getElem?_eq_getElem (by rw [r.length]; exact hi)⟩
    obtain ⟨x, hx⟩ := this
    exact ⟨vs, x, SqL.of (l.lst (s _ _ h)), hx⟩
  stop := fun i F' H' s l hi => ⟨vs, SqL.of (l.lst (s _ _ h)), by rw [r.length, ← pairsE_len ds 0]; exact hi⟩
  yld := fun i d F' H' x H'' s l hi y => by
    obtain ⟨T, y, rfl, hn, rfl, q⟩ := y
    obtain ⟨e, he, rfl⟩ := pairsE_get ds 0 i hi
    obtain ⟨v, hv, rv⟩ := r.get he
    have := q vs (SqL.of (l.lst (s _ _ h)))
    rw [hv] at this; cases this
    obtain ⟨x, sb⟩ := Ext.shr (o := .tup [.int (i : Nat), y]) l hn
    exact ⟨_, x, .tup upd_same (.cons (by rw [Nat.zero_add]; exact .int) (.cons (rv.mono (s.trans sb)) .nil))⟩
theorem zipD_get : ∀ (xs ys : List D) (i : Nat) {d : D}, (zipD xs ys)[i]? = some d → ∃ e f, xs[i]? = some e ∧ ys[i]? = some f ∧ d = .tup [e, f]
  | [], _, _, _, h => by simp [zipD] at h
  | _ :: _, [], _, _, h => by simp [zipD] at h
  | x :: xs, y :: ys, 0, _, h => by simp [zipD] at h; subst h; exact ⟨x, y, rfl, rfl, rfl⟩
  | x :: xs, y :: ys, i + 1, _, h => by simpa using zipD_get xs ys i (by simpa [zipD] using h)
theorem zipD_len : ∀ (xs ys : List D), (zipD xs ys).length = min xs.length ys.length
  | [], _ => by simp [zipD]
  | _ :: _, [] => by simp [zipD]
  | x :: xs, y :: ys => by simp only [zipD, List.length_cons, zipD_len xs ys]; omega
theorem wk_zip {a b : Addr} {vs ws : List V} {ds es : List D} (h : F a = some (.lst vs)) (r : RepL nm F vs ds) (h2 : F b = some (.lst ws)) (r2 : RepL nm F ws es) : Wk nm F (zipD ds es) (Itz K a b) where
  go := fun i F' H' s l hi => by
    rw [zipD_len] at hi
    have h3 : ∃ x, vs[i]? = some x := ⟨_, List.getElem?_eq_getElem (by rw [r.length]; omega)⟩
    have h4 : ∃ x, ws[i]? = some x := ⟨_, List.getElem?_eq_getElem (by rw [r2.length]; omega)⟩
    obtain ⟨x, hx⟩ := h3
    obtain ⟨y, hy⟩ := h4
    exact ⟨vs, ws, x, y, SqL.of (l.lst (s _ _ h)), SqL.of (l.lst (s _ _ h2)), hx, hy⟩
  stop := fun i F' H' s l hi => ⟨vs, ws, SqL.of (l.lst (s _ _ h)), SqL.of (l.lst (s _ _ h2)), by rw [zipD_len] at hi; rw [r.length, r2.length]; omega⟩
  yld := fun i d F' H' x H'' s l hi y => by
    obtain ⟨T, y1, y2, rfl, hn, rfl, q1, q2⟩ := y
    obtain ⟨e, f, he, hf, rfl⟩ := zipD_get ds es i hi
    obtain ⟨v, hv, rv⟩ := r.get he
    obtain ⟨w, hw, rw'⟩ := r2.get hf
    have := q1 vs (SqL.of (l.lst (s _ _ h)))
    rw [hv] at this; cases this
    have := q2 ws (SqL.of (l.lst (s _ _ h2)))
    rw [hw] at this; cases this
    obtain ⟨x, sb⟩ := Ext.shr (o := .tup [y1, y2]) l hn
    exact ⟨_, x, .tup upd_same (.cons (rv.mono (s.trans sb)) (.cons (rw'.mono (s.trans sb)) .nil))⟩
theorem wk_rev {a : Addr} {vs : List V} {ds : List D} (h : F a = some (.lst vs)) (r : RepL nm F vs ds) : Wk nm F ds.reverse (Itv K a vs.length) where
  go := fun i F' H' s l hi => by
    rw [List.length_reverse, ← r.length] at hi
    have : ∃ x, vs[vs.length - 1 - i]? = some x := ⟨_, List.getElem?_eq_getElem (by omega)⟩
    obtain ⟨x, hx⟩ := this
    exact ⟨hi, vs, x, SqL.of (l.lst (s _ _ h)), hx⟩
  stop := fun i F' H' s l hi => by rw [List.length_reverse, ← r.length] at hi; exact hi
  yld := fun i d F' H' x H'' s l hi y => by
    obtain ⟨e, q⟩ := y
    subst e
    have lt : i < ds.length := by
      rcases Nat.lt_or_ge i ds.reverse.length with z | z
      · simpa using z
      · rw [List.getElem?_eq_none z] at hi; cases hi
    rw [List.getElem?_reverse lt, ← r.length] at hi
    obtain ⟨v, hv, rv⟩ := r.get hi
    have := q vs (SqL.of (l.lst (s _ _ h)))
    rw [hv] at this; cases this
    exact ⟨F', Ext.refl l, rv.mono s⟩
end
section
variable {X : Cx} {c : Sx} {e a b tg : Expr} {es : List Expr} {ia ib ic : IE} {as : IEs} {pos : Pos} {σ : St} {F H F1 H1 : Hp} {env env1 : Env} {α β γ δ : Type} {k : ItK}
theorem it_core {os : List Opd} {vs : List V} {R : It → Hp → Prop} (E1 : EnvR c.nm F1 H1 σ env1) (S1 : Step (Ow σ env) F H (Ow σ env1) F1 H1) (p : Paired (rO c.nm σ H F1 H1 env1) os vs)
    (h : Res c σ F H env (rlI c.nm σ) (itR k os env1) R) : ∃ F2 ds items, Le F2 H1 ∧ ds.length = vs.length ∧ itemsD k ds = some items ∧ (∀ (k : Nat) v d, vs[k]? = some v → ds[k]? = some d → Rep c.nm F2 v d) ∧ ∀ J, Wk c.nm F2 items J → R J H1 := by
  unfold itR at h
  cases hg : getsO os env1 with
  | none => rw [hg] at h; exact h.elim
  | some ds =>
    rw [hg] at h
    cases hi : itemsD k ds with
    | none =>
      have : (some ds).bind (itemsD k) = none := hi
      rw [this] at h; exact h.elim
    | some items =>
      have : (some ds).bind (itemsD k) = some items := hi
      rw [this] at h
      obtain ⟨F2, E2, sb, nw, ow2, rep2⟩ := ops_share [] os vs E1 p
      have S12 : Step (Ow σ env) F H (Ow σ (shares env1 (noSlots [] os))) F2 H1 :=
        ⟨S1.sub.trans sb, fun b hb => by
          rcases nw b hb with z | z | z
          · exact S1.new b z
          · rcases S1.les b z with z | z
            · exact .inr (.inr z)
            · exact .inr (.inl z)
          · exact .inr (.inl z), S1.keep, fun a ha => S1.les a (ow2 a ha), S1.there⟩
      exact ⟨F2, ds, items, E2.le, by rw [← getsO_len hg, Paired.length p], hi, fun k v d => rep2 ds hg k v d rfl, fun J wk => h F2 H1 J E2 S12 wk⟩
theorem len1 {α : Type} {xs : List α} (h : xs.length = 1) : ∃ x, xs = [x] := by
  match xs, h with
  | [x], _ => exact ⟨x, rfl⟩
theorem len2 {α : Type} {xs : List α} (h : xs.length = 2) : ∃ x y, xs = [x, y] := by
  match xs, h with
  | [x, y], _ => exact ⟨x, y, rfl⟩
/-- one operand -/
theorem tI_one {R : It → Hp → Prop} (h : tI c k (.cons ia .nil) σ H R) : tO c ia σ H fun v H1 => ∃ F2 d items, Le F2 H1 ∧ itemsD k [d] = some items ∧ Rep c.nm F2 v d ∧ ∀ J, Wk c.nm F2 items J → R J H1 := by
  obtain ⟨F, env, E, q⟩ := h
  refine ⟨F, env, E, ?_⟩
  have e : ((evo c.Φ c.io (.cons ia .nil) env).bind fun os e => itR k os e) = (mkO ia (ev c.Φ c.io ia) env).bind fun x e => itR k [x] e := by
    show ((mkO ia (ev c.Φ c.io ia) env).bind fun x e => (evo c.Φ c.io .nil e).bind fun os e => MT.R.ok (x :: os) e).bind _ = _
    cases mkO ia (ev c.Φ c.io ia) env <;> rfl
  have q : Res c σ F H env (rlI c.nm σ) ((evo c.Φ c.io (.cons ia .nil) env).bind fun os e => itR k os e) R := q
  rw [e] at q
  refine Res_bind q fun x v F1 H1 env1 E1 S1 r1 h1 => ?_
  obtain ⟨F2, ds, items, l, hl, hi, rr, k⟩ := it_core E1 S1 (.cons r1 .nil) h1
  obtain ⟨d, rfl⟩ := len1 (xs := ds) hl
  exact ⟨F2, d, items, l, hi, rr 0 v d rfl rfl, k⟩
/-- operands in a call -/
theorem tI_many {R : It → Hp → Prop} (h : tI c k as σ H R) : tOs c as σ H fun vs H1 => ∃ F2 ds items, Le F2 H1 ∧ ds.length = vs.length ∧ itemsD k ds = some items ∧ (∀ (k : Nat) v d, vs[k]? = some v → ds[k]? = some d → Rep c.nm F2 v d) ∧ ∀ J, Wk c.nm F2 items J → R J H1 := by
  obtain ⟨F, env, E, q⟩ := h
  exact ⟨F, env, E, Res_bind q fun os vs F1 H1 env1 E1 S1 r1 h1 => it_core E1 S1 r1 h1⟩
theorem _root_.L2.PI.imp {t t' : TI} (h : PI X tg e t) (k : ∀ σ H R, t' σ H R → t σ H R) : PI X tg e t' := ⟨fun pins s σ H R I q => h.run pins s σ H R I (k σ H R q)⟩
theorem si_seq (hK : X.K = c.nm.K) (ha : PE X a (tO c ia)) : PI X tg a (tI c .seq (.cons ia .nil)) := by
  refine (pi_list ha).imp fun σ H R q => tR_one (tI_one q) fun v H1 ⟨F2, d, items, l, hi, r, w⟩ => ?_
  cases d with
  | lst ds =>
    cases hi
    cases r with
    | lst h rr => exact ⟨_, rfl, ⟨_, SqL.of (l.lst h)⟩, w _ (wk_seq (fun F' H' s l => SqL.of (l.lst (s _ _ h))) rr)⟩
  | scr ns =>
    cases hi
    cases r with
    | scr h => exact ⟨_, rfl, ⟨_, hK ▸ h.sq l⟩, w _ (wk_seq (fun F' H' s l => hK ▸ (h.mono s).sq l) (RepL.of_ints ns))⟩
  | _ => cases hi
theorem si_tupl (ha : PE X a (tO c ia)) : PI X tg a (tI c .tupl (.cons ia .nil)) := by
  refine (pi_tup ha).imp fun σ H R q => tR_one (tI_one q) fun v H1 ⟨F2, d, items, l, hi, r, w⟩ => ?_
  cases d with
  | tup ds =>
    cases hi
    cases r with
    | tup h rr => exact ⟨_, rfl, ⟨_, SqT.of (l.tup h)⟩, w _ (wk_tup h rr)⟩
  | _ => cases hi
theorem si_text (ha : PE X a (tO c ia)) : PI X tg a (tI c .text (.cons ia .nil)) := by
  refine (pi_str ha).imp fun σ H R q => tR_one (tI_one q) fun v H1 ⟨F2, d, items, l, hi, r, w⟩ => ?_
  cases d with
  | str z =>
    cases hi
    cases r
    exact ⟨_, rfl, w _ (wk_str z)⟩
  | _ => cases hi
theorem big62_eq {j : Int} (h : big62 j = true) : -(2 ^ 62) ≤ j ∧ j < 2 ^ 62 := by
  unfold big62 at h
  rw [Bool.and_eq_true] at h
  exact ⟨of_decide_eq_true h.1, of_decide_eq_true h.2⟩
theorem si_range1 {p : Pos} (hg : Gl X "range") (hm : X.mg "range" = none) (ha : PA X [a] (tOs c as)) (hs : starEach [a] X.env = [(false, eval a X.env)]) : PI X tg (.Call (.Name "range" p) [a] [] pos) (tI c .range1 as) := by
  refine (pi_range1 hg hm ha hs).imp fun σ H R q => tR_one (tI_many q) fun vs H1 ⟨F2, ds, items, l, hl, hi, r, w⟩ => ?_
  match ds, hi with
  | [.int j], hi =>
    obtain ⟨v, rfl⟩ := len1 (xs := vs) hl.symm
    cases r 0 v _ rfl rfl
    unfold itemsD at hi
    simp only at hi
    split at hi
    · rename_i hb
      cases hi
      exact ⟨j, rfl, (big62_eq hb).1, (big62_eq hb).2, w _ (wk_range 0 j.toNat)⟩
    · cases hi
theorem si_range2 {p : Pos} (hg : Gl X "range") (hm : X.mg "range" = none) (ha : PA X [a, b] (tOs c as)) (hs : starEach [a, b] X.env = [(false, eval a X.env), (false, eval b X.env)]) (hs2 : starEach [b] X.env = [(false, eval b X.env)]) :
    PI X tg (.Call (.Name "range" p) [a, b] [] pos) (tI c .range2 as) := by
  refine (pi_range2 hg hm ha hs hs2).imp fun σ H R q => tR_one (tI_many q) fun vs H1 ⟨F2, ds, items, l, hl, hi, r, w⟩ => ?_
  match ds, hi with
  | [.int i, .int j], hi =>
    obtain ⟨v, u, rfl⟩ := len2 (xs := vs) hl.symm
    cases r 0 v _ rfl rfl
    cases r 1 u _ rfl rfl
    unfold itemsD at hi
    simp only at hi
    split at hi
    · rename_i hb
      cases hi
      rw [Bool.and_eq_true] at hb
      exact ⟨i, j, rfl, ⟨(big62_eq hb.1).1, (big62_eq hb.1).2, (big62_eq hb.2).1, (big62_eq hb.2).2⟩, w _ (wk_range i (j - i).toNat)⟩
    · cases hi
theorem si_enum {p tpos : Pos} {elts : List Expr} {kk : Nat} (hg : Gl X "enumerate") (hm : X.mg "enumerate" = none) (ha : PA X [a] (tOs c as)) (hs : starEach [a] X.env = [(false, eval a X.env)]) :
    PI X (.Tuple elts kk tpos) (.Call (.Name "enumerate" p) [a] [] pos) (tI c .enum as) := by
  refine (pi_enum hg hm ha hs).imp fun σ H R q => tR_one (tI_many q) fun vs H1 ⟨F2, ds, items, l, hl, hi, r, w⟩ => ?_
  match ds, hi with
  | [.lst xs], hi =>
    obtain ⟨v, rfl⟩ := len1 (xs := vs) hl.symm
    cases r 0 v _ rfl rfl with
    | lst h rr =>
      cases hi
      exact ⟨_, _, rfl, SqL.of (l.lst h), w _ (wk_enum h rr)⟩
theorem si_zip {p tpos : Pos} {elts : List Expr} {kk : Nat} (hg : Gl X "zip") (hm : X.mg "zip" = none) (ha : PA X [a, b] (tOs c as)) (hs : starEach [a, b] X.env = (false, eval a X.env) :: starEach [b] X.env) (hpl : (backTo pos (starEach [b] X.env)).any (·.1) = false) :
    PI X (.Tuple elts kk tpos) (.Call (.Name "zip" p) [a, b] [] pos) (tI c .zip as) := by
  refine (pi_zip hg hm ha hs hpl).imp fun σ H R q => tR_one (tI_many q) fun vs H1 ⟨F2, ds, items, l, hl, hi, r, w⟩ => ?_
  match ds, hi with
  | [.lst xs, .lst ys], hi =>
    obtain ⟨v, u, rfl⟩ := len2 (xs := vs) hl.symm
    cases r 0 v _ rfl rfl with
    | lst h rr =>
      cases r 1 u _ rfl rfl with
      | lst h2 rr2 =>
        cases hi
        exact ⟨_, _, _, _, rfl, SqL.of (l.lst h), SqL.of (l.lst h2), w _ (wk_zip h rr h2 rr2)⟩
theorem si_rev {p : Pos} (hg : Gl X "reversed") (hm : X.mg "reversed" = none) (ha : PA X [a] (tOs c as)) (hs : starEach [a] X.env = [(false, eval a X.env)]) : PI X tg (.Call (.Name "reversed" p) [a] [] pos) (tI c .rev as) := by
  refine (pi_reversed hg hm ha hs).imp fun σ H R q => tR_one (tI_many q) fun vs H1 ⟨F2, ds, items, l, hl, hi, r, w⟩ => ?_
  match ds, hi with
  | [.lst xs], hi =>
    obtain ⟨v, rfl⟩ := len1 (xs := vs) hl.symm
    cases r 0 v _ rfl rfl with
    | lst h rr =>
      cases hi
      exact ⟨_, _, rfl, SqL.of (l.lst h), w _ (wk_rev h rr)⟩
end

mutual
def _root_.MT.IT.vars : IT → List Nat
  | .nm i => [i]
  | .tp ts => ts.vars
def _root_.MT.ITs.vars : ITs → List Nat
  | .nil => []
  | .cons t ts => t.vars ++ ts.vars
end
def _root_.MT.ITs.len : ITs → Nat
  | .nil => 0
  | .cons _ ts => ts.len + 1
/-- the state after some slots were set -/
def After (c : Sx) (σ σ' : St) (env env' : Env) (vs : List Nat) (F H : Hp) : Prop :=
  EnvR c.nm F H σ' env' ∧ (∀ j, j ∉ vs → σ'[j]? = σ[j]?) ∧ (∀ a, Ow σ' env' a → Ow σ env a) ∧ (∀ i ∈ c.io, σ'[i]? = σ[i]?) ∧ σ'.length = σ.length
def gT (c : Sx) (t : IT) : TG := fun v σ H Q => ∃ F env d env', EnvR c.nm F H σ env ∧ Rep c.nm F v d ∧ asgT c.io t d env = some env' ∧ ∀ σ', After c σ σ' env env' t.vars F H → Q σ' H
def gTs (c : Sx) (ts : ITs) : TGs := fun vs σ H Q => ∃ F env ds env', EnvR c.nm F H σ env ∧ RepL c.nm F vs ds ∧ asgTs c.io ts ds env = some env' ∧ ∀ σ', After c σ σ' env env' ts.vars F H → Q σ' H
section
variable {X : Cx} {c : Sx} {e a b tg : Expr} {es : List Expr} {pos : Pos} {σ : St} {F H F1 H1 : Hp} {env env1 : Env}
theorem EnvR.set {nm : Nm} (E : EnvR nm F H σ env) (i : Nat) {v : V} {x : Val} (r : ValR nm F H v x) (n : x.own = true → ∀ p, v = .ref p → ¬ Ow σ env p) : EnvR nm F H (σ.set i (some v)) (env.set i (some x)) where
  len := by rw [List.length_set, List.length_set]; exact E.len
  le := E.le
  val := fun j y hy => by
    rw [slot_set] at hy
    by_cases hij : i = j ∧ i < env.length
    · rw [if_pos hij] at hy; cases hy
      refine ⟨v, ?_, r⟩
      rw [List.getElem?_set, if_pos hij.1, if_pos (by rw [E.len]; exact hij.2)]
    · rw [if_neg hij] at hy
      obtain ⟨w, hw, r⟩ := E.val j y hy
      refine ⟨w, ?_, r⟩
      have : i ≠ j := fun z => hij ⟨z, by rw [z]; exact slot_lt hy⟩
      rw [List.getElem?_set, if_neg this]; exact hw
  sep := fun j k y z a hy hz oy oz h1 h2 => by
    have key : ∀ j y, slot (env.set i (some x)) j = some y → (σ.set i (some v))[j]? = some (some (.ref a)) → (i = j ∧ y = x ∧ v = .ref a) ∨ (i ≠ j ∧ slot env j = some y ∧ σ[j]? = some (some (.ref a))) := fun j y hy h => by
      rw [slot_set] at hy
      by_cases hij : i = j
      · subst hij
        by_cases hl : i < env.length
        · rw [if_pos ⟨rfl, hl⟩] at hy; cases hy
          rw [List.getElem?_set, if_pos rfl, if_pos (by rw [E.len]; exact hl)] at h
          exact .inl ⟨rfl, rfl, by simpa using h⟩
        · rw [if_neg fun z => hl z.2] at hy
          exact absurd (slot_lt hy) hl
      · rw [if_neg fun z => hij z.1] at hy
        rw [List.getElem?_set, if_neg hij] at h
        exact .inr ⟨hij, hy, h⟩
    rcases key j y hy h1 with ⟨e1, e2, e3⟩ | ⟨e1, e2, e3⟩ <;> rcases key k z hz h2 with ⟨g1, g2, g3⟩ | ⟨g1, g2, g3⟩
    · exact e1.symm.trans g1
    · subst e2; exact absurd ⟨k, z, g2, oz, g3⟩ (n oy a e3)
    · subst g2; exact absurd ⟨j, y, e2, oy, e3⟩ (n oz a g3)
    · exact E.sep j k y z a e2 g2 oy oz e3 g3
theorem Ow.set {i : Nat} {v : V} {x : Val} {a : Addr} (h : Ow (σ.set i (some v)) (env.set i (some x)) a) : Ow σ env a ∨ (x.own = true ∧ v = .ref a) := by
  obtain ⟨j, y, hy, oy, hj⟩ := h
  by_cases hij : i = j
  · subst hij
    have hl : i < σ.length := by
      rcases Nat.lt_or_ge i σ.length with hl | hl
      · exact hl
      · rw [List.getElem?_eq_none (by simpa using hl)] at hj; cases hj
    rw [List.getElem?_set, if_pos rfl, if_pos hl] at hj
    rw [slot_set] at hy
    by_cases hl2 : i < env.length
    · rw [if_pos ⟨rfl, hl2⟩] at hy; cases hy
      exact .inr ⟨oy, by simpa using hj⟩
    · rw [if_neg fun z => hl2 z.2] at hy
      exact absurd (slot_lt hy) hl2
  · rw [slot_set, if_neg fun z => hij z.1] at hy
    rw [List.getElem?_set, if_neg hij] at hj
    exact .inl ⟨j, y, hy, oy, hj⟩
theorem sg_name {i : Nat} {x : Str} (hN : X.N.Nodup) (hi : X.N[i]? = some x) (hx : Loc X.env.scope x) (hf : X.fn x = true ∨ X.env.scope.names.lookup x = some .local) : PG X (.Name x pos) (gT c (.nm i)) := by
  refine ⟨fun pins s σ H v u Q I r h => (pg_name hN hi hx hf).run pins s σ H v u Q I r ?_⟩
  obtain ⟨F, env, d, env', E, rep, ha, k⟩ := h
  unfold asgT at ha
  split at ha
  · cases ha
  · rename_i hn
    cases ha
    refine k _ ⟨E.set i (ValR.of_rep rep) (fun z => nomatch z), fun j hj => ?_, fun a ha => ?_, ?_⟩
    · rw [List.getElem?_set, if_neg fun z => hj (by rw [z]; exact List.mem_singleton.mpr rfl)]
    · rcases Ow.set ha with z | z
      · exact z
      · exact absurd z.1 (fun z => nomatch z)
    · exact ⟨fun j hj => by rw [List.getElem?_set, if_neg fun z => hn (.inl (by rw [z]; exact hj))], List.length_set⟩
theorem sgs_nil : PGs X [] (gTs c .nil) := by
  refine ⟨fun pins s σ H vs us Q I r h => pgs_nil.run pins s σ H vs us Q I r ?_⟩
  obtain ⟨F, env, ds, env', E, rep, ha, k⟩ := h
  cases ds with
  | cons _ _ => unfold asgTs at ha; cases ha
  | nil =>
    unfold asgTs at ha
    cases ha
    cases rep
    exact ⟨rfl, k σ ⟨E, fun _ _ => rfl, fun _ h => h, fun _ _ => rfl, rfl⟩⟩
theorem sgs_cons {t : IT} {ts : ITs} (h1 : PG X e (gT c t)) (h2 : PGs X es (gTs c ts)) (hs : (assignEach (e :: es) X.env).map (·.2) = assign e X.env :: (assignEach es X.env).map (·.2)) : PGs X (e :: es) (gTs c (.cons t ts)) := by
  refine ⟨fun pins s σ H vs us Q I r h => (pgs_cons h1 h2 hs).run pins s σ H vs us Q I r ?_⟩
  obtain ⟨F, env, ds, env', E, rep, ha, k⟩ := h
  cases ds with
  | nil => unfold asgTs at ha; cases ha
  | cons d ds =>
    cases rep with
    | cons r1 rr =>
      unfold asgTs at ha
      cases h3 : asgT c.io t d env with
      | none => rw [h3] at ha; cases ha
      | some env1 =>
        rw [h3] at ha
        refine ⟨_, _, rfl, F, env, d, env1, E, r1, h3, fun σ1 ⟨E1, a1, a2, a3, a4⟩ => ⟨F, env1, ds, env', E1, rr, ha, fun σ2 ⟨E2, b1, b2, b3, b4⟩ => k σ2 ⟨E2, fun j hj => ?_, fun a h => a2 a (b2 a h), fun i hi => (b3 i hi).trans (a3 i hi), b4.trans a4⟩⟩⟩
        have hj : j ∉ t.vars ++ ts.vars := hj
        rw [List.mem_append] at hj
        exact (b1 j fun z => hj (.inr z)).trans (a1 j fun z => hj (.inl z))
theorem sg_tup {ts : ITs} {kk n : Nat} (hc : X.calm = true) (h : PGs X es (gTs c ts)) (hn : (assignEach es X.env).length = n) (hst : (assignEach es X.env).findIdx? (·.1) = none) (hl : ∀ ds env env', asgTs c.io ts ds env = some env' → ds.length = n) : PG X (.Tuple es kk pos) (gT c (.tp ts)) := by
  have h1 := pg_tup (X := X) (k := kk) (pos := pos) hc h hn hst
  have h2 := pg_lst (X := X) (k := kk) (pos := pos) hc h hn hst
  refine ⟨fun pins s σ H v u Q I r q => ?_⟩
  obtain ⟨F, env, d, env', E, rep, ha, k⟩ := q
  cases d with
  | tup ds =>
    unfold asgT at ha
    cases rep with
    | tup hF rr =>
      refine h1.run pins s σ H _ u Q I r ⟨_, _, rfl, SqT.of (E.le.tup hF), ?_, F, env, ds, env', E, rr, ha, k⟩
      rw [rr.length]; exact hl ds env env' ha
  | lst ds =>
    unfold asgT at ha
    cases rep with
    | lst hF rr =>
      refine h2.run pins s σ H _ u Q I r ⟨_, _, rfl, SqL.of (E.le.lst hF), ?_, F, env, ds, env', E, rr, ha, k⟩
      rw [rr.length]; exact hl ds env env' ha
  | _ => unfold asgT at ha; cases ha
theorem lenTs {io : List Nat} : ∀ {ts : ITs} {ds : List D} {env env' : Env}, asgTs io ts ds env = some env' → ds.length = ts.len
  | .nil, [], _, _, _ => rfl
  | .nil, _ :: _, _, _, h => by unfold asgTs at h; cases h
  | .cons _ _, [], _, _, h => by unfold asgTs at h; cases h
  | .cons t ts, d :: ds, env, env', h => by
    unfold asgTs at h
    cases h1 : asgT io t d env with
    | none => rw [h1] at h; cases h
    | some e => rw [h1] at h; simp [lenTs h, ITs.len]
theorem lenT1 {io : List Nat} {t : IT} : ∀ (ds : List D) (env env' : Env), asgTs io (.cons t .nil) ds env = some env' → ds.length = 1 := fun _ _ _ h => lenTs h
theorem lenT2 {io : List Nat} {t u : IT} : ∀ (ds : List D) (env env' : Env), asgTs io (.cons t (.cons u .nil)) ds env = some env' → ds.length = 2 := fun _ _ _ h => lenTs h
theorem lenT3 {io : List Nat} {t u v : IT} : ∀ (ds : List D) (env env' : Env), asgTs io (.cons t (.cons u (.cons v .nil))) ds env = some env' → ds.length = 3 := fun _ _ _ h => lenTs h
theorem lenT4 {io : List Nat} {t u v z : IT} : ∀ (ds : List D) (env env' : Env), asgTs io (.cons t (.cons u (.cons v (.cons z .nil)))) ds env = some env' → ds.length = 4 := fun _ _ _ h => lenTs h
end
end MT
namespace MT
open PySem PySem.Spec PyProof.Rows L2

/-- after a statement -/
structure Aft (c : Sx) (σ : St) (F H : Hp) (env : Env) (σ' : St) (F' H' : Hp) (e : Env) : Prop where
  er : EnvR c.nm F' H' σ' e
  step : Step (Ow σ env) F H (Ow σ' e) F' H'
  io : ∀ i ∈ c.io, σ'[i]? = σ[i]?
/-- what is returned -/
def RtR (c : Sx) (H : Hp) (σ : St) (env : Env) (σ' : St) (F' H' : Hp) (e : Env) (w : V) (x : Val) : Prop :=
  ValR c.nm F' H' w x ∧ (x.own = true → ∀ p, w = .ref p → (H p = none ∨ Ow σ env p) ∧ ∀ i ∈ c.io, ∀ y, slot e i = some y → y.own = true → σ'[i]? ≠ some (some (.ref p)))
def XRes (c : Sx) (σ : St) (F H : Hp) (env : Env) (r : Xr) (D : Ends) : Prop := match r with
  | .nx e => ∀ σ' F' H', Aft c σ F H env σ' F' H' e → D.nx σ' H'
  | .bk e => ∀ σ' F' H', Aft c σ F H env σ' F' H' e → D.bk σ' H'
  | .ct e => ∀ σ' F' H', Aft c σ F H env σ' F' H' e → D.ct σ' H'
  | .rt x e => ∀ σ' F' H' w, Aft c σ F H env σ' F' H' e → RtR c H σ env σ' F' H' e w x → D.rt w H'
  | .exc x e => ∀ σ' F' H' cls dd, Aft c σ F H env σ' F' H' e → ExcR c.nm x cls dd H' → c.W cls dd σ' H'
  | .stuck => False
def tS (c : Sx) (s : IS) : TS := fun D σ H => ∃ F env, EnvR c.nm F H σ env ∧ XRes c σ F H env (ex c.Φ c.io s env) D
def tSs (c : Sx) (ss : ISs) : TS := fun D σ H => ∃ F env, EnvR c.nm F H σ env ∧ XRes c σ F H env (exs c.Φ c.io ss env) D
section
variable {X : Cx} {c : Sx} {e a b tg : Expr} {es : List Expr} {ia ib ic : IE} {as : IEs} {pos : Pos} {σ σ1 : St} {F H F1 H1 : Hp} {env env1 : Env} {α β γ δ : Type} {D D' : Ends}
theorem Aft.refl (E : EnvR c.nm F H σ env) : Aft c σ F H env σ F H env := ⟨E, Step.refl, fun _ _ => rfl⟩
theorem Aft.of (E : EnvR c.nm F1 H1 σ env1) (S : Step (Ow σ env) F H (Ow σ env1) F1 H1) : Aft c σ F H env σ F1 H1 env1 := ⟨E, S, fun _ _ => rfl⟩
theorem Aft.trans {σ2 : St} {F2 H2 : Hp} {env2 : Env} (a : Aft c σ F H env σ1 F1 H1 env1) (b : Aft c σ1 F1 H1 env1 σ2 F2 H2 env2) : Aft c σ F H env σ2 F2 H2 env2 := ⟨b.er, a.step.trans b.step, fun i hi => (b.io i hi).trans (a.io i hi)⟩
theorem XRes.shift {r : Xr} (h : XRes c σ F H env r D) (a : Aft c σ F H env σ1 F1 H1 env1) : XRes c σ1 F1 H1 env1 r D := by
  cases r with
  | nx e => exact fun σ' F' H' b => h σ' F' H' (a.trans b)
  | bk e => exact fun σ' F' H' b => h σ' F' H' (a.trans b)
  | ct e => exact fun σ' F' H' b => h σ' F' H' (a.trans b)
  | rt x e =>
    refine fun σ' F' H' w b r => h σ' F' H' w (a.trans b) ⟨r.1, fun o p q => ⟨?_, (r.2 o p q).2⟩⟩
    rcases (r.2 o p q).1 with z | z
    · exact .inl (a.step.there p z)
    · exact (a.step.les p z).symm
  | exc x e => exact fun σ' F' H' cls dd b => h σ' F' H' cls dd (a.trans b)
  | stuck => exact h
theorem XRes.imp {r : Xr} (h : XRes c σ F H env r D) (k1 : ∀ σ H, D.nx σ H → D'.nx σ H) (k2 : ∀ w H, D.rt w H → D'.rt w H) (k3 : ∀ σ H, D.bk σ H → D'.bk σ H) (k4 : ∀ σ H, D.ct σ H → D'.ct σ H) : XRes c σ F H env r D' := by
  cases r with
  | nx e => exact fun σ' F' H' b => k1 _ _ (h σ' F' H' b)
  | bk e => exact fun σ' F' H' b => k3 _ _ (h σ' F' H' b)
  | ct e => exact fun σ' F' H' b => k4 _ _ (h σ' F' H' b)
  | rt x e => exact fun σ' F' H' w b r => k2 _ _ (h σ' F' H' w b r)
  | exc x e => exact fun σ' F' H' cls dd b => h σ' F' H' cls dd b
  | stuck => exact h
/-- an expression ahead, not shifted -/
theorem X_bind {r : MT.R α} {g : α → Env → Xr} {rl : Rl α β} {Q : β → Hp → Prop} (h : XRes c σ F H env (r.x g) D)
    (k : ∀ a b F1 H1 env1, EnvR c.nm F1 H1 σ env1 → Step (Ow σ env) F H (Ow σ env1) F1 H1 → rl.r H a b F1 H1 env1 → XRes c σ F H env (g a env1) D → Q b H1) : Res c σ F H env rl r Q := by
  cases r with
  | ok a env1 => exact fun F1 H1 b E1 S1 r1 => k a b F1 H1 env1 E1 S1 r1 h
  | exc x env1 => exact fun F1 H1 cls dd E1 S1 r1 => h σ F1 H1 cls dd (Aft.of E1 S1) r1
  | stuck => exact h
/-- a slot is set -/
theorem aft_set {i : Nat} {v : V} {x : Val} (E1 : EnvR c.nm F1 H1 σ env1) (S1 : Step (Ow σ env) F H (Ow σ env1) F1 H1) (hi : i ∉ c.io) (r : ValR c.nm F1 H1 v x) (n : x.own = true → ∀ p, v = .ref p → H p = none ∧ ¬ Ow σ env1 p) :
    Aft c σ F H env (σ.set i (some v)) F1 H1 (env1.set i (some x)) := by
  refine ⟨E1.set i r fun o p e => (n o p e).2, ⟨S1.sub, S1.new, S1.keep, fun a ha => ?_, S1.there⟩, fun j hj => ?_⟩
  · rcases Ow.set ha with z | z
    · exact S1.les a z
    · exact .inr (n z.1 a z.2).1
  · rw [List.getElem?_set, if_neg fun z => hi (by rw [z]; exact hj)]
theorem sb_nil : PSs X [] (tSs c .nil) := pss_nil.imp fun D σ H ⟨F, env, E, q⟩ => q σ F H (Aft.refl E)
theorem sb_cons {st : Stmt} {rest : List Stmt} {s : IS} {ss : ISs} (h1 : PS X st (tS c s)) (h2 : PSs X rest (tSs c ss)) : PSs X (st :: rest) (tSs c (.cons s ss)) := by
  refine (pss_cons h1 h2).imp fun D σ H ⟨F, env, E, q⟩ => ?_
  refine ⟨F, env, E, ?_⟩
  unfold exs at q
  cases h : ex c.Φ c.io s env with
  | nx e =>
    rw [h] at q
    exact fun σ' F' H' a => ⟨F', e, a.er, XRes.shift q a⟩
  | bk e => rw [h] at q; exact q
  | ct e => rw [h] at q; exact q
  | rt x e => rw [h] at q; exact q
  | exc x e => rw [h] at q; exact q
  | stuck => rw [h] at q; exact q
theorem sb_doc {x : Str} {j : Nat} {p p' : Pos} {rest : List Stmt} {ss : ISs} (h2 : PSs X rest (tSs c ss)) : PSs X (.Expr (.Constant (.str x) j p) p' :: rest) (tSs c ss) :=
  (pss_cons ps_doc h2).imp fun D σ H q => q
theorem sb_never {sts : List Stmt} : PSs X sts (tSs c (.cons .never .nil)) := pss_never.imp fun D σ H ⟨F, env, E, q⟩ => q.elim
theorem ss_pass : PS X (.Pass pos) (tS c .pass) := ps_pass.imp fun D σ H ⟨F, env, E, q⟩ => q σ F H (Aft.refl E)
theorem ss_brk : PS X (.Break pos) (tS c .brk) := ps_break.imp fun D σ H ⟨F, env, E, q⟩ => q σ F H (Aft.refl E)
theorem ss_cont : PS X (.Continue pos) (tS c .cont) := ps_continue.imp fun D σ H ⟨F, env, E, q⟩ => q σ F H (Aft.refl E)
theorem ss_never {st : Stmt} : PS X st (tS c .never) := ps_never.imp fun D σ H ⟨F, env, E, q⟩ => q.elim
theorem ss_expr (he : PE X e (tE c ia)) (hs : swapsWith e none pos.line X.env = pure false) : PS X (.Expr e pos) (tS c (.expr ia)) := by
  refine (ps_expr he hs).imp fun D σ H ⟨F, env, E, q⟩ => ⟨F, env, E, ?_⟩
  exact X_bind q fun x v F1 H1 env1 E1 S1 r1 h1 => h1 σ F1 H1 (Aft.of E1 S1)
theorem ss_set {i : Nat} {x : Str} {p : Pos} (hN : X.N.Nodup) (hi : X.N[i]? = some x) (hx : Loc X.env.scope x) (he : PE X e (tE c ia)) (hs : swapsWith e (some (.Name x p)) pos.line X.env = pure false) (hf : X.fn x = true ∨ X.env.scope.names.lookup x = some .local) :
    PS X (.Assign [.Name x p] e pos) (tS c (.asg (.nm i) ia)) := by
  refine (ps_set hN hi hx he hs hf).imp fun D σ H ⟨F, env, E, q⟩ => ⟨F, env, E, ?_⟩
  unfold ex at q
  refine X_bind q fun x v F1 H1 env1 E1 S1 r1 h1 => ?_
  unfold setV at h1
  split at h1
  · exact h1.elim
  · rename_i hn
    exact h1 _ F1 H1 (aft_set E1 S1 (fun z => hn (.inl z)) r1.1 r1.2)
theorem ss_asg {t : IT} (ht : ∀ i, t ≠ .nm i) (he : PE X e (tE c ia)) (hg : PG X tg (gT c t)) (hs : swapsWithSole [tg] e pos.line X.env = pure false) (hw : swappedStores [tg] e X.env = pure none)
    (h1 : (assignEach [tg] X.env).map (·.2) = [assign tg X.env]) : PS X (.Assign [tg] e pos) (tS c (.asg t ia)) := by
  refine (ps_asg he hg hs hw h1).imp fun D σ H ⟨F, env, E, q⟩ => ⟨F, env, E, ?_⟩
  have q : XRes c σ F H env ((ev c.Φ c.io ia env).x fun v e => match asgT c.io t v.d e with
    | some e => .nx e
    | none => .stuck) D := by
    cases t with
    | nm i => exact absurd rfl (ht i)
    | tp ts => exact q
  refine X_bind q fun x v F1 H1 env1 E1 S1 r1 h1 => ?_
  obtain ⟨F2, E2, rep, sb, le, nw⟩ := E1.shareV r1.1 fun o p e => (r1.2 o p e).2
  have S2 := S1.shared sb fun b hb => (nw b hb).imp id fun z => (r1.2 z.1 b z.2).1
  cases h3 : asgT c.io t x.d env1 with
  | none => rw [h3] at h1; exact h1.elim
  | some env2 =>
    rw [h3] at h1
    exact ⟨F2, env1, x.d, env2, E2, rep, h3, fun σ' ⟨E', a1, a2, a3, _⟩ => h1 σ' F2 H1 ⟨E', S2.trans ⟨Sub.refl _, fun _ h => .inl h, fun _ _ h _ => h, fun a h => .inl (a2 a h), fun _ h => h⟩, a3⟩⟩
theorem ss_ret (ne : ∀ i, ia ≠ .var i) (he : PE X e (tE c ia)) : PS X (.Return (some e) pos) (tS c (.ret ia)) := by
  refine (ps_ret he).imp fun D σ H ⟨F, env, E, q⟩ => ⟨F, env, E, ?_⟩
  have q : XRes c σ F H env ((ev c.Φ c.io ia env).x fun v e => .rt v e) D := by
    cases ia <;> first | exact q | exact absurd rfl (ne _)
  refine X_bind q fun x v F1 H1 env1 E1 S1 r1 h1 => h1 σ F1 H1 v (Aft.of E1 S1) ⟨r1.1, fun o p e => ⟨.inl (r1.2 o p e).1, fun i hi y hy oy hs => ?_⟩⟩
  exact (r1.2 o p e).2 ⟨i, y, hy, oy, hs⟩
theorem ss_retV {i : Nat} (he : PE X e (tVar i)) : PS X (.Return (some e) pos) (tS c (.ret (.var i))) := by
  refine (ps_ret he).imp fun D σ H ⟨F, env, E, q⟩ => ?_
  unfold ex at q
  simp only at q
  cases h : slot env i with
  | none => rw [h] at q; exact q.elim
  | some x =>
    rw [h] at q
    simp only at q
    split at q
    · exact q.elim
    · rename_i hn
      obtain ⟨v, hv, r⟩ := E.val i x h
      refine ⟨v, hv, q σ F H v (Aft.refl E) ⟨r, fun o p e => ⟨.inr ⟨i, x, h, o, by rw [← e]; exact hv⟩, fun j hj y hy oy hs => ?_⟩⟩⟩
      have := E.sep i j x y p h hy o oy (by rw [← e]; exact hv) hs
      exact hn (by rw [this]; exact hj)
theorem ss_retN : PS X (.Return none pos) (tS c (.ret (.cst .non))) := by
  refine ps_retN.imp fun D σ H ⟨F, env, E, q⟩ => q σ F H .non (Aft.refl E) ⟨ValR.of_rep .non, fun z => nomatch z⟩
theorem ss_if {p q : List Stmt} {ip iq : ISs} (hc : PT X a (tT c ia)) (hp : PSs X p (tSs c ip)) (hq : PSs X q (tSs c iq)) : PS X (.If a p q pos) (tS c (.ite ia ip iq)) := by
  refine (ps_if hc hp hq).imp fun D σ H ⟨F, env, E, q⟩ => ⟨F, env, E, ?_⟩
  unfold ex at q
  show Res c σ F H env (rlB σ) (bR (ev c.Φ c.io ia env)) _
  unfold bR
  cases h : ev c.Φ c.io ia env with
  | ok v env1 =>
    rw [h] at q
    have q : XRes c σ F H env (match v.d with
      | .bl true => exs c.Φ c.io ip env1
      | .bl false => exs c.Φ c.io iq env1
      | _ => .stuck) D := q
    show Res c σ F H env (rlB σ) (boolR v fun b => .ok b env1) _
    unfold boolR
    cases hd : v.d with
    | bl b =>
      rw [hd] at q
      intro F1 H1 b' E1 S1 e
      have e : b = b' := e
      subst e
      cases b with
      | true => exact ⟨F1, env1, E1, XRes.shift q (Aft.of E1 S1)⟩
      | false => exact ⟨F1, env1, E1, XRes.shift q (Aft.of E1 S1)⟩
    | _ => rw [hd] at q; exact q.elim
  | exc x env1 =>
    rw [h] at q
    exact fun F1 H1 cls dd E1 S1 r1 => q σ F1 H1 cls dd (Aft.of E1 S1) r1
  | stuck => rw [h] at q; exact q
theorem ss_aug {i : Nat} {x : Str} {op : Operator} {p : Pos} (ho : op = .Add ∨ op = .Sub) (hN : X.N.Nodup) (hi : X.N[i]? = some x) (hx : Loc X.env.scope x) (he : PE X e (tE c ia)) (hf : X.fn x = true ∨ X.env.scope.names.lookup x = some .local) :
    PS X (.AugAssign (.Name x p) op e pos) (tS c (.aug i op ia)) := by
  have hip : PIp X op (ipI fun i j => match op with
    | .Add => i + j
    | _ => i - j) := by
    rcases ho with rfl | rfl
    · exact ip_add
    · exact ip_sub
  refine (ps_aug hN hi hx he hip hf).imp fun D σ H ⟨F, env, E, q⟩ => ?_
  unfold ex at q
  cases h : slot env i with
  | none => rw [h] at q; exact q.elim
  | some x0 =>
    rw [h] at q
    obtain ⟨w0, hw0, r0⟩ := E.val i x0 h
    refine ⟨w0, hw0, F, env, E, X_bind q fun y v F1 H1 env1 E1 S1 r1 h1 => ?_⟩
    have key : ∀ m n : Int, x0.d = .int m → y.d = .int n → w0 = .int m ∧ v = .int n := fun m n e1 e2 => by
      have d0 := r0.data
      have d1 := r1.1.data
      rw [e1] at d0
      rw [e2] at d1
      exact ⟨d0.int, d1.int⟩
    have fin : ∀ z : Int, XRes c σ F H env (setV c.io i ⟨.int z, false⟩ env1) D → D.nx (σ.set i (some (.int z))) H1 := fun z hz => by
      unfold setV at hz
      split at hz
      · exact hz.elim
      · rename_i hn
        exact hz _ F1 H1 (aft_set E1 S1 (fun z => hn (.inl z)) (ValR.of_rep .int) fun z => nomatch z)
    rcases ho with rfl | rfl
    · split at h1
      · rename_i m n e1 e2
        obtain ⟨k1, k2⟩ := key _ _ e1 e2
        exact ⟨_, _, k1, k2, fin _ h1⟩
      · rename_i z _ _; cases z
      · exact h1.elim
    · split at h1
      · rename_i z _ _; cases z
      · rename_i m n e1 e2
        obtain ⟨k1, k2⟩ := key _ _ e1 e2
        exact ⟨_, _, k1, k2, fin _ h1⟩
      · exact h1.elim
theorem ss_for {iter : Expr} {body : List Stmt} {ib : ISs} {t : IT} {k : ItK} (hp : PassesOwn (model X.prog X.w) X.A X.env X.xe) (hc : X.calm = true) (hi : PI X tg iter (tI c k as)) (hg : PG X tg (gT c t)) (hb : PSs X body (tSs c ib))
    (hs : ∀ x, foldedSetIterable iter X.env x = pure x) : PS X (.For tg iter body [] pos) (tS c (.loop t k as ib)) := by
  refine (ps_for hp hc hi hg hb hs).imp fun D σ H ⟨F, env, E, q⟩ => ⟨F, env, E, ?_⟩
  unfold ex at q
  refine X_bind q fun items J F1 H1 env1 E1 S1 wk h1 => ?_
  generalize ht : (fun d e => match asgT c.io t d e with
        | some e => exs c.Φ c.io ib e
        | none => Xr.stuck) = tn at h1
  refine ⟨fun i m σ H => i + m = items.length ∧ ∃ F env, Sub F1 F ∧ EnvR c.nm F H σ env ∧ XRes c σ F H env (forL tn (items.drop i) env) D, ⟨items.length, by omega, F1, env1, Sub.refl _, E1, by rw [List.drop_zero]; exact XRes.shift h1 (Aft.of E1 S1)⟩, fun i m σ2 H2 ⟨hm, F2, env2, sb, E2, h2⟩ => ?_⟩
  by_cases hl : items.length ≤ i
  · refine .inl ⟨wk.stop i F2 H2 sb E2.le hl, ?_⟩
    rw [List.drop_eq_nil_of_le hl] at h2
    exact h2 σ2 F2 H2 (Aft.refl E2)
  · have hl : i < items.length := by omega
    refine .inr ⟨wk.go i F2 H2 sb E2.le hl, fun σ3 H3 => (i + 1) + (m - 1) = items.length ∧ ∃ F env, Sub F1 F ∧ EnvR c.nm F H3 σ3 env ∧ XRes c σ3 F H3 env (forL tn (items.drop (i + 1)) env) D, fun σ' H' n => ⟨m - 1, by omega, n⟩, fun x H3 y => ?_⟩
    rw [List.drop_eq_getElem_cons hl] at h2
    obtain ⟨F3, ext, rep⟩ := wk.yld i items[i] F2 H2 x H3 sb E2.le (List.getElem?_eq_getElem hl) y
    have E3 := E2.ext ext
    have A3 : Aft c σ2 F2 H2 env2 σ2 F3 H3 env2 := Aft.of E3 (Ext.step ext)
    unfold forL at h2
    rw [← ht] at h2
    simp only at h2
    cases h4 : asgT c.io t items[i] env2 with
    | none => rw [h4] at h2; exact h2.elim
    | some env4 =>
      rw [h4] at h2
      refine ⟨F3, env2, items[i], env4, E3, rep, h4, fun σ4 ⟨E4, a1, a2, a3, _⟩ => ⟨F3, env4, E4, ?_⟩⟩
      have A4 : Aft c σ2 F2 H2 env2 σ4 F3 H3 env4 := A3.trans ⟨E4, ⟨Sub.refl _, fun _ h => .inl h, fun _ _ h _ => h, fun a h => .inl (a2 a h), fun _ h => h⟩, a3⟩
      simp only at h2
      cases h5 : exs c.Φ c.io ib env4 with
      | nx e =>
        rw [h5] at h2
        exact fun σ5 F5 H5 a5 => ⟨by omega, F5, e, (sb.trans A4.step.sub).trans a5.step.sub, a5.er, by rw [ht] at h2; exact XRes.shift h2 (A4.trans a5)⟩
      | ct e =>
        rw [h5] at h2
        exact fun σ5 F5 H5 a5 => ⟨by omega, F5, e, (sb.trans A4.step.sub).trans a5.step.sub, a5.er, by rw [ht] at h2; exact XRes.shift h2 (A4.trans a5)⟩
      | bk e =>
        rw [h5] at h2
        exact fun σ5 F5 H5 a5 => h2 σ5 F5 H5 (A4.trans a5)
      | rt x e => rw [h5] at h2; exact XRes.shift (D := D) h2 A4
      | exc x e => rw [h5] at h2; exact XRes.shift (D := D) h2 A4
      | stuck => rw [h5] at h2; exact h2
theorem ss_while {body : List Stmt} {ib : ISs} (hp : PassesOwn (model X.prog X.w) X.A X.env X.xe) (hc : PT X a (tT c ia)) (hb : PSs X body (tSs c ib)) : PS X (.While a body [] pos) (tS c (.whl ia ib)) := by
  refine (ps_while hp hc hb).imp fun D σ H ⟨F, env, E, q⟩ => ?_
  unfold ex at q
  refine ⟨fun m σ H => ∃ F env, EnvR c.nm F H σ env ∧ XRes c σ F H env (whileL (ev c.Φ c.io ia) (exs c.Φ c.io ib) m env) D, ⟨c.Φ.wf, F, env, E, q⟩, fun m σ2 H2 ⟨F2, env2, E2, h2⟩ => ?_⟩
  cases m with
  | zero => exact h2.elim
  | succ m =>
    unfold whileL at h2
    refine ⟨F2, env2, E2, ?_⟩
    show Res c σ2 F2 H2 env2 (rlB σ2) (bR (ev c.Φ c.io ia env2)) _
    unfold bR
    cases h : ev c.Φ c.io ia env2 with
    | ok v env3 =>
      rw [h] at h2
      show Res c σ2 F2 H2 env2 (rlB σ2) (boolR v fun b => .ok b env3) _
      unfold boolR
      have h2 : XRes c σ2 F2 H2 env2 (match v.d with
        | .bl true => (match exs c.Φ c.io ib env3 with
          | .nx e => whileL (ev c.Φ c.io ia) (exs c.Φ c.io ib) m e
          | .ct e => whileL (ev c.Φ c.io ia) (exs c.Φ c.io ib) m e
          | .bk e => .nx e
          | r => r)
        | .bl false => .nx env3
        | _ => .stuck) D := h2
      cases hd : v.d with
      | bl b =>
        rw [hd] at h2
        intro F3 H3 b' E3 S3 e
        have e : b = b' := e
        subst e
        have A3 : Aft c σ2 F2 H2 env2 σ2 F3 H3 env3 := Aft.of E3 S3
        cases b with
        | false => exact h2 σ2 F3 H3 A3
        | true =>
          refine ⟨fun σ H => ∃ F env, EnvR c.nm F H σ env ∧ XRes c σ F H env (whileL (ev c.Φ c.io ia) (exs c.Φ c.io ib) m env) D, fun σ' H' n => ⟨m, Nat.lt_succ_self m, n⟩, F3, env3, E3, ?_⟩
          simp only at h2
          cases h5 : exs c.Φ c.io ib env3 with
          | nx e =>
            rw [h5] at h2
            exact fun σ5 F5 H5 a5 => ⟨F5, e, a5.er, XRes.shift h2 (A3.trans a5)⟩
          | ct e =>
            rw [h5] at h2
            exact fun σ5 F5 H5 a5 => ⟨F5, e, a5.er, XRes.shift h2 (A3.trans a5)⟩
          | bk e =>
            rw [h5] at h2
            exact fun σ5 F5 H5 a5 => h2 σ5 F5 H5 (A3.trans a5)
          | rt x e => rw [h5] at h2; exact XRes.shift (D := D) h2 A3
          | exc x e => rw [h5] at h2; exact XRes.shift (D := D) h2 A3
          | stuck => rw [h5] at h2; exact h2
      | _ => rw [hd] at h2; exact h2.elim
    | exc x env3 =>
      rw [h] at h2
      exact fun F1 H1 cls dd E1 S1 r1 => h2 σ2 F1 H1 cls dd (Aft.of E1 S1) r1
    | stuck => rw [h] at h2; exact h2
end
end MT
namespace MT
open PySem PySem.Spec PyProof.Rows L2

section
variable {nm : Nm} {F : Hp} {κ : Type} [DecidableEq κ]
theorem any_keys : ∀ {kvs : List (κ × V)} {kds : List (κ × D)}, kvs.map (·.1) = kds.map (·.1) → ∀ k : κ, (kvs.any fun p => decide (p.1 = k)) = (kds.any fun p => decide (p.1 = k))
  | [], [], _, _ => rfl
  | [], _ :: _, h, _ => by cases h
  | _ :: _, [], h, _ => by cases h
  | p :: r, q :: t, h, k => by
    simp only [List.map_cons, List.cons.injEq] at h
    simp only [List.any_cons, h.1, any_keys h.2 k]
theorem map_keys : ∀ {kvs : List (κ × V)} {kds : List (κ × D)}, kvs.map (·.1) = kds.map (·.1) → RepL nm F (kvs.map (·.2)) (kds.map (·.2)) → ∀ {k : κ} {v : V} {d : D}, Rep nm F v d →
    (kvs.map fun kv => if kv.1 = k then (kv.1, v) else kv).map (·.1) = (kds.map fun kv => if kv.1 = k then (kv.1, d) else kv).map (·.1) ∧
      RepL nm F ((kvs.map fun kv => if kv.1 = k then (kv.1, v) else kv).map (·.2)) ((kds.map fun kv => if kv.1 = k then (kv.1, d) else kv).map (·.2))
  | [], [], _, _, _, _, _, _ => ⟨rfl, .nil⟩
  | [], _ :: _, h, _, _, _, _, _ => by cases h
  | _ :: _, [], h, _, _, _, _, _ => by cases h
  | p :: r, q :: t, h, rr, k, v, d, rv => by
    simp only [List.map_cons, List.cons.injEq] at h
    cases rr with
    | cons r1 r2 =>
      obtain ⟨a1, a2⟩ := map_keys h.2 r2 (k := k) rv
      simp only [List.map_cons]
      by_cases e : p.1 = k
      · rw [if_pos e, if_pos (h.1.symm.trans e)]
        exact ⟨by rw [List.cons.injEq]; exact ⟨h.1, a1⟩, .cons rv a2⟩
      · rw [if_neg e, if_neg fun z => e (h.1.trans z)]
        exact ⟨by rw [List.cons.injEq]; exact ⟨h.1, a1⟩, .cons r1 a2⟩
theorem putA_rep {kvs : List (κ × V)} {kds : List (κ × D)} (h : kvs.map (·.1) = kds.map (·.1)) (rr : RepL nm F (kvs.map (·.2)) (kds.map (·.2))) {k : κ} {v : V} {d : D} (rv : Rep nm F v d) :
    (putK kvs k v).map (·.1) = (putA kds k d).map (·.1) ∧ RepL nm F ((putK kvs k v).map (·.2)) ((putA kds k d).map (·.2)) := by
  unfold putK putA
  rw [any_keys h k]
  split
  · exact map_keys h rr rv
  · rw [List.map_append, List.map_append, List.map_append, List.map_append, h]
    exact ⟨rfl, rr.append (.cons rv .nil)⟩
end
section
variable {X : Cx} {c : Sx} {e a b o tg : Expr} {es : List Expr} {ia ib ic ik : IE} {as : IEs} {pos : Pos} {σ σ1 : St} {F H F1 H1 : Hp} {env env1 : Env} {α β γ δ : Type} {D D' : Ends}
theorem key_rep {nm : Nm} {v : V} {d : MT.D} {k : Key} (r : DataR nm F H v d) (h : keyD d = some k) : v = kV k := by
  cases d with
  | int i => cases h; exact r.int
  | str x => cases h; exact r.str
  | _ => cases h
def rPut : TSet := fun o i v H Q => rSetL o i v H Q ∨ rSetD o i v H Q
theorem set_any (hu : X.A.units + 1 < cLine) : PSet X rPut := by
  intro pins s σ H o i v ov iv u Q I ro ri rv h
  rcases h with h | h
  · exact set_list pins s σ H o i v ov iv u Q I ro ri rv h
  · exact set_dict hu pins s σ H o i v ov iv u Q I ro ri rv h
theorem ss_put {i : Nat} {p : Pos} (hu : X.A.units + 1 < cLine) (he : PE X e (tE c ia)) (ho : PE X o (tVar i)) (hk : PE X a (tE c ik))
    (ha : ∀ v, assign (.Subscript o a p) X.env v = (do
      let ov ← holding [v] (eval o X.env)
      let iv ← holding [v, ov] (eval a X.env)
      standAt p
      holding [v, ov, iv] (setItem ov iv v)
      release [v, ov, iv] []))
    (hs : swapsWithSole [.Subscript o a p] e pos.line X.env = pure false) (hw : swappedStores [.Subscript o a p] e X.env = pure none) (h1 : (assignEach [.Subscript o a p] X.env).map (·.2) = [assign (.Subscript o a p) X.env]) :
    PS X (.Assign [.Subscript o a p] e pos) (tS c (.put i ik ia)) := by
  refine (ps_asg he (pg_sub ho hk (set_any hu) ha) hs hw h1).imp fun D σ H ⟨F, env, E, q⟩ => ⟨F, env, E, ?_⟩
  unfold ex at q
  refine X_bind q fun x v F1 H1 env1 E1 S1 r1 h1 => ?_
  obtain ⟨F2, E2, rep, sb, le, nw⟩ := E1.shareV r1.1 fun o p e => (r1.2 o p e).2
  have S2 := S1.shared sb fun b hb => (nw b hb).imp id fun z => (r1.2 z.1 b z.2).1
  have h2 := XRes.shift h1 (Aft.of E2 S2)
  -- the place
  split at h1
  · rename_i hsome
    rw [if_pos hsome] at h2
    cases h0 : slot env1 i with
    | none => rw [h0] at hsome; cases hsome
    | some x0 =>
      obtain ⟨w, hw, _⟩ := E2.val i x0 h0
      refine ⟨w, hw, F2, env1, E2, X_bind h2 fun y u F3 H3 env3 E3 S3 r3 h3 => ?_⟩
      cases h4 : slot env3 i with
      | none => rw [h4] at h3; exact h3.elim
      | some s =>
        rw [h4] at h3
        simp only at h3
        split at h3
        · rename_i ho
          obtain ⟨p, hv, fp, at1, ow1⟩ := E3.own_at h4 ho
          rw [hw] at hv; cases hv
          have hs : slot env3 i = some ⟨s.d, true⟩ := by rw [h4]; cases s; simp only at ho; rw [ho]
          have rep3 := rep.mono S3.sub
          cases hm : muD .put s.d [y.d, x.d] with
          | none => rw [hm] at h3; exact h3.elim
          | some z =>
            obtain ⟨d', r⟩ := z
            rw [hm] at h3
            unfold muD at hm
            split at hm
            · contradiction
            · rename_i kvs k v' _ ed ek
              cases ek
              cases hk : keyD y.d with
              | none => rw [hk] at hm; cases hm
              | some key =>
                rw [hk] at hm
                have hm : (if kvs.length < lineD then some (MT.D.dK (putA kvs key x.d), MT.D.non) else none) = some (d', r) := hm
                split at hm
                · rename_i hl
                  cases hm
                  rw [ed] at at1
                  obtain ⟨kv1, hp1, hkeys, rr⟩ := at1
                  obtain ⟨a1, a2⟩ := putA_rep hkeys rr (k := key) rep3
                  obtain ⟨E4, S4⟩ := E3.mutate (d' := .dK (putA kvs key x.d)) (o := .dK (putK kv1 key v)) hs hw ⟨_, upd_same, a1, a2⟩
                  have hu := key_rep r3.1.data hk
                  subst hu
                  have hl1 : kv1.length = kvs.length := by simpa using congrArg List.length hkeys
                  refine .inr ⟨p, _, rfl, DPut.k hp1 (by rw [line_eq, hl1]; exact hl), ?_⟩
                  exact h3 σ F3 _ (Aft.of E4 (S3.trans S4))
                · cases hm
            · rename_i xs k v' _ ed ek
              have ey : y.d = .int k := by injection ek
              have ex' : x.d = v' := by injection ek with _ z; injection z
              cases hj : ixN xs.length k with
              | none => rw [hj] at hm; cases hm
              | some j =>
                rw [hj] at hm
                cases hm
                rw [ed] at at1
                obtain ⟨vs1, hp1, rr⟩ := at1
                rw [← ex'] at h3
                obtain ⟨E4, S4⟩ := E3.mutate (d' := .lst (xs.set j x.d)) (o := .lst (vs1.set j v)) hs hw ⟨_, upd_same, rr.set rep3 j⟩
                have dy := r3.1.data
                rw [ey] at dy
                exact .inl ⟨p, vs1, k, j, rfl, dy.int, hp1, by rw [rr.length]; exact hj, h3 σ F3 _ (Aft.of E4 (S3.trans S4))⟩
            · cases hm
        · exact h3.elim
  · exact h1.elim
theorem slot_wipeE : ∀ (is : List Nat) {env : Env} {j : Nat}, slot (wipeE env is) j = if j ∈ is then none else slot env j
  | [], env, j => by rw [if_neg (by simp)]; rfl
  | i :: is, env, j => by
    show slot (wipeE (env.set i none) is) j = _
    rw [slot_wipeE is, slot_set]
    by_cases h1 : j ∈ is
    · rw [if_pos h1, if_pos (List.mem_cons_of_mem _ h1)]
    · rw [if_neg h1]
      by_cases h2 : i = j
      · subst h2
        rw [if_pos List.mem_cons_self]
        by_cases h3 : i < env.length
        · rw [if_pos ⟨rfl, h3⟩]
        · rw [if_neg fun z => h3 z.2]
          cases h4 : slot env i with
          | none => rfl
          | some x => exact absurd (slot_lt h4) h3
      · rw [if_neg fun z => h2 z.1, if_neg]
        intro z
        rcases List.mem_cons.mp z with z | z
        · exact h2 z.symm
        · exact h1 z
theorem slot_backE (old : Env) : ∀ (is : List Nat) {env : Env} {j : Nat}, (∀ i ∈ is, i < env.length) → slot (backE env old is) j = if j ∈ is then slot old j else slot env j
  | [], env, j, _ => by rw [if_neg (by simp)]; rfl
  | i :: is, env, j, hl => by
    show slot (backE (env.set i (slot old i)) old is) j = _
    rw [slot_backE old is (fun k hk => by rw [List.length_set]; exact hl k (List.mem_cons_of_mem _ hk)), slot_set]
    by_cases h1 : j ∈ is
    · rw [if_pos h1, if_pos (List.mem_cons_of_mem _ h1)]
    · rw [if_neg h1]
      by_cases h2 : i = j
      · subst h2
        rw [if_pos List.mem_cons_self, if_pos ⟨rfl, hl i List.mem_cons_self⟩]
      · rw [if_neg fun z => h2 z.1, if_neg]
        intro z
        rcases List.mem_cons.mp z with z | z
        · exact h2 z.symm
        · exact h1 z
theorem wipeE_len : ∀ (is : List Nat) {env : Env}, (wipeE env is).length = env.length
  | [], _ => rfl
  | i :: is, env => by show (wipeE (env.set i none) is).length = _; rw [wipeE_len is, List.length_set]
theorem backE_len (old : Env) : ∀ (is : List Nat) {env : Env}, (backE env old is).length = env.length
  | [], _ => rfl
  | i :: is, env => by show (backE (env.set i (slot old i)) old is).length = _; rw [backE_len old is, List.length_set]
theorem wipe_in {i : Nat} : ∀ {vs : List Nat}, i ∈ vs → i < σ.length → (wipe σ vs)[i]? = some none
  | [], h, _ => by cases h
  | v :: vs, h, hl => by
    unfold wipe
    by_cases e : v = i
    · subst e
      exact List.getElem?_set_self (by rw [wipe_length]; exact hl)
    · rw [List.getElem?_set_ne e]
      rcases List.mem_cons.mp h with z | z
      · exact absurd z.symm e
      · exact wipe_in z hl
theorem wipe_at {i : Nat} {vs : List Nat} : (wipe σ vs)[i]? = if i ∈ vs ∧ i < σ.length then some none else σ[i]? := by
  by_cases h : i ∈ vs
  · by_cases hl : i < σ.length
    · rw [if_pos ⟨h, hl⟩, wipe_in h hl]
    · rw [if_neg fun z => hl z.2, List.getElem?_eq_none (by rw [wipe_length]; omega), List.getElem?_eq_none (by omega)]
  · rw [if_neg fun z => h z.1, wipe_out h]
theorem wipe_again {σ2 : St} {vs : List Nat} (hl : σ2.length = (wipe σ vs).length) (h : ∀ j, j ∉ vs → σ2[j]? = (wipe σ vs)[j]?) : wipe σ2 vs = wipe σ vs := by
  refine List.ext_getElem? fun j => ?_
  rw [wipe_length] at hl
  rw [wipe_at, wipe_at, hl]
  by_cases h1 : j ∈ vs
  · by_cases h2 : j < σ.length
    · rw [if_pos ⟨h1, h2⟩, if_pos ⟨h1, h2⟩]
    · rw [if_neg fun z => h2 z.2, if_neg fun z => h2 z.2, List.getElem?_eq_none (by omega), List.getElem?_eq_none (by omega)]
  · rw [if_neg fun z => h1 z.1, if_neg fun z => h1 z.1, h j h1, wipe_out h1]
theorem ow_wipe {is : List Nat} {x : Addr} (h : Ow (wipe σ is) (wipeE env is) x) : Ow σ env x := by
  obtain ⟨j, y, hy, oy, hj⟩ := h
  rw [slot_wipeE] at hy
  split at hy
  · cases hy
  · rename_i hn
    rw [wipe_out hn] at hj
    exact ⟨j, y, hy, oy, hj⟩
theorem EnvR.wipe {nm : Nm} (E : EnvR nm F H σ env) (is : List Nat) : EnvR nm F H (L2.wipe σ is) (wipeE env is) where
  len := by rw [wipe_length, wipeE_len]; exact E.len
  le := E.le
  val := fun j y hy => by
    rw [slot_wipeE] at hy
    split at hy
    · cases hy
    · rename_i hn
      obtain ⟨v, hv, r⟩ := E.val j y hy
      exact ⟨v, by rw [wipe_out hn]; exact hv, r⟩
  sep := fun j k y z p hy hz oy oz h1 h2 => by
    rw [slot_wipeE] at hy hz
    split at hy
    · cases hy
    · split at hz
      · cases hz
      · rename_i n1 n2
        rw [wipe_out n1] at h1
        rw [wipe_out n2] at h2
        exact E.sep j k y z p hy hz oy oz h1 h2
/-- the old slots again -/
theorem EnvR.back {nm : Nm} {is : List Nat} {eEnd : Env} (E1 : EnvR nm F1 H1 σ env1) (E : EnvR nm F H (L2.wipe σ is) eEnd) (S : Step (Ow (L2.wipe σ is) (wipeE env1 is)) F1 H1 (Ow (L2.wipe σ is) eEnd) F H) (hl : ∀ i ∈ is, i < σ.length) :
    EnvR nm F H σ (backE eEnd env1 is) ∧ Step (Ow σ env1) F1 H1 (Ow σ (backE eEnd env1 is)) F H ∧ ∀ a, Ow σ (backE eEnd env1 is) a → Ow σ env1 a ∨ Ow (L2.wipe σ is) eEnd a := by
  have hle : ∀ i ∈ is, i < eEnd.length := fun i hi => by rw [← E.len, wipe_length]; exact hl i hi
  have own1 : ∀ {j x a}, j ∈ is → slot env1 j = some x → x.own = true → σ[j]? = some (some (.ref a)) → ¬ Ow (L2.wipe σ is) (wipeE env1 is) a := fun {j x a} hj hx ho hs z => by
    obtain ⟨k, y, hy, oy, hk⟩ := z
    rw [slot_wipeE] at hy
    split at hy
    · cases hy
    · rename_i hn
      rw [wipe_out hn] at hk
      have := E1.sep j k x y a hx hy ho oy hs hk
      exact hn (this ▸ hj)
  have own2 : ∀ {a}, Ow σ (backE eEnd env1 is) a → Ow σ env1 a ∨ Ow (L2.wipe σ is) eEnd a := fun {a} ⟨j, y, hy, oy, hj⟩ => by
    rw [slot_backE env1 is hle] at hy
    split at hy
    · exact .inl ⟨j, y, hy, oy, hj⟩
    · rename_i hn
      exact .inr ⟨j, y, hy, oy, by rw [wipe_out hn]; exact hj⟩
  have own3 : ∀ {a}, Ow (L2.wipe σ is) eEnd a → Ow σ env1 a ∨ H1 a = none := fun {a} h => by
    rcases S.les a h with z | z
    · exact .inl (ow_wipe z)
    · exact .inr z
  refine ⟨⟨by rw [backE_len, ← E.len, wipe_length], E.le, fun j y hy => ?_, fun j k y z p hy hz oy oz h1 h2 => ?_⟩, ⟨S.sub, fun a ha => ?_, fun a o ha na => S.keep a o ha fun z => na (ow_wipe z), fun a ha => ?_, S.there⟩, fun a => own2⟩
  · rw [slot_backE env1 is hle] at hy
    split at hy
    · rename_i hj
      obtain ⟨v, hv, r⟩ := E1.val j y hy
      exact ⟨v, hv, r.step S fun o a e => own1 hj hy o (by rw [← e]; exact hv)⟩
    · rename_i hj
      obtain ⟨v, hv, r⟩ := E.val j y hy
      rw [wipe_out hj] at hv
      exact ⟨v, hv, r⟩
  · rw [slot_backE env1 is hle] at hy hz
    split at hy <;> split at hz
    · exact E1.sep j k y z p hy hz oy oz h1 h2
    · rename_i n1 n2
      have o1 : Ow (L2.wipe σ is) eEnd p := ⟨k, z, hz, oz, by rw [wipe_out n2]; exact h2⟩
      rcases S.les p o1 with q | q
      · exact absurd q (own1 n1 hy oy h1)
      · exact absurd q (E1.ow_some ⟨j, y, hy, oy, h1⟩)
    · rename_i n1 n2
      have o1 : Ow (L2.wipe σ is) eEnd p := ⟨j, y, hy, oy, by rw [wipe_out n1]; exact h1⟩
      rcases S.les p o1 with q | q
      · exact absurd q (own1 n2 hz oz h2)
      · exact absurd q (E1.ow_some ⟨k, z, hz, oz, h2⟩)
    · rename_i n1 n2
      exact E.sep j k y z p hy hz oy oz (by rw [wipe_out n1]; exact h1) (by rw [wipe_out n2]; exact h2)
  · rcases S.new a ha with z | z | z
    · exact .inl z
    · exact .inr (.inl z)
    · exact .inr (.inr (ow_wipe z))
  · rcases own2 ha with z | z
    · exact .inl z
    · exact own3 z
theorem lcL_ok {own : List Nat} {t : MT.D → Env → MT.R (Option MT.D)} : ∀ (ds : List MT.D) (e : Env), (∃ r e', lcL own t ds e = .ok r e') ∨ lcL own t ds e = .stuck
  | [], e => .inl ⟨_, _, rfl⟩
  | d :: ds, e => by
    unfold lcL
    cases h : t d e with
    | ok o e1 =>
      rcases lcL_ok (own := own) (t := t) ds (wipeE e1 own) with ⟨r, e', h2⟩ | h2
      · exact .inl ⟨_, _, by simp only [h2]; rfl⟩
      · exact .inr (by simp only [h2]; rfl)
    | _ => exact .inr rfl
theorem lcL_cons {own : List Nat} {t : MT.D → Env → MT.R (Option MT.D)} {d : MT.D} {ds : List MT.D} {e eT eEnd : Env} {o : Option MT.D} {rest : List MT.D} (h1 : t d e = .ok o eT) (h : lcL own t (d :: ds) e = .ok rest eEnd) :
    ∃ r, lcL own t ds (wipeE eT own) = .ok r eEnd ∧ rest = o.toList ++ r := by
  unfold lcL at h
  rw [h1] at h
  rcases lcL_ok (own := own) (t := t) ds (wipeE eT own) with ⟨r, e', h2⟩ | h2
  · simp only [h2] at h
    cases o with
    | none => cases h; exact ⟨r, h2, rfl⟩
    | some y => cases h; exact ⟨r, h2, rfl⟩
  · simp only [h2] at h; cases h
abbrev _root_.MT.Sx.blk (c : Sx) : Sx := { c with W := fun _ _ _ _ => False }
def tTs (c : Sx) (ifs : IEs) : TT := tR c rlB fun e => evt c.Φ c.io ifs e
theorem sts_nil : PTs X [] (tTs c .nil) := ⟨fun pins s σ H Q I ⟨F, env, E, q⟩ => pts_nil.run pins s σ H Q I (q F H true E Step.refl rfl)⟩
theorem sts_one (h : PT X a (tT c ia)) : PTs X [a] (tTs c (.cons ia .nil)) := pts_one h
def turnE (c : Sx) (tg : IT) (ifs : IEs) (elt : IE) : MT.D → Env → MT.R (Option MT.D) := fun d en => match asgT c.io tg d en with
  | some en => (evt c.Φ c.io ifs en).bind fun b en => if b = true then (ev c.Φ c.io elt en).bind fun v en => .ok (some v.d) en else .ok none en
  | none => .stuck
theorem lc_imp {tg : IT} {k : ItK} {ifs : IEs} {elt : IE} {own : List Nat} (hv : ∀ j ∈ tg.vars, j ∈ own) {Q : VK} (h : tE c (.lc own tg k as ifs elt) σ H Q) :
    tLc (tI c k as) (gT c.blk tg) (tTs c.blk ifs) (tE c.blk elt) own σ H Q := by
  obtain ⟨F, env, E, q⟩ := h
  refine ⟨F, env, E, ?_⟩
  unfold ev at q
  refine Res_bind q fun items J F1 H1 env1 E1 S1 wk h1 => ?_
  clear q
  intro Dd hDd
  split at h1
  · rename_i hc
    have hN : ∀ i ∈ own, i < σ.length := fun i hi => by rw [E1.len]; exact (hc.2 i hi).2
    change Res c σ F H env (rlV c.nm σ) ((lcL own (turnE c tg ifs elt) items (wipeE env1 own)).bind fun ds e2 => .ok ⟨.lst ds, true⟩ (backE e2 env1 own)) Q at h1
    rcases lcL_ok (own := own) (t := turnE c tg ifs elt) items (wipeE env1 own) with ⟨dsAll, eEnd, hL⟩ | hL
    · rw [hL] at h1
      have fpD : F1 Dd = none := by
        cases h : F1 Dd with
        | none => rfl
        | some u => exact absurd hDd (E1.le Dd u h).ne
      have npD : ¬ Ow σ env1 Dd := fun z => E1.ow_some z hDd
      refine ⟨fun i m H => i + m = items.length ∧ ∃ F env acc ds0 rest, EnvR c.nm F H (L2.wipe σ own) env ∧ Step (Ow (L2.wipe σ own) (wipeE env1 own)) F1 H1 (Ow (L2.wipe σ own) env) F H ∧ H Dd = some (.lst acc) ∧ F Dd = none ∧ ¬ Ow (L2.wipe σ own) env Dd ∧
          RepL c.nm F acc ds0 ∧ acc.length ≤ i ∧ lcL own (turnE c tg ifs elt) (items.drop i) env = .ok rest eEnd ∧ ds0 ++ rest = dsAll, ⟨items.length, by omega, F1, wipeE env1 own, [], [], dsAll, ?_, ?_, upd_same, fpD, fun z => npD (ow_wipe z), .nil, by simp, by rw [List.drop_zero]; exact hL, rfl⟩, ?_⟩
      · exact (E1.at_free fpD npD).wipe own
      · exact ⟨Sub.refl _, fun _ h => .inl h, fun a o ha _ => by rw [upd_ne (ne_of_none ha hDd)]; exact ha, fun _ h => .inl h, fun a ha => by
          by_cases e : a = Dd
          · subst e; exact hDd
          · rw [upd_ne e] at ha; exact ha⟩
      · intro i m H2 ⟨hm, F2, env2, acc, ds0, rest, E2, S2, hD2, fD2, nD2, rr, hacc, hL2, hall⟩
        by_cases hlen : items.length ≤ i
        · refine .inl ⟨wk.stop i F2 H2 S2.sub E2.le hlen, ?_⟩
          rw [List.drop_eq_nil_of_le hlen] at hL2
          unfold lcL at hL2
          cases hL2
          obtain ⟨E3, S3, o3⟩ := EnvR.back E1 E2 S2 hN
          have hall : ds0 = dsAll := by simpa using hall
          subst hall
          exact h1 F2 H2 (.ref Dd) E3 (S1.trans S3) ⟨⟨Dd, rfl, fD2, acc, hD2, rr⟩, fun _ p e => by
            cases e
            exact ⟨S1.there _ hDd, fun z => (o3 _ z).elim npD nD2⟩⟩
        · have hlen : i < items.length := by omega
          refine .inr ⟨wk.go i F2 H2 S2.sub E2.le hlen, fun H => (i + 1) + (m - 1) = items.length ∧ ∃ F env acc ds0 rest, EnvR c.nm F H (L2.wipe σ own) env ∧ Step (Ow (L2.wipe σ own) (wipeE env1 own)) F1 H1 (Ow (L2.wipe σ own) env) F H ∧ H Dd = some (.lst acc) ∧ F Dd = none ∧ ¬ Ow (L2.wipe σ own) env Dd ∧
            RepL c.nm F acc ds0 ∧ acc.length ≤ i + 1 ∧ lcL own (turnE c tg ifs elt) (items.drop (i + 1)) env = .ok rest eEnd ∧ ds0 ++ rest = dsAll, fun H' n => ⟨m - 1, by omega, n⟩, fun x H3 y => ?_⟩
          rw [List.drop_eq_getElem_cons hlen] at hL2
          obtain ⟨F3, ext, rep⟩ := wk.yld i items[i] F2 H2 x H3 S2.sub E2.le (List.getElem?_eq_getElem hlen) y
          have E3 := E2.ext ext
          have hD3 : H3 Dd = some (.lst acc) := ext.2.keep Dd _ hD2 id
          -- what stays of the new list
          have stays : ∀ {S S' : AS} {Fa Ha Fb Hb : Hp}, Step S Fa Ha S' Fb Hb → Ha Dd = some (.lst acc) → Fa Dd = none → ¬ S Dd → Hb Dd = some (.lst acc) ∧ Fb Dd = none ∧ ¬ S' Dd := fun {S S' Fa Ha Fb Hb} s h1 h2 h3 => by
            refine ⟨s.keep Dd _ h1 h3, ?_, fun z => ?_⟩
            · cases h : Fb Dd with
              | none => rfl
              | some u =>
                rcases s.new Dd (by rw [h]; exact fun z => nomatch z) with z | z | z
                · exact absurd h2 z
                · rw [h1] at z; cases z
                · exact absurd z h3
            · rcases s.les Dd z with z | z
              · exact h3 z
              · rw [h1] at z; cases z
          obtain ⟨_, fD3, _⟩ := stays ext.2 hD2 fD2 id
          cases hT : turnE c tg ifs elt items[i] env2 with
          | stuck => unfold lcL at hL2; rw [hT] at hL2; cases hL2
          | exc _ _ => unfold lcL at hL2; rw [hT] at hL2; cases hL2
          | ok ov eT =>
            obtain ⟨r6, h6, hrest⟩ := lcL_cons hT hL2
            unfold turnE at hT
            cases hA : asgT c.io tg items[i] env2 with
            | none => rw [hA] at hT; cases hT
            | some env4 =>
              rw [hA] at hT
              simp only at hT
              refine ⟨F3, env2, items[i], env4, E3, rep, hA, fun σ4 ⟨E4, a1, a2, a3, a4⟩ => ⟨wipe_again (by rw [a4, wipe_length]) fun j hj => ?_, F3, env4, E4, ?_⟩⟩
              · exact a1 j fun z => hj (hv j z)
              have w4 : L2.wipe σ4 own = L2.wipe σ own := wipe_again (by rw [a4, wipe_length]) fun j hj => a1 j fun z => hj (hv j z)
              have S4 : Step (Ow (L2.wipe σ own) (wipeE env1 own)) F1 H1 (Ow σ4 env4) F3 H3 := (S2.trans (Ext.step ext)).trans ⟨Sub.refl _, fun _ h => .inl h, fun _ _ h _ => h, fun a h => .inl (a2 a h), fun _ h => h⟩
              have nD4 : ¬ Ow σ4 env4 Dd := fun z => nD2 (a2 _ z)
              show Res c.blk σ4 F3 H3 env4 (rlB σ4) (evt c.Φ c.io ifs env4) _
              cases hE : evt c.Φ c.io ifs env4 with
              | stuck => rw [hE] at hT; cases hT
              | exc _ _ => rw [hE] at hT; cases hT
              | ok bb env5 =>
                rw [hE] at hT
                have hT : (if bb = true then (ev c.Φ c.io elt env5).bind fun v en => MT.R.ok (some v.d) en else MT.R.ok none env5) = MT.R.ok ov eT := hT
                intro F5 H5 b' E5 S5 eb
                have eb : bb = b' := eb
                subst eb
                obtain ⟨hD5, fD5, nD5⟩ := stays S5 hD3 fD3 nD4
                have S15 := S4.trans S5
                cases bb with
                | false =>
                  rw [if_neg Bool.false_ne_true] at hT ⊢
                  obtain ⟨rfl, rfl⟩ : ov = none ∧ env5 = eT := by cases hT; exact ⟨rfl, rfl⟩
                  refine ⟨by omega, F5, wipeE env5 own, acc, ds0, r6, by rw [← w4]; exact E5.wipe own, ?_, hD5, fD5, fun z => nD5 (ow_wipe (by rw [w4]; exact z)), rr.mono (ext.2.sub.trans S5.sub), by omega, h6, by rw [← hall, hrest]; rfl⟩
                  exact S15.trans ⟨Sub.refl _, fun _ h => .inl h, fun _ _ h _ => h, fun a h => .inl (ow_wipe (by rw [w4]; exact h)), fun _ h => h⟩
                | true =>
                  rw [if_pos rfl] at hT ⊢
                  refine ⟨F5, env5, E5, ?_⟩
                  show Res c.blk σ4 F5 H5 env5 (rlV c.nm σ4) (ev c.Φ c.io elt env5) _
                  cases hV : ev c.Φ c.io elt env5 with
                  | stuck => rw [hV] at hT; cases hT
                  | exc _ _ => rw [hV] at hT; cases hT
                  | ok v6 env6 =>
                    rw [hV] at hT
                    obtain ⟨rfl, rfl⟩ : ov = some v6.d ∧ env6 = eT := by cases hT; exact ⟨rfl, rfl⟩
                    intro F6 H6 y6 E6 S6 rv6
                    obtain ⟨hD6, fD6, nD6⟩ := stays S6 hD5 fD5 nD5
                    obtain ⟨F7, E7, rep7, sb7, le7, nw7⟩ := EnvR.shareV E6 rv6.1 fun o p e => (rv6.2 o p e).2
                    have fD7 : F7 Dd = none := by
                      cases h : F7 Dd with
                      | none => rfl
                      | some u =>
                        rcases nw7 Dd (by rw [h]; exact fun z => nomatch z) with z | z
                        · exact absurd fD6 z
                        · have := (rv6.2 z.1 Dd z.2).1
                          rw [hD5] at this; cases this
                    have S17 : Step (Ow (L2.wipe σ own) (wipeE env1 own)) F1 H1 (Ow σ4 env6) F7 H6 := (S15.trans S6).shared sb7 fun b hb => (nw7 b hb).imp id fun z => S15.there b (rv6.2 z.1 b z.2).1
                    refine ⟨acc, hD6, by rw [line_eq]; omega, by omega, F7, wipeE env6 own, acc ++ [y6], ds0 ++ [v6.d], r6, ?_, ?_, upd_same, fD7, fun z => nD6 (ow_wipe (by rw [w4]; exact z)), ?_, by rw [List.length_append, List.length_singleton]; omega, h6, by rw [← hall, hrest, List.append_assoc]; rfl⟩
                    · rw [← w4]
                      exact (EnvR.at_free E7 fD7 nD6).wipe own
                    · refine ⟨S17.sub, S17.new, fun a o ha na => ?_, fun a ha => S17.les a (ow_wipe (by rw [w4]; exact ha)), fun a ha => ?_⟩
                      · rw [upd_ne (ne_of_none ha hDd)]; exact S17.keep a o ha na
                      · by_cases e : a = Dd
                        · subst e; exact hDd
                        · rw [upd_ne e] at ha; exact S17.there a ha
                    · exact (rr.mono (((ext.2.sub.trans S5.sub).trans S6.sub).trans sb7)).append (.cons rep7 .nil)
    · rw [hL] at h1; exact h1.elim
  · exact h1.elim
section
variable {elt iter : Expr} {ifsE : List Expr} {scope : Scope} {own : List (Str × Nat)} {t : IT} {k : ItK} {ifs : IEs} {ie : IE}
theorem s_lc (hc : X.calm = true) (hN : X.N.Nodup) (hi : PI X tg iter (tI c k as)) (ok : blkC X.N X.env.scope scope own = true)
    (hg : ∀ (s : Shared) (H : Hp) (C : Addr) (cl : List (Str × Addr)) (fp : List Addr), PG (X.blk s H scope (compEnvC scope cl C X.env) fp) tg (gT c.blk t)) (ht : ∀ (s : Shared) (H : Hp) (C : Addr) (cl : List (Str × Addr)) (fp : List Addr), PTs (X.blk s H scope (compEnvC scope cl C X.env) fp) ifsE (tTs c.blk ifs))
    (he : ∀ (s : Shared) (H : Hp) (C : Addr) (cl : List (Str × Addr)) (fp : List Addr), PE (X.blk s H scope (compEnvC scope cl C X.env) fp) elt (tE c.blk ie)) (hs : ∀ x, foldedSetIterable iter X.env x = pure x) (hv : ∀ j ∈ t.vars, j ∈ own.map (·.2)) :
    PE X (.ListComp elt [⟨tg, iter, ifsE, 0⟩] scope pos) (tE c (.lc (own.map (·.2)) t k as ifs ie)) :=
  (pe_lc hc hN hi (blkOk_by ok) hg ht he hs).imp fun σ H Q q => lc_imp hv q
theorem ss_setLc {i : Nat} {y : Str} {py spos : Pos} (hc : X.calm = true) (hN : X.N.Nodup) (hy : X.N[i]? = some y) (hyl : X.env.scope.names.lookup y = some .local)
    (hsw : swapsWith (.ListComp elt [⟨tg, iter, ifsE, 0⟩] scope pos) (some (.Name y py)) spos.line X.env = pure true) (hi : PI X tg iter (tI c k as)) (ok : blkC X.N X.env.scope scope own = true)
    (hg : ∀ (s : Shared) (H : Hp) (C : Addr) (cl : List (Str × Addr)) (fp : List Addr), PG (X.blk s H scope (compEnvC scope cl C X.env) fp) tg (gT c.blk t)) (ht : ∀ (s : Shared) (H : Hp) (C : Addr) (cl : List (Str × Addr)) (fp : List Addr), PTs (X.blk s H scope (compEnvC scope cl C X.env) fp) ifsE (tTs c.blk ifs))
    (he : ∀ (s : Shared) (H : Hp) (C : Addr) (cl : List (Str × Addr)) (fp : List Addr), PE (X.blk s H scope (compEnvC scope cl C X.env) fp) elt (tE c.blk ie)) (hs : ∀ x, foldedSetIterable iter X.env x = pure x) (hv : ∀ j ∈ t.vars, j ∈ own.map (·.2)) :
    PS X (.Assign [.Name y py] (.ListComp elt [⟨tg, iter, ifsE, 0⟩] scope pos) spos) (tS c (.asg (.nm i) (.lc (own.map (·.2)) t k as ifs ie))) := by
  refine (ps_setLc hc hN hy hyl hsw hi (blkOk_by ok) hg ht he hs).imp fun D σ H ⟨F, env, E, q⟩ => ?_
  refine lc_imp hv ⟨F, env, E, ?_⟩
  unfold ex at q
  refine X_bind q fun x v F1 H1 env1 E1 S1 r1 h1 => ?_
  unfold setV at h1
  split at h1
  · exact h1.elim
  · rename_i hn
    exact h1 _ F1 H1 (aft_set E1 S1 (fun z => hn (.inl z)) r1.1 r1.2)
end
end
end MT
namespace MT
open PySem PySem.Spec PyProof.Rows L2

section
variable {nm : Nm} {F H : Hp}
theorem io_pair : ∀ (n : Nat) (bs : List Bool) (vs : List V), bs.length ≤ vs.length → Paired (fun i v => n ≤ i ∧ vs[i - n]? = some v ∧ bs[i - n]? = some true) (ioIx n bs) (ioVs bs vs)
  | _, [], vs, _ => by cases vs <;> exact .nil
  | _, _ :: _, [], h => by simp at h
  | n, b :: bs, v :: vs, h => by
    have ih := io_pair (n + 1) bs vs (by simpa using h)
    have ih' : Paired (fun i w => n ≤ i ∧ (v :: vs)[i - n]? = some w ∧ (b :: bs)[i - n]? = some true) (ioIx (n + 1) bs) (ioVs bs vs) := Paired.mapP ih fun i w ⟨h1, h2, h3⟩ => by
      have e : i - n = (i - (n + 1)) + 1 := by omega
      exact ⟨by omega, by rw [e]; simpa using h2, by rw [e]; simpa using h3⟩
    cases b with
    | true => exact .cons ⟨Nat.le_refl _, by simp, by simp⟩ ih'
    | false => exact ih'
theorem argE_get : ∀ (bs : List Bool) (ds : List D) (i : Nat), (argsE bs ds)[i]? = ds[i]?.map fun d => some ⟨d, bs[i]?.getD false⟩
  | [], [], _ => by simp [argsE]
  | _ :: _, [], _ => by simp [argsE]
  | [], d :: ds, 0 => by simp [argsE]
  | [], d :: ds, i + 1 => by simp only [argsE, List.getElem?_cons_succ]; rw [argE_get [] ds i]; simp
  | b :: bs, d :: ds, 0 => by simp [argsE]
  | b :: bs, d :: ds, i + 1 => by simp only [argsE, List.getElem?_cons_succ]; rw [argE_get bs ds i]
theorem argE_len (bs : List Bool) (ds : List D) : (argsE bs ds).length = ds.length := by
  induction ds generalizing bs with
  | nil => cases bs <;> rfl
  | cons d ds ih => cases bs <;> simp [argsE, ih]
theorem argR_get : ∀ {bs : List Bool} {vs : List V} {ds : List D}, ArgR nm F H bs vs ds → vs.length = ds.length ∧ ∀ (i : Nat) d, ds[i]? = some d → ∃ v, vs[i]? = some v ∧ ValR nm F H v ⟨d, bs[i]?.getD false⟩
  | [], [], [], _ => ⟨rfl, fun i d h => by simp at h⟩
  | _ :: _, [], [], _ => ⟨rfl, fun i d h => by simp at h⟩
  | [], [], _ :: _, h => h.elim
  | _ :: _, [], _ :: _, h => h.elim
  | [], _ :: _, [], h => h.elim
  | _ :: _, _ :: _, [], h => h.elim
  | [], v :: vs, d :: ds, h => by
    obtain ⟨h1, h2⟩ := argR_get h.2
    refine ⟨by simp [h1], fun i e he => ?_⟩
    cases i with
    | zero => simp at he; subst he; exact ⟨v, rfl, ValR.of_rep h.1⟩
    | succ i =>
      obtain ⟨w, hw, r⟩ := h2 i e (by simpa using he)
      exact ⟨w, by simpa using hw, by simpa using r⟩
  | b :: bs, v :: vs, d :: ds, h => by
    obtain ⟨h1, h2⟩ := argR_get h.2
    refine ⟨by simp [h1], fun i e he => ?_⟩
    cases i with
    | zero => simp at he; subst he; exact ⟨v, rfl, h.1⟩
    | succ i =>
      obtain ⟨w, hw, r⟩ := h2 i e (by simpa using he)
      exact ⟨w, by simpa using hw, by simpa using r⟩
theorem paired_idx {α β : Type} {P : α → β → Prop} : ∀ {xs : List α} {ys : List β}, Paired P xs ys → ∀ {x : α}, x ∈ xs → ∃ (k : Nat) (y : β), xs[k]? = some x ∧ ys[k]? = some y ∧ P x y
  | _, _, .cons (a := a) (b := b) h t, x, hx => by
    rcases List.mem_cons.mp hx with rfl | hx
    · exact ⟨0, b, rfl, rfl, h⟩
    · obtain ⟨k, y, h1, h2, h3⟩ := paired_idx t hx
      exact ⟨k + 1, y, by simpa using h1, by simpa using h2, h3⟩
theorem ioIx_nodup : ∀ (n : Nat) (bs : List Bool), (ioIx n bs).Nodup ∧ ∀ i ∈ ioIx n bs, n ≤ i
  | n, [] => ⟨List.nodup_nil, by simp [ioIx]⟩
  | n, b :: bs => by
    obtain ⟨h1, h2⟩ := ioIx_nodup (n + 1) bs
    unfold ioIx
    split
    · refine ⟨List.nodup_cons.mpr ⟨fun z => ?_, h1⟩, fun i hi => ?_⟩
      · have := h2 n z; omega
      · rcases List.mem_cons.mp hi with rfl | hi
        · exact Nat.le_refl _
        · have := h2 i hi; omega
    · exact ⟨h1, fun i hi => by have := h2 i hi; omega⟩
theorem ioIx_mem : ∀ (n : Nat) (bs : List Bool) (i : Nat), n ≤ i → bs[i - n]? = some true → i ∈ ioIx n bs
  | n, [], i, _, h => by simp at h
  | n, b :: bs, i, hn, h => by
    unfold ioIx
    by_cases e : i = n
    · subst e
      simp at h
      rw [if_pos h]
      exact List.mem_cons_self
    · have e2 : i - n = (i - (n + 1)) + 1 := by omega
      rw [e2] at h
      have := ioIx_mem (n + 1) bs i (by omega) (by simpa using h)
      split
      · exact List.mem_cons_of_mem _ this
      · exact this
theorem ioVs_mem {w : V} : ∀ (bs : List Bool) (vs : List V) (i : Nat), vs[i]? = some w → bs[i]? = some true → w ∈ ioVs bs vs
  | [], _, _, _, h => by simp at h
  | _ :: _, [], _, h, _ => by simp at h
  | b :: bs, v :: vs, 0, h1, h2 => by
    simp at h1 h2
    subst h1 h2
    exact List.mem_cons_self
  | b :: bs, v :: vs, i + 1, h1, h2 => by
    have := ioVs_mem bs vs i (by simpa using h1) (by simpa using h2)
    cases b with
    | true => exact List.mem_cons_of_mem _ this
    | false => exact this
theorem ioVs_pos : ∀ {bs : List Bool} {vs : List V} {i j : Nat} {v : V}, (ioVs bs vs).Nodup → vs[i]? = some v → vs[j]? = some v → bs[i]? = some true → bs[j]? = some true → i = j
  | [], _, _, _, _, _, _, _, h, _ => by simp at h
  | _ :: _, [], _, _, _, _, h, _, _, _ => by simp at h
  | b :: bs, v :: vs, i, j, w, nd, h1, h2, h3, h4 => by
    have mem : ∀ {i : Nat}, vs[i]? = some w → bs[i]? = some true → w ∈ ioVs bs vs := fun {i} => ioVs_mem bs vs i
    cases i with
    | zero =>
      simp at h1 h3
      subst h1 h3
      have nd : (v :: ioVs bs vs).Nodup := nd
      cases j with
      | zero => rfl
      | succ j => exact absurd (mem (by simpa using h2) (by simpa using h4)) (List.nodup_cons.mp nd).1
    | succ i =>
      cases j with
      | zero =>
        simp at h2 h4
        subst h2 h4
        have nd : (v :: ioVs bs vs).Nodup := nd
        exact absurd (mem (by simpa using h1) (by simpa using h3)) (List.nodup_cons.mp nd).1
      | succ j =>
        have nd' : (ioVs bs vs).Nodup := by
          cases b with
          | true => exact (List.nodup_cons.mp (show (v :: ioVs bs vs).Nodup from nd)).2
          | false => exact nd
        have := ioVs_pos nd' (i := i) (j := j) (by simpa using h1) (by simpa using h2) (by simpa using h3) (by simpa using h4)
        omega
end
section
variable {nm : Nm} {Φ Φ' : CT} {fi : DefI} {j : Nat} {N : List Str} {F H : Hp}
/-- the body's reading, out of the def's promise -/
theorem def_read (hcall : ∀ ds, Φ'.call j ds = runDef Φ fi ds) (hio : Φ'.io j = fi.io) (hN : N.length = fi.nsl) {vs : List V} {Q : VK} {E : XK} (h : spD nm Φ' fi.nps j vs H Q E) :
    tSs ⟨nm, Φ, ioIx 0 fi.io, fun cls d _ H => E cls d H⟩ fi.body { nx := fun _ H' => Q .non H', rt := Q } (L2.start N vs) H := by
  obtain ⟨F, ds, hlen, le, args, nd, h⟩ := h
  rw [hcall] at h
  rw [hio] at h args nd
  unfold runDef at h
  by_cases hc : ds.length = fi.nps ∧ fi.nps ≤ fi.nsl ∧ fi.io.length ≤ fi.nps
  case neg => rw [if_neg hc] at h; exact h.elim
  rw [if_pos hc] at h
  obtain ⟨c1, c2, c3⟩ := hc
  obtain ⟨a1, a2⟩ := argR_get args
  generalize he0 : argsE fi.io ds ++ List.replicate (fi.nsl - fi.nps) none = env0 at h
  have slot0 : ∀ i x, slot env0 i = some x → ∃ d, ds[i]? = some d ∧ x = ⟨d, fi.io[i]?.getD false⟩ := fun i x hx => by
    rw [← he0] at hx
    unfold slot at hx
    by_cases hi : i < ds.length
    · rw [List.getElem?_append_left (by rw [argE_len]; exact hi), argE_get, List.getElem?_eq_getElem hi] at hx
      simp only [Option.map_some, Option.some.injEq] at hx
      exact ⟨_, List.getElem?_eq_getElem hi, hx.symm⟩
    · rw [List.getElem?_append_right (by rw [argE_len]; omega), List.getElem?_replicate] at hx
      split at hx <;> rename_i q <;> split at q <;> cases q <;> cases hx
  have start_at : ∀ i v, vs[i]? = some v → (L2.start N vs)[i]? = some (some v) := fun i v hv => by
    unfold L2.start
    have hi := (List.getElem?_eq_some_iff.mp hv).1
    rw [List.getElem?_append_left (by simpa using hi), List.getElem?_map, hv]
    rfl
  have E0 : EnvR nm F H (L2.start N vs) env0 := by
    refine ⟨?_, le, fun i x hx => ?_, fun i k x y a hx hy ox oy h1 h2 => ?_⟩
    · rw [← he0]
      unfold L2.start
      simp only [List.length_append, List.length_map, List.length_replicate, argE_len]
      omega
    · obtain ⟨d, hd, rfl⟩ := slot0 i x hx
      obtain ⟨v, hv, r⟩ := a2 i d hd
      exact ⟨v, start_at i v hv, r⟩
    · obtain ⟨d, hd, rfl⟩ := slot0 i x hx
      obtain ⟨d2, hd2, rfl⟩ := slot0 k y hy
      obtain ⟨v, hv, _⟩ := a2 i d hd
      obtain ⟨v2, hv2, _⟩ := a2 k d2 hd2
      rw [start_at i v hv] at h1
      rw [start_at k v2 hv2] at h2
      cases h1; cases h2
      have b1 : fi.io[i]? = some true := by
        cases q : fi.io[i]? with
        | none => rw [q] at ox; cases ox
        | some b => rw [q] at ox; rw [show b = true from ox]
      have b2 : fi.io[k]? = some true := by
        cases q : fi.io[k]? with
        | none => rw [q] at oy; cases oy
        | some b => rw [q] at oy; rw [show b = true from oy]
      exact ioVs_pos nd hv hv2 b1 b2
  have iop := io_pair 0 fi.io vs (by omega)
  have ow_io : ∀ a, Ow (L2.start N vs) env0 a → ioS fi.io vs a := fun a ⟨i, x, hx, ox, hs⟩ => by
    obtain ⟨d, hd, rfl⟩ := slot0 i x hx
    obtain ⟨v, hv, _⟩ := a2 i d hd
    rw [start_at i v hv] at hs
    cases hs
    have b1 : fi.io[i]? = some true := by
      cases q : fi.io[i]? with
      | none => rw [q] at ox; cases ox
      | some b => rw [q] at ox; rw [show b = true from ox]
    obtain ⟨k, y, h1, h2, h3, h4, _⟩ := paired_idx iop (ioIx_mem 0 fi.io i (Nat.zero_le _) (by simpa using b1))
    rw [Nat.sub_zero, hv] at h4
    cases h4
    exact List.mem_of_getElem? h2
  have io_ow : ∀ a, ioS fi.io vs a → Ow (L2.start N vs) env0 a := fun a ha => by
    obtain ⟨i, hi, _, hv, hb⟩ := paired_mem iop (show V.ref a ∈ ioVs fi.io vs from ha)
    rw [Nat.sub_zero] at hv hb
    have hl : i < ds.length := by rw [← a1]; exact (List.getElem?_eq_some_iff.mp hv).1
    refine ⟨i, ⟨ds[i], true⟩, ?_, rfl, start_at i _ hv⟩
    rw [← he0]
    unfold slot
    rw [List.getElem?_append_left (by rw [argE_len]; exact hl), argE_get, List.getElem?_eq_getElem hl, hb]
    rfl
  have st : ∀ {σ' F' H' e}, Aft ⟨nm, Φ, ioIx 0 fi.io, fun cls d _ H => E cls d H⟩ (L2.start N vs) F H env0 σ' F' H' e → Step (ioS fi.io vs) F H (ioS fi.io vs) F' H' := fun {σ' F' H' e} A =>
    ⟨A.step.sub, fun b hb => (A.step.new b hb).imp id (.imp id (ow_io b)), fun b o hb nb => A.step.keep b o hb fun z => nb (ow_io b z), fun _ h => .inl h, A.step.there⟩
  have outs_ok : ∀ {σ' F' H' e outs}, Aft ⟨nm, Φ, ioIx 0 fi.io, fun cls d _ H => E cls d H⟩ (L2.start N vs) F H env0 σ' F' H' e → outsE e (ioIx 0 fi.io) = some outs → Paired (Own nm F' H') (ioVs fi.io vs) outs := fun {σ' F' H' e outs} A ho => by
    have gen : ∀ (is : List Nat) (ws : List V) (outs : List D), Paired (fun i v => 0 ≤ i ∧ vs[i - 0]? = some v ∧ fi.io[i - 0]? = some true) is ws → (∀ i ∈ is, i ∈ ioIx 0 fi.io) → outsE e is = some outs → Paired (Own nm F' H') ws outs := by
      intro is ws outs p
      induction p generalizing outs with
      | nil => intro _ h; cases h; exact .nil
      | @cons i w is ws q p ih =>
        intro hm h
        unfold outsE at h
        split at h
        · rename_i d hs
          cases h2 : outsE e is with
          | none => rw [h2] at h; cases h
          | some outs2 =>
            rw [h2] at h; cases h
            refine .cons ?_ (ih outs2 (fun i hi => hm i (List.mem_cons_of_mem _ hi)) h2)
            obtain ⟨v, hv, r⟩ := A.er.val i _ hs
            have e1 := A.io i (hm i List.mem_cons_self)
            rw [hv, start_at i w (by simpa using q.2.1)] at e1
            cases e1
            exact r.ownR
        · cases h
    exact gen _ _ _ iop (fun i hi => hi) ho
  refine ⟨F, env0, E0, ?_⟩
  show XRes ⟨nm, Φ, ioIx 0 fi.io, fun cls d _ H => E cls d H⟩ (L2.start N vs) F H env0 (exs Φ (ioIx 0 fi.io) fi.body env0) _
  cases hx : exs Φ (ioIx 0 fi.io) fi.body env0 with
  | nx e =>
    rw [hx] at h
    dsimp only at h
    intro σ' F' H' A
    cases ho : outsE e (ioIx 0 fi.io) with
    | none => rw [ho] at h; exact h.elim
    | some outs =>
      rw [ho] at h
      dsimp only at h
      exact h F' H' .non A.er.le (st A) (ValR.of_rep .non) (fun z => nomatch z) (outs_ok A ho)
  | rt x e =>
    rw [hx] at h
    dsimp only at h
    intro σ' F' H' w A R
    cases ho : outsE e (ioIx 0 fi.io) with
    | none => rw [ho] at h; exact h.elim
    | some outs =>
      rw [ho] at h
      dsimp only at h
      refine h F' H' w A.er.le (st A) R.1 (fun o p ep => ?_) (outs_ok A ho)
      rcases (R.2 o p ep).1 with z | z
      · exact z
      · exfalso
        obtain ⟨i, hi, _, hv, hb⟩ := paired_mem iop (show V.ref p ∈ ioVs fi.io vs from ow_io p z)
        rw [Nat.sub_zero] at hv
        have own_at : ∀ (is : List Nat) (outs : List D), outsE e is = some outs → i ∈ is → ∃ d, slot e i = some ⟨d, true⟩ := by
          intro is
          induction is with
          | nil => intro _ _ h; cases h
          | cons k is ih =>
            intro outs h hm
            unfold outsE at h
            split at h
            · rename_i d hs
              rcases List.mem_cons.mp hm with rfl | hm
              · exact ⟨d, hs⟩
              · cases h2 : outsE e is with
                | none => rw [h2] at h; cases h
                | some o2 => exact ih o2 h2 hm
            · cases h
        obtain ⟨d, hs⟩ := own_at _ outs ho hi
        refine (R.2 o p ep).2 i hi _ hs rfl ?_
        rw [A.io i hi]
        exact start_at i _ hv
  | exc x e =>
    rw [hx] at h
    dsimp only at h
    intro σ' F' H' cls dd A r
    exact h F' H' cls dd A.er.le (st A) r
  | bk e => rw [hx] at h; exact h.elim
  | ct e => rw [hx] at h; exact h.elim
  | stuck => rw [hx] at h; exact h.elim
/-- a def keeps its promise -/
theorem def_ok {P : Program} {w : World} {mg : Str → Option Value} {base : Heap} {k : Nat} {x qual : Str} {params : Arguments} {body : List Stmt} {scope : Scope} {f : Addr} {fd : FuncData} {ps : List Str} (Fd : FunD nm.K x qual params body scope [] [] f fd) (S : FnScope N ps scope)
    (hcall : ∀ ds, Φ'.call j ds = runDef Φ fi ds) (hio : Φ'.io j = fi.io) (hN : N.length = fi.nsl) (hps : ps.length = fi.nps)
    (hbody : ∀ (cdv : Value) (A : Around) (outer : List PySem.Env) (s : Shared) (H : Hp) (E : XK), Room k (A.deeper (envOfC qual scope s.heap.objs.size f cdv)) → Takes (cxOf (L2.CX P w) P w nm.K mg base N qual scope f cdv A outer s H E) (fun cls d _ H => E cls d H) →
      PassesOwn (model P w) (A.deeper (envOfC qual scope s.heap.objs.size f cdv)) (envOfC qual scope s.heap.objs.size f cdv) (cxOf (L2.CX P w) P w nm.K mg base N qual scope f cdv A outer s H E).xe →
      PSs (cxOf (L2.CX P w) P w nm.K mg base N qual scope f cdv A outer s H E) body (tSs ⟨nm, Φ, ioIx 0 fi.io, fun cls d _ H => E cls d H⟩ fi.body)) :
    FnOk P w nm.K mg base (L2.CX P w) (k + 1) f fd ps (spD nm Φ' fi.nps j) :=
  Fd.ok S (fun vs H Q E h => by obtain ⟨_, _, h, _⟩ := h; rw [h, hps]) fun cdv A outer s H vs Q E hr h =>
    ⟨_, hbody cdv A outer s H E hr (takes_of rfl rfl rfl rfl) (passes_of rfl), def_read hcall hio hN h⟩
end
end MT
namespace MT
open PySem PySem.Spec PyProof.Rows L2

/-- a def that may be called by its global name x -/
structure Cal (P : Program) (w : World) (nm : Nm) (mg : Str → Option Value) (base : Heap) (k : Nat) (Φ : CT) (x : Str) (j nps : Nat) : Prop where
  ex : ∃ (f : Addr) (fd : FuncData) (ps : List Str), FnOk P w nm.K mg base (L2.CX P w) k f fd ps (spD nm Φ nps j) ∧ mg x = some (.ref f) ∧ PySem.W.keepIn nm.K (.ref f) = true ∧ Binds nm.K fd ps []
section
variable {X : Cx} {c : Sx} {e a b : Expr} {es : List Expr} {ia ib ic : IE} {as : IEs} {pos : Pos}
theorem s_callC {j k nps : Nat} {x : Str} {p : Pos} (hK : X.K = c.nm.K) (C : Cal X.prog X.w c.nm X.mg X.base k c.Φ x j nps) (hr : Room k X.A) (hg : Gl X x) (tk : Takes X c.W) (hn : as.len = nps) (ha : PA X (e :: es) (tOs c as)) (hl : (x == ("__debug__" : Str)) = false)
    (he : starEach (e :: es) X.env = (false, eval e X.env) :: starEach es X.env) (hpl : (backTo pos (starEach es X.env)).any (·.1) = false) : PE X (.Call (.Name x p) (e :: es) [] pos) (tE c (.call j as)) := by
  obtain ⟨f, fd, ps, F, hm, hk, hb⟩ := C.ex
  rw [← hK] at F hk hb
  exact s_call F hr hg hm hk hb tk hn ha hl he hpl
theorem takes_blk {s : Shared} {H : Hp} {scope : Scope} {cenv : PySem.Env} {fp : List Addr} : Takes (X.blk s H scope cenv fp) (fun _ _ _ _ => False) := by
  intro u s' ⟨_, _, _, _, _, _, _, _, _, _, _, _, _, _, _, _, w⟩
  exact w.elim
theorem s_glob {x : Str} {i : Int} {p : Pos} (hg : Gl X x) (hm : ∃ t, X.mg x = some (.int i t)) (hd : (x == ("__debug__" : Str)) = false) : PE X (.Name x p) (tE c (.cst (.int i))) := by
  obtain ⟨t, hm⟩ := hm
  exact s_cst (v := .int i) (fun F => .int) (pe_glob hg hm ⟨t, rfl⟩ hd)
theorem s_globS {x z : Str} {p : Pos} (hg : Gl X x) (hm : ∃ t, X.mg x = some (.str z t)) (hd : (x == ("__debug__" : Str)) = false) : PE X (.Name x p) (tE c (.cst (.str z))) := by
  obtain ⟨t, hm⟩ := hm
  exact s_cst (v := .str z) (fun F => .str) (pe_glob hg hm ⟨t, rfl⟩ hd)
theorem s_int {i : Int} {j : Nat} : PE X (.Constant (.int i) j pos) (tE c (.cst (.int i))) := s_cst (fun F => .int) pe_int
theorem s_str {i : Str} {j : Nat} : PE X (.Constant (.str i) j pos) (tE c (.cst (.str i))) := s_cst (fun F => .str) pe_str
theorem s_bl {i : Bool} {j : Nat} : PE X (.Constant (.bool i) j pos) (tE c (.cst (.bl i))) := s_cst (fun F => .bl) pe_bl
theorem s_non {j : Nat} : PE X (.Constant .none j pos) (tE c (.cst .non)) := s_cst (fun F => .non) pe_non
end
section
variable {P : Program} {w : World} {nm : Nm} {mg : Str → Option Value} {base : Heap} {Φ : CT}
/-- without fuel: never asked -/
theorem fn_stuck {k j nps : Nat} {f : Addr} {fd : FuncData} {ps : List Str} (h : ∀ ds, Φ.call j ds = .stuck) (hps : ps.length = nps) : FnOk P w nm.K mg base (L2.CX P w) k f fd ps (spD nm Φ nps j) where
  len := fun vs H Q E q => by obtain ⟨_, _, z, _⟩ := q; rw [z, hps]
  run := fun A outer s H args us vs Q E hr he hb hv q => by
    obtain ⟨F, ds, _, _, _, _, z⟩ := q
    rw [h] at z
    exact z.elim
theorem cal_stuck {k j nps : Nat} {x : Str} {f : Addr} {fd : FuncData} {ps : List Str} (h : ∀ ds, Φ.call j ds = .stuck) (hps : ps.length = nps) (hm : mg x = some (.ref f)) (hk : PySem.W.keepIn nm.K (.ref f) = true) (hb : Binds nm.K fd ps []) : Cal P w nm mg base k Φ x j nps :=
  ⟨f, fd, ps, fn_stuck h hps, hm, hk, hb⟩
/-- the law's promise, asked at a script -/
theorem law_sp {j : Nat} {H : Hp} {a : Addr} {ns : List Int} (hio : Φ.io j = []) (hO : Only H) (hS : SqL nm.K H a (ns.map V.int)) (h : Φ.call j [.scr ns] = .ok ⟨.bl true, false⟩ []) : spD nm Φ 1 j [.ref a] H (fun v _ => v = .bl true) (fun _ _ _ => False) := by
  have S : SqS nm.K H a ns := by
    rcases hS with (h | ⟨o, h⟩) | h
    · rcases hO a with z | ⟨o, xs, z⟩
      · rw [z] at h; cases h
      · rw [z] at h; cases h
    · exact .inl ⟨o, h⟩
    · exact .inr fun H => .inr h
  refine ⟨H, [.scr ns], rfl, fun b o e => .inl e, ?_, ?_, ?_⟩
  · rw [hio]; exact ⟨.scr S, True.intro⟩
  · rw [hio]; exact List.nodup_nil
  · rw [h]
    intro F' H' v _ _ r _ _
    exact (ValR.data r).bl
def CXa (P : Program) : CXT := fun outer H s E u s' => ∃ w, L2.CX P w outer H s E u s'
theorem fn_any {k : Nat} {f : Addr} {fd : FuncData} {ps : List Str} {sp : Sp} {K : PySem.W.Frag} (F : FnOk P w K mg base (L2.CX P w) k f fd ps sp) : FnOk P w K mg base (CXa P) k f fd ps sp :=
  ⟨F.len, fun A outer s H args us vs Q E hr he hb hv hs => codeAny_mono (F.run A outer s H args us vs Q E hr he hb hv hs) fun r s' hq => by
    cases r with
    | error e => exact ⟨w, hq⟩
    | ok fl => cases fl <;> exact hq⟩
theorem cxa_none {H : Hp} {s : Shared} {e : Value} {s' : Shared} (h : CXa P [] H s (fun _ _ _ => False) e s') : False := by
  obtain ⟨_, _, _, _, _, _, _, _, _, _, _, _, _, z⟩ := h
  exact z
end
end MT
namespace MT
open PySem

/-- what may come of r: it goes on | returns | breaks | continues -/
inductive Xr.W : Xr → (Env → Prop) → (Val → Env → Prop) → (Env → Prop) → (Env → Prop) → Prop
  | nx {e N Rt B C} : N e → W (.nx e) N Rt B C
  | rt {v e N Rt B C} : Rt v e → W (.rt v e) N Rt B C
  | bk {e N Rt B C} : B e → W (.bk e) N Rt B C
  | ct {e N Rt B C} : C e → W (.ct e) N Rt B C
abbrev nope : Env → Prop := fun _ => False
section
variable {Φ : CT} {io : List Nat} {N N' : Env → Prop} {Rt Rt' : Val → Env → Prop} {B C B' C' : Env → Prop} {e : Env} {s : IS} {ss : ISs} {r : Xr}
theorem W_nx : (Xr.nx e).W N Rt B C ↔ N e := ⟨fun h => by cases h; assumption, .nx⟩
theorem W_rt {v : Val} : (Xr.rt v e).W N Rt B C ↔ Rt v e := ⟨fun h => by cases h; assumption, .rt⟩
theorem W_bk : (Xr.bk e).W N Rt B C ↔ B e := ⟨fun h => by cases h; assumption, .bk⟩
theorem W_ct : (Xr.ct e).W N Rt B C ↔ C e := ⟨fun h => by cases h; assumption, .ct⟩
theorem W_stuck : Xr.stuck.W N Rt B C ↔ False := ⟨fun h => (by cases h), False.elim⟩
theorem W_exc {x : Exc} : (Xr.exc x e).W N Rt B C ↔ False := ⟨fun h => (by cases h), False.elim⟩
theorem Xr.W.imp (h : r.W N Rt B C) (k1 : ∀ e, N e → N' e) (k2 : ∀ v e, Rt v e → Rt' v e) (k3 : ∀ e, B e → B' e) (k4 : ∀ e, C e → C' e) : r.W N' Rt' B' C' := by
  cases h with
  | nx h => exact .nx (k1 _ h)
  | rt h => exact .rt (k2 _ _ h)
  | bk h => exact .bk (k3 _ h)
  | ct h => exact .ct (k4 _ h)
theorem W_cons (h : (ex Φ io s e).W (fun e' => (exs Φ io ss e').W N Rt B C) Rt B C) : (exs Φ io (.cons s ss) e).W N Rt B C := by
  unfold exs
  generalize ex Φ io s e = x at h
  cases h with
  | nx h => exact h
  | rt h => exact .rt h
  | bk h => exact .bk h
  | ct h => exact .ct h
theorem W_nil (h : N e) : (exs Φ io .nil e).W N Rt B C := .nx h
/-- a loop over items; I holds ahead of the i-th turn -/
theorem W_for {t : D → Env → Xr} {items : List D} (I : Nat → Env → Prop) (h0 : I 0 e)
    (step : ∀ i (hi : i < items.length) e, I i e → (t items[i] e).W (I (i + 1)) Rt N (I (i + 1))) (done : ∀ e, I items.length e → N e) : (forL t items e).W N Rt B C := by
  have gen : ∀ (k i : Nat) (e : Env), i + k = items.length → I i e → (forL t (items.drop i) e).W N Rt B C := by
    intro k
    induction k with
    | zero =>
      intro i e hk hI
      rw [List.drop_eq_nil_of_le (by omega)]
      exact .nx (done e (by rw [← hk, Nat.add_zero]; exact hI))
    | succ k ih =>
      intro i e hk hI
      have hi : i < items.length := by omega
      rw [List.drop_eq_getElem_cons hi]
      have hs := step i hi e hI
      unfold forL
      generalize t items[i] e = x at hs
      cases hs with
      | nx h => exact ih (i + 1) _ (by omega) h
      | ct h => exact ih (i + 1) _ (by omega) h
      | bk h => exact .nx h
      | rt h => exact .rt h
  exact gen items.length 0 e (by omega) h0
theorem W_loop {t : IT} {k : ItK} {it : IEs} {body : ISs} {items : List D} {e1 : Env} (h1 : ((evo Φ io it e).bind fun os e => itR k os e) = .ok items e1) (h : (forL (fun d e => match asgT io t d e with
        | some e => exs Φ io body e
        | none => .stuck) items e1).W N Rt B C) : (ex Φ io (.loop t k it body) e).W N Rt B C := by
  show (((evo Φ io it e).bind fun os e => itR k os e).x _).W N Rt B C
  rw [h1]
  exact h
theorem W_while {c : Env → R Val} {t : Env → Xr} (I : Nat → Env → Prop) : ∀ (n m : Nat) (e : Env), m < n → I m e →
    (∀ m e, I m e → ∃ b e1, c e = .ok ⟨.bl b, false⟩ e1 ∧ if b = true then (t e1).W (fun e => ∃ m', m' < m ∧ I m' e) Rt N (fun e => ∃ m', m' < m ∧ I m' e) else N e1) → (whileL c t n e).W N Rt B C
  | 0, _, _, h, _, _ => by omega
  | n + 1, m, e, hm, hI, step => by
    obtain ⟨b, e1, hc, h⟩ := step m e hI
    unfold whileL
    rw [hc]
    cases b with
    | false => rw [if_neg (by decide)] at h; exact .nx h
    | true =>
      rw [if_pos rfl] at h
      show Xr.W (match t e1 with
        | .nx e => whileL c t n e
        | .ct e => whileL c t n e
        | .bk e => .nx e
        | r => r) N Rt B C
      generalize t e1 = x at h
      cases h with
      | nx h => obtain ⟨m', h1, h2⟩ := h; exact W_while I n m' _ (by omega) h2 step
      | ct h => obtain ⟨m', h1, h2⟩ := h; exact W_while I n m' _ (by omega) h2 step
      | bk h => exact .nx h
      | rt h => exact .rt h
/-- a def without changed arguments: what it returns -/
theorem run_of {f : DefI} {ds : List D} {v : Val} (hio : f.io = []) (hl : ds.length = f.nps) (hn : f.nps ≤ f.nsl)
    (h : (exs Φ [] f.body (argsE [] ds ++ List.replicate (f.nsl - f.nps) none)).W (fun _ => v = ⟨.non, false⟩) (fun w _ => w = v) nope nope) : runDef Φ f ds = .ok v [] := by
  unfold runDef
  rw [hio, if_pos ⟨hl, hn, Nat.zero_le _⟩]
  show (match exs Φ [] f.body (argsE [] ds ++ List.replicate (f.nsl - f.nps) none) with
    | .nx e => (match outsE e [] with
      | some outs => CR.ok ⟨.non, false⟩ outs
      | none => .stuck)
    | .rt v e => (match outsE e [] with
      | some outs => .ok v outs
      | none => .stuck)
    | .exc x _ => .exc x
    | _ => .stuck) = _
  generalize exs Φ [] f.body (argsE [] ds ++ List.replicate (f.nsl - f.nps) none) = x at h
  cases h with
  | nx h => subst h; rfl
  | rt h => subst h; rfl
  | bk h => exact h.elim
  | ct h => exact h.elim
/-- what it returns, of some sort -/
theorem run_ex {f : DefI} {ds : List D} {P : Val → Prop} (hio : f.io = []) (hl : ds.length = f.nps) (hn : f.nps ≤ f.nsl)
    (h : (exs Φ [] f.body (argsE [] ds ++ List.replicate (f.nsl - f.nps) none)).W (fun _ => P ⟨.non, false⟩) (fun w _ => P w) nope nope) : ∃ v, P v ∧ runDef Φ f ds = .ok v [] := by
  have key : ∃ v, P v ∧ (exs Φ [] f.body (argsE [] ds ++ List.replicate (f.nsl - f.nps) none)).W (fun _ => v = ⟨.non, false⟩) (fun w _ => w = v) nope nope := by
    generalize exs Φ [] f.body (argsE [] ds ++ List.replicate (f.nsl - f.nps) none) = x at h ⊢
    cases h with
    | nx h => exact ⟨_, h, .nx rfl⟩
    | rt h => exact ⟨_, h, .rt rfl⟩
    | bk h => exact h.elim
    | ct h => exact h.elim
  obtain ⟨v, hv, hw⟩ := key
  exact ⟨v, hv, run_of hio hl hn hw⟩
theorem lcL_go {own : List Nat} {t : D → Env → R (Option D)} (I : Env → Prop) (g : D → Option D) : ∀ (items : List D) (e : Env), I e → (∀ d ∈ items, ∀ e, I e → ∃ e1, t d e = .ok (g d) e1 ∧ I (wipeE e1 own)) → ∃ e', lcL own t items e = .ok (items.filterMap g) e' ∧ I e'
  | [], e, h, _ => ⟨e, rfl, h⟩
  | d :: ds, e, h, k => by
    obtain ⟨e1, h1, h2⟩ := k d List.mem_cons_self e h
    obtain ⟨e2, h3, h4⟩ := lcL_go I g ds _ h2 fun d hd => k d (List.mem_cons_of_mem _ hd)
    refine ⟨e2, ?_, h4⟩
    unfold lcL
    rw [h1]
    show (lcL own t ds (wipeE e1 own)).bind _ = _
    rw [h3]
    cases h5 : g d with
    | none => rw [List.filterMap_cons_none h5]; rfl
    | some y => rw [List.filterMap_cons_some h5]; rfl
/-- one turn -/
def lcT (Φ : CT) (io : List Nat) (tg : IT) (ifs : IEs) (elt : IE) (d : D) (en : Env) : R (Option D) := match asgT io tg d en with
  | some en => (evt Φ io ifs en).bind fun b en => if b = true then (ev Φ io elt en).bind fun v en => .ok (some v.d) en else .ok none en
  | none => .stuck
theorem ev_lc {own : List Nat} {tg : IT} {k : ItK} {it ifs : IEs} {elt : IE} {items : List D} {e1 : Env} (I : Env → Prop) (g : D → Option D) (h1 : ((evo Φ io it e).bind fun os e => itR k os e) = .ok items e1) (h2 : items.length < lineD ∧ ∀ i ∈ own, i ∉ io ∧ i < e1.length)
    (h0 : I (wipeE e1 own)) (step : ∀ d ∈ items, ∀ e, I e → ∃ e2, lcT Φ io tg ifs elt d e = .ok (g d) e2 ∧ I (wipeE e2 own)) : ∃ e', ev Φ io (.lc own tg k it ifs elt) e = .ok ⟨.lst (items.filterMap g), true⟩ (backE e' e1 own) ∧ I e' := by
  obtain ⟨e', h3, h4⟩ := lcL_go (own := own) (t := lcT Φ io tg ifs elt) I g items _ h0 step
  refine ⟨e', ?_, h4⟩
  unfold ev
  rw [h1]
  show (if items.length < lineD ∧ (∀ i ∈ own, i ∉ io ∧ i < e1.length) then (lcL own (lcT Φ io tg ifs elt) items (wipeE e1 own)).bind fun ds e2 => R.ok (⟨.lst ds, true⟩ : Val) (backE e2 e1 own) else .stuck) = _
  rw [if_pos h2, h3]
  rfl
theorem W_retLc {own : List Nat} {tg : IT} {k : ItK} {it ifs : IEs} {elt : IE} {items : List D} {e1 : Env} (I : Env → Prop) (g : D → Option D) (h1 : ((evo Φ io it e).bind fun os e => itR k os e) = .ok items e1) (h2 : items.length < lineD ∧ ∀ i ∈ own, i ∉ io ∧ i < e1.length)
    (h0 : I (wipeE e1 own)) (step : ∀ d ∈ items, ∀ e, I e → ∃ e2, lcT Φ io tg ifs elt d e = .ok (g d) e2 ∧ I (wipeE e2 own)) (hr : ∀ e', I e' → Rt ⟨.lst (items.filterMap g), true⟩ (backE e' e1 own)) : (ex Φ io (.ret (.lc own tg k it ifs elt)) e).W N Rt B C := by
  obtain ⟨e', h3, h4⟩ := ev_lc I g h1 h2 h0 step
  show ((ev Φ io (.lc own tg k it ifs elt) e).x fun v e => .rt v e).W N Rt B C
  rw [h3]
  exact .rt (hr e' h4)
theorem W_asgLc {own : List Nat} {tg : IT} {k : ItK} {it ifs : IEs} {elt : IE} {items : List D} {e1 : Env} {i : Nat} (I : Env → Prop) (g : D → Option D) (h1 : ((evo Φ io it e).bind fun os e => itR k os e) = .ok items e1) (h2 : items.length < lineD ∧ ∀ i ∈ own, i ∉ io ∧ i < e1.length)
    (h0 : I (wipeE e1 own)) (step : ∀ d ∈ items, ∀ e, I e → ∃ e2, lcT Φ io tg ifs elt d e = .ok (g d) e2 ∧ I (wipeE e2 own)) (hr : ∀ e', I e' → (setV io i ⟨.lst (items.filterMap g), true⟩ (backE e' e1 own)).W N Rt B C) : (ex Φ io (.asg (.nm i) (.lc own tg k it ifs elt)) e).W N Rt B C := by
  obtain ⟨e', h3, h4⟩ := ev_lc I g h1 h2 h0 step
  show ((ev Φ io (.lc own tg k it ifs elt) e).x fun v e => setV io i v e).W N Rt B C
  rw [h3]
  exact hr e' h4
/-- range(len(name)) -/
theorem it_rangelen {i : Nat} {xs : List D} {o : Bool} (h : slot e i = some ⟨.lst xs, o⟩) (hx : xs.length < 2 ^ 62) : ((evo Φ io (.cons (.bi .len (.cons (.var i) .nil)) .nil) e).bind fun os e => itR .range1 os e) = .ok (rangeD 0 xs.length) e := by
  have key : ∀ n : Int, (n.toNat = xs.length) → big62 n = true → (∀ m : Nat, m = xs.length → ((m : Nat) : Int) = n) → ((evo Φ io (.cons (.bi .len (.cons (.var i) .nil)) .nil) e).bind fun os e => itR .range1 os e) = .ok (rangeD 0 xs.length) e := by
    intro n h1 h2 h3
    have h4 := h3 xs.length rfl
    simp [evo, mkO, h, ev, R.bind, getsO, Opd.get, biD, lenD, R.opt, h4, itR, itemsD, h2, h1, shares, noSlots]
  refine key (xs.length : Int) (Int.toNat_natCast _) ?_ (fun m h => by rw [h])
  unfold big62
  rw [Bool.and_eq_true]
  exact ⟨decide_eq_true (by omega), decide_eq_true (by omega)⟩
end
end MT
namespace K16
open PySem PySem.Spec PyProof.Rows L2 MT
def top (i : Nat) : Stmt := PySem.Challenge.pw_maybetables_k16_each_filling_of_one_kind.main.body.getD i (.Pass ⟨0, 0, 0, 0⟩)
theorem d_MOST : (("MOST" : Str) == ("__debug__" : Str)) = false := by decide +kernel
theorem e_MOST : (("MOST" : Str) == ("__classdict__" : Str)) = false := by decide +kernel
theorem d__law_alike : (("_law_alike" : Str) == ("__debug__" : Str)) = false := by decide +kernel
theorem e__law_alike : (("_law_alike" : Str) == ("__classdict__" : Str)) = false := by decide +kernel
theorem d__law_at : (("_law_at" : Str) == ("__debug__" : Str)) = false := by decide +kernel
theorem e__law_at : (("_law_at" : Str) == ("__classdict__" : Str)) = false := by decide +kernel
theorem d__law_at_here : (("_law_at_here" : Str) == ("__debug__" : Str)) = false := by decide +kernel
theorem e__law_at_here : (("_law_at_here" : Str) == ("__classdict__" : Str)) = false := by decide +kernel
theorem d__law_back : (("_law_back" : Str) == ("__debug__" : Str)) = false := by decide +kernel
theorem e__law_back : (("_law_back" : Str) == ("__classdict__" : Str)) = false := by decide +kernel
theorem d__law_base : (("_law_base" : Str) == ("__debug__" : Str)) = false := by decide +kernel
theorem e__law_base : (("_law_base" : Str) == ("__classdict__" : Str)) = false := by decide +kernel
theorem d__law_cell : (("_law_cell" : Str) == ("__debug__" : Str)) = false := by decide +kernel
theorem e__law_cell : (("_law_cell" : Str) == ("__classdict__" : Str)) = false := by decide +kernel
theorem d__law_filling : (("_law_filling" : Str) == ("__debug__" : Str)) = false := by decide +kernel
theorem e__law_filling : (("_law_filling" : Str) == ("__classdict__" : Str)) = false := by decide +kernel
theorem d__law_filling_here : (("_law_filling_here" : Str) == ("__debug__" : Str)) = false := by decide +kernel
theorem e__law_filling_here : (("_law_filling_here" : Str) == ("__classdict__" : Str)) = false := by decide +kernel
theorem d__law_first : (("_law_first" : Str) == ("__debug__" : Str)) = false := by decide +kernel
theorem e__law_first : (("_law_first" : Str) == ("__classdict__" : Str)) = false := by decide +kernel
theorem d__law_found : (("_law_found" : Str) == ("__debug__" : Str)) = false := by decide +kernel
theorem e__law_found : (("_law_found" : Str) == ("__classdict__" : Str)) = false := by decide +kernel
theorem d__law_further : (("_law_further" : Str) == ("__debug__" : Str)) = false := by decide +kernel
theorem e__law_further : (("_law_further" : Str) == ("__classdict__" : Str)) = false := by decide +kernel
theorem d__law_gap : (("_law_gap" : Str) == ("__debug__" : Str)) = false := by decide +kernel
theorem e__law_gap : (("_law_gap" : Str) == ("__classdict__" : Str)) = false := by decide +kernel
theorem d__law_gaps : (("_law_gaps" : Str) == ("__debug__" : Str)) = false := by decide +kernel
theorem e__law_gaps : (("_law_gaps" : Str) == ("__classdict__" : Str)) = false := by decide +kernel
theorem d__law_handed : (("_law_handed" : Str) == ("__debug__" : Str)) = false := by decide +kernel
theorem e__law_handed : (("_law_handed" : Str) == ("__classdict__" : Str)) = false := by decide +kernel
theorem d__law_k : (("_law_k" : Str) == ("__debug__" : Str)) = false := by decide +kernel
theorem e__law_k : (("_law_k" : Str) == ("__classdict__" : Str)) = false := by decide +kernel
theorem d__law_letters : (("_law_letters" : Str) == ("__debug__" : Str)) = false := by decide +kernel
theorem e__law_letters : (("_law_letters" : Str) == ("__classdict__" : Str)) = false := by decide +kernel
theorem d__law_names : (("_law_names" : Str) == ("__debug__" : Str)) = false := by decide +kernel
theorem e__law_names : (("_law_names" : Str) == ("__classdict__" : Str)) = false := by decide +kernel
theorem d__law_names_here : (("_law_names_here" : Str) == ("__debug__" : Str)) = false := by decide +kernel
theorem e__law_names_here : (("_law_names_here" : Str) == ("__classdict__" : Str)) = false := by decide +kernel
theorem d__law_number : (("_law_number" : Str) == ("__debug__" : Str)) = false := by decide +kernel
theorem e__law_number : (("_law_number" : Str) == ("__classdict__" : Str)) = false := by decide +kernel
theorem d__law_one : (("_law_one" : Str) == ("__debug__" : Str)) = false := by decide +kernel
theorem e__law_one : (("_law_one" : Str) == ("__classdict__" : Str)) = false := by decide +kernel
theorem d__law_only : (("_law_only" : Str) == ("__debug__" : Str)) = false := by decide +kernel
theorem e__law_only : (("_law_only" : Str) == ("__classdict__" : Str)) = false := by decide +kernel
theorem d__law_other : (("_law_other" : Str) == ("__debug__" : Str)) = false := by decide +kernel
theorem e__law_other : (("_law_other" : Str) == ("__classdict__" : Str)) = false := by decide +kernel
theorem d__law_script : (("_law_script" : Str) == ("__debug__" : Str)) = false := by decide +kernel
theorem e__law_script : (("_law_script" : Str) == ("__classdict__" : Str)) = false := by decide +kernel
theorem d__law_second : (("_law_second" : Str) == ("__debug__" : Str)) = false := by decide +kernel
theorem e__law_second : (("_law_second" : Str) == ("__classdict__" : Str)) = false := by decide +kernel
theorem d__law_sign : (("_law_sign" : Str) == ("__debug__" : Str)) = false := by decide +kernel
theorem e__law_sign : (("_law_sign" : Str) == ("__classdict__" : Str)) = false := by decide +kernel
theorem d__law_start : (("_law_start" : Str) == ("__debug__" : Str)) = false := by decide +kernel
theorem e__law_start : (("_law_start" : Str) == ("__classdict__" : Str)) = false := by decide +kernel
theorem d__law_there : (("_law_there" : Str) == ("__debug__" : Str)) = false := by decide +kernel
theorem e__law_there : (("_law_there" : Str) == ("__classdict__" : Str)) = false := by decide +kernel
theorem d__law_told : (("_law_told" : Str) == ("__debug__" : Str)) = false := by decide +kernel
theorem e__law_told : (("_law_told" : Str) == ("__classdict__" : Str)) = false := by decide +kernel
theorem d__law_value : (("_law_value" : Str) == ("__debug__" : Str)) = false := by decide +kernel
theorem e__law_value : (("_law_value" : Str) == ("__classdict__" : Str)) = false := by decide +kernel
theorem d__law_value_here : (("_law_value_here" : Str) == ("__debug__" : Str)) = false := by decide +kernel
theorem e__law_value_here : (("_law_value_here" : Str) == ("__classdict__" : Str)) = false := by decide +kernel
theorem d__law_values : (("_law_values" : Str) == ("__debug__" : Str)) = false := by decide +kernel
theorem e__law_values : (("_law_values" : Str) == ("__classdict__" : Str)) = false := by decide +kernel
theorem d__law_values_here : (("_law_values_here" : Str) == ("__debug__" : Str)) = false := by decide +kernel
theorem e__law_values_here : (("_law_values_here" : Str) == ("__classdict__" : Str)) = false := by decide +kernel
theorem d_alike : (("alike" : Str) == ("__debug__" : Str)) = false := by decide +kernel
theorem e_alike : (("alike" : Str) == ("__classdict__" : Str)) = false := by decide +kernel
theorem d_bound : (("bound" : Str) == ("__debug__" : Str)) = false := by decide +kernel
theorem e_bound : (("bound" : Str) == ("__classdict__" : Str)) = false := by decide +kernel
theorem d_filling : (("filling" : Str) == ("__debug__" : Str)) = false := by decide +kernel
theorem e_filling : (("filling" : Str) == ("__classdict__" : Str)) = false := by decide +kernel
theorem d_found : (("found" : Str) == ("__debug__" : Str)) = false := by decide +kernel
theorem e_found : (("found" : Str) == ("__classdict__" : Str)) = false := by decide +kernel
theorem d_fresh : (("fresh" : Str) == ("__debug__" : Str)) = false := by decide +kernel
theorem e_fresh : (("fresh" : Str) == ("__classdict__" : Str)) = false := by decide +kernel
theorem d_further : (("further" : Str) == ("__debug__" : Str)) = false := by decide +kernel
theorem e_further : (("further" : Str) == ("__classdict__" : Str)) = false := by decide +kernel
theorem d_gap : (("gap" : Str) == ("__debug__" : Str)) = false := by decide +kernel
theorem e_gap : (("gap" : Str) == ("__classdict__" : Str)) = false := by decide +kernel
theorem d_gaps : (("gaps" : Str) == ("__debug__" : Str)) = false := by decide +kernel
theorem e_gaps : (("gaps" : Str) == ("__classdict__" : Str)) = false := by decide +kernel
theorem d_k : (("k" : Str) == ("__debug__" : Str)) = false := by decide +kernel
theorem e_k : (("k" : Str) == ("__classdict__" : Str)) = false := by decide +kernel
theorem d_kinds : (("kinds" : Str) == ("__debug__" : Str)) = false := by decide +kernel
theorem e_kinds : (("kinds" : Str) == ("__classdict__" : Str)) = false := by decide +kernel
theorem d_longer : (("longer" : Str) == ("__debug__" : Str)) = false := by decide +kernel
theorem e_longer : (("longer" : Str) == ("__classdict__" : Str)) = false := by decide +kernel
theorem d_many : (("many" : Str) == ("__debug__" : Str)) = false := by decide +kernel
theorem e_many : (("many" : Str) == ("__classdict__" : Str)) = false := by decide +kernel
theorem d_more : (("more" : Str) == ("__debug__" : Str)) = false := by decide +kernel
theorem e_more : (("more" : Str) == ("__classdict__" : Str)) = false := by decide +kernel
theorem d_new : (("new" : Str) == ("__debug__" : Str)) = false := by decide +kernel
theorem e_new : (("new" : Str) == ("__classdict__" : Str)) = false := by decide +kernel
theorem d_number : (("number" : Str) == ("__debug__" : Str)) = false := by decide +kernel
theorem e_number : (("number" : Str) == ("__classdict__" : Str)) = false := by decide +kernel
theorem d_old : (("old" : Str) == ("__debug__" : Str)) = false := by decide +kernel
theorem e_old : (("old" : Str) == ("__classdict__" : Str)) = false := by decide +kernel
theorem d_one : (("one" : Str) == ("__debug__" : Str)) = false := by decide +kernel
theorem e_one : (("one" : Str) == ("__classdict__" : Str)) = false := by decide +kernel
theorem d_other : (("other" : Str) == ("__debug__" : Str)) = false := by decide +kernel
theorem e_other : (("other" : Str) == ("__classdict__" : Str)) = false := by decide +kernel
theorem d_told : (("told" : Str) == ("__debug__" : Str)) = false := by decide +kernel
theorem e_told : (("told" : Str) == ("__classdict__" : Str)) = false := by decide +kernel
theorem d_used : (("used" : Str) == ("__debug__" : Str)) = false := by decide +kernel
theorem e_used : (("used" : Str) == ("__classdict__" : Str)) = false := by decide +kernel
theorem d_value : (("value" : Str) == ("__debug__" : Str)) = false := by decide +kernel
theorem e_value : (("value" : Str) == ("__classdict__" : Str)) = false := by decide +kernel
theorem d_values : (("values" : Str) == ("__debug__" : Str)) = false := by decide +kernel
theorem e_values : (("values" : Str) == ("__classdict__" : Str)) = false := by decide +kernel
/-- what the top has left -/
structure GF (P : Program) (w : World) (nm : Nm) (mg : Str → Option Value) (base : Heap) (k : Nat) (Φ : CT) : Prop where
  n_bool : mg "bool" = none
  n_dict : mg "dict" = none
  n_enumerate : mg "enumerate" = none
  n_isinstance : mg "isinstance" = none
  n_len : mg "len" = none
  n_list : mg "list" = none
  n_max : mg "max" = none
  n_range : mg "range" = none
  n_sorted : mg "sorted" = none
  i_MOST : ∃ t, mg "MOST" = some (.int 1000 t)
  c_bound : Cal P w nm mg base k Φ "bound" 0 2
  c_fresh : Cal P w nm mg base k Φ "fresh" 1 2
  c_kinds : Cal P w nm mg base k Φ "kinds" 2 2
  c_alike : Cal P w nm mg base k Φ "alike" 3 4
  c__law_at : Cal P w nm mg base k Φ "_law_at" 4 2
  c__law_names : Cal P w nm mg base k Φ "_law_names" 5 1
  c__law_value : Cal P w nm mg base k Φ "_law_value" 6 1
  c__law_values : Cal P w nm mg base k Φ "_law_values" 7 1
  c__law_filling : Cal P w nm mg base k Φ "_law_filling" 8 5
  c__law_alike : Cal P w nm mg base k Φ "_law_alike" 9 4
  c__law_only : Cal P w nm mg base k Φ "_law_only" 10 4
def ir0 : ISs := (.cons (.asg (.nm 2) (.cst (.int 1)))
  (.cons (.loop (.nm 3) .range1 (.cons (.var 0) .nil) (.cons (.asg (.nm 2) (.bin .Mult (.var 2) (.bin .Add (.bin .Add (.var 1) (.cst (.int 1))) (.var 3))))
  .nil))
  (.cons (.ret (.var 2))
  .nil)))
def fi0 : DefI := ⟨2, 4, [], ir0⟩
abbrev N0 : List Str := ["gaps", "values", "told", "k"]
theorem nd0 : N0.Nodup := by decide +kernel
theorem sc0 : FnScope N0 ["gaps", "values"] (defScope (top 5)) := ⟨rfl, rfl, rfl, by decide +kernel, rfl, by decide +kernel, by decide +kernel⟩
theorem v0_gaps : (defScope (top 5)).names.lookup ("gaps" : Str) = some .local := by decide +kernel
theorem v0_k : (defScope (top 5)).names.lookup ("k" : Str) = some .local := by decide +kernel
theorem v0_told : (defScope (top 5)).names.lookup ("told" : Str) = some .local := by decide +kernel
theorem v0_values : (defScope (top 5)).names.lookup ("values" : Str) = some .local := by decide +kernel
theorem g0_range : (defScope (top 5)).names.lookup ("range" : Str) = some .globalImplicit := by decide +kernel
theorem body0 {P : Program} {w : World} {nm : Nm} {mg : Str → Option Value} {base : Heap} {k : Nat} {Φ : CT} {f : Addr} (G : GF P w nm mg base k Φ) (cdv : Value) (A : Around) (outer : List PySem.Env) (s : Shared) (H : Hp) (E : XK) (hr : Room k (A.deeper (envOfC "bound" (defScope (top 5)) s.heap.objs.size f cdv)))
    (tk : Takes (cxOf (L2.CX P w) P w nm.K mg base N0 "bound" (defScope (top 5)) f cdv A outer s H E) (fun cls d _ H => E cls d H))
    (hp : PassesOwn (model P w) (A.deeper (envOfC "bound" (defScope (top 5)) s.heap.objs.size f cdv)) (envOfC "bound" (defScope (top 5)) s.heap.objs.size f cdv) (cxOf (L2.CX P w) P w nm.K mg base N0 "bound" (defScope (top 5)) f cdv A outer s H E).xe) :
    PSs (cxOf (L2.CX P w) P w nm.K mg base N0 "bound" (defScope (top 5)) f cdv A outer s H E) (defBody (top 5)) (tSs ⟨nm, Φ, ioIx 0 fi0.io, fun cls d _ H => E cls d H⟩ ir0) :=
  (sb_cons (ss_set nd0 rfl (.inl v0_told) s_int rfl (.inl rfl))
  (sb_cons (ss_for hp rfl (si_range1 g0_range G.n_range (s_ocons rfl (s_varO (pv 0 rfl (.inl v0_gaps) d_gaps e_gaps)) s_onil) rfl) (sg_name nd0 rfl (.inl v0_k) (.inl rfl)) (sb_cons (ss_set nd0 rfl (.inl v0_told) (s_bin (s_varO (pv 2 rfl (.inl v0_told) d_told e_told)) (s_opd (fun _ z => nomatch z) (s_bin (s_opd (fun _ z => nomatch z) (s_bin (s_varO (pv 1 rfl (.inl v0_values) d_values e_values)) (s_opd (fun _ z => nomatch z) s_int))) (s_varO (pv 3 rfl (.inl v0_k) d_k e_k))))) rfl (.inl rfl))
  sb_nil) (fun _ => rfl))
  (sb_cons (ss_retV (pv 2 rfl (.inl v0_told) d_told e_told))
  sb_nil)))
def ir1 : ISs := (.cons (.asg (.nm 2) (.lst .nil))
  (.cons (.asg (.nm 3) (.cst (.int 0)))
  (.cons (.whl (.cmp .Lt (.bi .len (.cons (.var 2) .nil)) (.var 1)) (.cons (.ite (.cmp .NotIn (.var 3) (.var 0)) (.cons (.expr (.mu 2 .append (.cons (.var 3) .nil)))
  .nil) .nil)
  (.cons (.aug 3 .Add (.cst (.int 1)))
  .nil)))
  (.cons (.ret (.var 2))
  .nil))))
def fi1 : DefI := ⟨2, 4, [], ir1⟩
abbrev N1 : List Str := ["values", "many", "found", "number"]
theorem nd1 : N1.Nodup := by decide +kernel
theorem sc1 : FnScope N1 ["values", "many"] (defScope (top 6)) := ⟨rfl, rfl, rfl, by decide +kernel, rfl, by decide +kernel, by decide +kernel⟩
theorem v1_found : (defScope (top 6)).names.lookup ("found" : Str) = some .local := by decide +kernel
theorem v1_many : (defScope (top 6)).names.lookup ("many" : Str) = some .local := by decide +kernel
theorem v1_number : (defScope (top 6)).names.lookup ("number" : Str) = some .local := by decide +kernel
theorem v1_values : (defScope (top 6)).names.lookup ("values" : Str) = some .local := by decide +kernel
theorem g1_len : (defScope (top 6)).names.lookup ("len" : Str) = some .globalImplicit := by decide +kernel
theorem body1 {P : Program} {w : World} {nm : Nm} {mg : Str → Option Value} {base : Heap} {k : Nat} {Φ : CT} {f : Addr} (G : GF P w nm mg base k Φ) (cdv : Value) (A : Around) (outer : List PySem.Env) (s : Shared) (H : Hp) (E : XK) (hr : Room k (A.deeper (envOfC "fresh" (defScope (top 6)) s.heap.objs.size f cdv)))
    (tk : Takes (cxOf (L2.CX P w) P w nm.K mg base N1 "fresh" (defScope (top 6)) f cdv A outer s H E) (fun cls d _ H => E cls d H))
    (hp : PassesOwn (model P w) (A.deeper (envOfC "fresh" (defScope (top 6)) s.heap.objs.size f cdv)) (envOfC "fresh" (defScope (top 6)) s.heap.objs.size f cdv) (cxOf (L2.CX P w) P w nm.K mg base N1 "fresh" (defScope (top 6)) f cdv A outer s H E).xe) :
    PSs (cxOf (L2.CX P w) P w nm.K mg base N1 "fresh" (defScope (top 6)) f cdv A outer s H E) (defBody (top 6)) (tSs ⟨nm, Φ, ioIx 0 fi1.io, fun cls d _ H => E cls d H⟩ ir1) :=
  (sb_cons (ss_set nd1 rfl (.inl v1_found) (s_lst s_vnil) rfl (.inl rfl))
  (sb_cons (ss_set nd1 rfl (.inl v1_number) s_int rfl (.inl rfl))
  (sb_cons (ss_while hp (st_cmp hr.units (nomark _) (s_opd (fun _ z => nomatch z) (s_bi .len rfl rfl g1_len G.n_len (s_ocons rfl (s_varO (pv 2 rfl (.inl v1_found) d_found e_found)) s_onil) rfl rfl)) (s_varO (pv 1 rfl (.inl v1_many) d_many e_many))) (sb_cons (ss_if (st_cmp hr.units rfl (s_varO (pv 3 rfl (.inl v1_number) d_number e_number)) (s_varO (pv 0 rfl (.inl v1_values) d_values e_values))) (sb_cons (ss_expr (s_append (pv 2 rfl (.inl v1_found) d_found e_found) (s_vcons rfl (s_var (pv 3 rfl (.inl v1_number) d_number e_number)) s_vnil) rfl rfl rfl rfl rfl rfl) rfl)
  sb_nil) sb_nil)
  (sb_cons (ss_aug (.inl rfl) nd1 rfl (.inl v1_number) s_int (.inl rfl))
  sb_nil)))
  (sb_cons (ss_retV (pv 2 rfl (.inl v1_found) d_found e_found))
  sb_nil))))
def ir2 : ISs := (.cons (.ite (.cmp .Gt (.call 0 (.cons (.bi .len (.cons (.var 0) .nil)) (.cons (.bi .len (.cons (.var 1) .nil)) .nil))) (.cst (.int 1000))) (.cons .never
  .nil) .nil)
  (.cons (.asg (.nm 2) (.bi .sorted (.cons (.var 1) .nil)))
  (.cons (.asg (.nm 3) (.call 1 (.cons (.var 1) (.cons (.bi .len (.cons (.var 0) .nil)) .nil))))
  (.cons (.asg (.nm 4) (.lst (.cons (.tup (.cons (.dct .nil) (.cons (.cst (.int 0)) .nil))) .nil)))
  (.cons (.loop (.nm 5) .seq (.cons (.var 0) .nil) (.cons (.asg (.nm 6) (.lst .nil))
  (.cons (.loop (.tp (.cons (.nm 7) (.cons (.nm 8) .nil))) .seq (.cons (.var 4) .nil) (.cons (.loop (.tp (.cons (.nm 9) (.cons (.nm 10) .nil))) .enum (.cons (.bin .Add (.var 2) (.sl01 (.var 3) (.bin .Add (.var 8) (.cst (.int 1))))) .nil) (.cons (.asg (.nm 11) (.bi .dict (.cons (.var 7) .nil)))
  (.cons (.put 11 (.var 5) (.var 10))
  (.cons (.expr (.mu 6 .append (.cons (.tup (.cons (.var 11) (.cons (.bi .max2 (.cons (.var 8) (.cons (.bin .Sub (.bin .Add (.var 9) (.cst (.int 1))) (.bi .len (.cons (.var 2) .nil))) .nil))) .nil))) .nil)))
  .nil))))
  .nil))
  (.cons (.asg (.nm 4) (.var 6))
  .nil))))
  (.cons (.ret (.lc [7, 8] (.tp (.cons (.nm 7) (.cons (.nm 8) .nil))) .seq (.cons (.var 4) .nil) .nil (.var 7)))
  .nil))))))
def fi2 : DefI := ⟨2, 12, [], ir2⟩
abbrev N2 : List Str := ["gaps", "values", "old", "new", "found", "gap", "longer", "filling", "used", "k", "value", "more"]
theorem nd2 : N2.Nodup := by decide +kernel
theorem sc2 : FnScope N2 ["gaps", "values"] (defScope (top 7)) := ⟨rfl, rfl, rfl, by decide +kernel, rfl, by decide +kernel, by decide +kernel⟩
theorem v2_filling : (defScope (top 7)).names.lookup ("filling" : Str) = some .local := by decide +kernel
theorem v2_found : (defScope (top 7)).names.lookup ("found" : Str) = some .local := by decide +kernel
theorem v2_gap : (defScope (top 7)).names.lookup ("gap" : Str) = some .local := by decide +kernel
theorem v2_gaps : (defScope (top 7)).names.lookup ("gaps" : Str) = some .local := by decide +kernel
theorem v2_k : (defScope (top 7)).names.lookup ("k" : Str) = some .local := by decide +kernel
theorem v2_longer : (defScope (top 7)).names.lookup ("longer" : Str) = some .local := by decide +kernel
theorem v2_more : (defScope (top 7)).names.lookup ("more" : Str) = some .local := by decide +kernel
theorem v2_new : (defScope (top 7)).names.lookup ("new" : Str) = some .local := by decide +kernel
theorem v2_old : (defScope (top 7)).names.lookup ("old" : Str) = some .local := by decide +kernel
theorem v2_used : (defScope (top 7)).names.lookup ("used" : Str) = some .local := by decide +kernel
theorem v2_value : (defScope (top 7)).names.lookup ("value" : Str) = some .local := by decide +kernel
theorem v2_values : (defScope (top 7)).names.lookup ("values" : Str) = some .local := by decide +kernel
theorem g2_MOST : (defScope (top 7)).names.lookup ("MOST" : Str) = some .globalImplicit := by decide +kernel
theorem g2_bound : (defScope (top 7)).names.lookup ("bound" : Str) = some .globalImplicit := by decide +kernel
theorem g2_dict : (defScope (top 7)).names.lookup ("dict" : Str) = some .globalImplicit := by decide +kernel
theorem g2_enumerate : (defScope (top 7)).names.lookup ("enumerate" : Str) = some .globalImplicit := by decide +kernel
theorem g2_fresh : (defScope (top 7)).names.lookup ("fresh" : Str) = some .globalImplicit := by decide +kernel
theorem g2_len : (defScope (top 7)).names.lookup ("len" : Str) = some .globalImplicit := by decide +kernel
theorem g2_max : (defScope (top 7)).names.lookup ("max" : Str) = some .globalImplicit := by decide +kernel
theorem g2_sorted : (defScope (top 7)).names.lookup ("sorted" : Str) = some .globalImplicit := by decide +kernel
theorem body2 {P : Program} {w : World} {nm : Nm} {mg : Str → Option Value} {base : Heap} {k : Nat} {Φ : CT} {f : Addr} (G : GF P w nm mg base k Φ) (cdv : Value) (A : Around) (outer : List PySem.Env) (s : Shared) (H : Hp) (E : XK) (hr : Room k (A.deeper (envOfC "kinds" (defScope (top 7)) s.heap.objs.size f cdv)))
    (tk : Takes (cxOf (L2.CX P w) P w nm.K mg base N2 "kinds" (defScope (top 7)) f cdv A outer s H E) (fun cls d _ H => E cls d H))
    (hp : PassesOwn (model P w) (A.deeper (envOfC "kinds" (defScope (top 7)) s.heap.objs.size f cdv)) (envOfC "kinds" (defScope (top 7)) s.heap.objs.size f cdv) (cxOf (L2.CX P w) P w nm.K mg base N2 "kinds" (defScope (top 7)) f cdv A outer s H E).xe) :
    PSs (cxOf (L2.CX P w) P w nm.K mg base N2 "kinds" (defScope (top 7)) f cdv A outer s H E) (defBody (top 7)) (tSs ⟨nm, Φ, ioIx 0 fi2.io, fun cls d _ H => E cls d H⟩ ir2) :=
  (sb_cons (ss_if (st_cmp hr.units (nomark _) (s_opd (fun _ z => nomatch z) (s_callC rfl G.c_bound hr g2_bound tk rfl (s_ocons rfl (s_opd (fun _ z => nomatch z) (s_bi .len rfl rfl g2_len G.n_len (s_ocons rfl (s_varO (pv 0 rfl (.inl v2_gaps) d_gaps e_gaps)) s_onil) rfl rfl)) (s_ocons rfl (s_opd (fun _ z => nomatch z) (s_bi .len rfl rfl g2_len G.n_len (s_ocons rfl (s_varO (pv 1 rfl (.inl v2_values) d_values e_values)) s_onil) rfl rfl)) s_onil)) d_bound rfl rfl)) (s_opd (fun _ z => nomatch z) (s_glob g2_MOST G.i_MOST d_MOST))) (sb_cons ss_never
  sb_nil) sb_nil)
  (sb_cons (ss_set nd2 rfl (.inl v2_old) (s_bi .sorted rfl rfl g2_sorted G.n_sorted (s_ocons rfl (s_varO (pv 1 rfl (.inl v2_values) d_values e_values)) s_onil) rfl rfl) rfl (.inl rfl))
  (sb_cons (ss_set nd2 rfl (.inl v2_new) (s_callC rfl G.c_fresh hr g2_fresh tk rfl (s_ocons rfl (s_varO (pv 1 rfl (.inl v2_values) d_values e_values)) (s_ocons rfl (s_opd (fun _ z => nomatch z) (s_bi .len rfl rfl g2_len G.n_len (s_ocons rfl (s_varO (pv 0 rfl (.inl v2_gaps) d_gaps e_gaps)) s_onil) rfl rfl)) s_onil)) d_fresh rfl rfl) rfl (.inl rfl))
  (sb_cons (ss_set nd2 rfl (.inl v2_found) (s_lst (s_vcons rfl (s_tup (s_vcons rfl s_dnew (s_vcons rfl s_int s_vnil))) s_vnil)) rfl (.inl rfl))
  (sb_cons (ss_for hp rfl (si_seq rfl (s_varO (pv 0 rfl (.inl v2_gaps) d_gaps e_gaps))) (sg_name nd2 rfl (.inl v2_gap) (.inl rfl)) (sb_cons (ss_set nd2 rfl (.inl v2_longer) (s_lst s_vnil) rfl (.inl rfl))
  (sb_cons (ss_for hp rfl (si_seq rfl (s_varO (pv 4 rfl (.inl v2_found) d_found e_found))) (sg_tup rfl (sgs_cons (sg_name nd2 rfl (.inl v2_filling) (.inl rfl)) (sgs_cons (sg_name nd2 rfl (.inl v2_used) (.inl rfl)) sgs_nil rfl) rfl) rfl rfl (lenT2)) (sb_cons (ss_for hp rfl (si_enum g2_enumerate G.n_enumerate (s_ocons rfl (s_opd (fun _ z => nomatch z) (s_bin (s_varO (pv 2 rfl (.inl v2_old) d_old e_old)) (s_opd (fun _ z => nomatch z) (s_sl01 rfl (s_varO (pv 3 rfl (.inl v2_new) d_new e_new)) (s_bin (s_varO (pv 8 rfl (.inl v2_used) d_used e_used)) (s_opd (fun _ z => nomatch z) s_int)))))) s_onil) rfl) (sg_tup rfl (sgs_cons (sg_name nd2 rfl (.inl v2_k) (.inl rfl)) (sgs_cons (sg_name nd2 rfl (.inl v2_value) (.inl rfl)) sgs_nil rfl) rfl) rfl rfl (lenT2)) (sb_cons (ss_set nd2 rfl (.inl v2_more) (s_bi .dict rfl rfl g2_dict G.n_dict (s_ocons rfl (s_varO (pv 7 rfl (.inl v2_filling) d_filling e_filling)) s_onil) rfl rfl) rfl (.inl rfl))
  (sb_cons (ss_put (hu_of hr) (s_var (pv 10 rfl (.inl v2_value) d_value e_value)) (pv 11 rfl (.inl v2_more) d_more e_more) (s_var (pv 5 rfl (.inl v2_gap) d_gap e_gap)) (fun _ => rfl) rfl rfl rfl)
  (sb_cons (ss_expr (s_append (pv 6 rfl (.inl v2_longer) d_longer e_longer) (s_vcons rfl (s_tup (s_vcons rfl (s_var (pv 11 rfl (.inl v2_more) d_more e_more)) (s_vcons rfl (s_bi .max2 rfl rfl g2_max G.n_max (s_ocons rfl (s_varO (pv 8 rfl (.inl v2_used) d_used e_used)) (s_ocons rfl (s_opd (fun _ z => nomatch z) (s_bin (s_opd (fun _ z => nomatch z) (s_bin (s_varO (pv 9 rfl (.inl v2_k) d_k e_k)) (s_opd (fun _ z => nomatch z) s_int))) (s_opd (fun _ z => nomatch z) (s_bi .len rfl rfl g2_len G.n_len (s_ocons rfl (s_varO (pv 2 rfl (.inl v2_old) d_old e_old)) s_onil) rfl rfl)))) s_onil)) rfl rfl) s_vnil))) s_vnil) rfl rfl rfl rfl rfl rfl) rfl)
  sb_nil))) (fun _ => rfl))
  sb_nil) (fun _ => rfl))
  (sb_cons (ss_set nd2 rfl (.inl v2_found) (s_var (pv 6 rfl (.inl v2_longer) d_longer e_longer)) rfl (.inl rfl))
  sb_nil))) (fun _ => rfl))
  (sb_cons (ss_ret (fun _ z => nomatch z) (s_lc (own := [("filling", 7), ("used", 8)]) rfl nd2 (si_seq rfl (s_varO (pv 4 rfl (.inl v2_found) d_found e_found))) (show blkC N2 (defScope (top 7)) _ _ = true by decide +kernel) (fun _ _ _ _ _ => (sg_tup rfl (sgs_cons (sg_name nd2 rfl (by first | exact .inl rfl | exact .inr rfl) (by first | exact .inl rfl | exact .inr rfl)) (sgs_cons (sg_name nd2 rfl (by first | exact .inl rfl | exact .inr rfl) (by first | exact .inl rfl | exact .inr rfl)) sgs_nil rfl) rfl) rfl rfl (lenT2))) (fun _ _ _ _ _ => sts_nil) (fun _ _ _ _ _ => (s_var (pv 7 rfl (by first | exact .inl rfl | exact .inr (.inl rfl) | exact .inr (.inr rfl)) d_filling e_filling))) (fun _ => rfl) (by decide)))
  sb_nil))))))
def ir3 : ISs := (.cons (.loop (.tp (.cons (.nm 4) (.cons (.nm 5) .nil))) .enum (.cons (.var 0) .nil) (.cons (.loop (.nm 6) .seq (.cons (.var 1) .nil) (.cons (.ite (.cmp .NotEq (.cmp .Eq (.ix (.var 2) (.var 5)) (.var 6)) (.cmp .Eq (.ix (.var 3) (.var 5)) (.var 6))) (.cons (.ret (.cst (.bl false)))
  .nil) .nil)
  .nil))
  (.cons (.loop (.nm 7) .seq (.cons (.sl01 (.var 0) (.var 4)) .nil) (.cons (.ite (.cmp .NotEq (.cmp .Eq (.ix (.var 2) (.var 5)) (.ix (.var 2) (.var 7))) (.cmp .Eq (.ix (.var 3) (.var 5)) (.ix (.var 3) (.var 7)))) (.cons (.ret (.cst (.bl false)))
  .nil) .nil)
  .nil))
  .nil)))
  (.cons (.ret (.cst (.bl true)))
  .nil))
def fi3 : DefI := ⟨4, 8, [], ir3⟩
abbrev N3 : List Str := ["gaps", "values", "one", "other", "k", "gap", "value", "further"]
theorem nd3 : N3.Nodup := by decide +kernel
theorem sc3 : FnScope N3 ["gaps", "values", "one", "other"] (defScope (top 8)) := ⟨rfl, rfl, rfl, by decide +kernel, rfl, by decide +kernel, by decide +kernel⟩
theorem v3_further : (defScope (top 8)).names.lookup ("further" : Str) = some .local := by decide +kernel
theorem v3_gap : (defScope (top 8)).names.lookup ("gap" : Str) = some .local := by decide +kernel
theorem v3_gaps : (defScope (top 8)).names.lookup ("gaps" : Str) = some .local := by decide +kernel
theorem v3_k : (defScope (top 8)).names.lookup ("k" : Str) = some .local := by decide +kernel
theorem v3_one : (defScope (top 8)).names.lookup ("one" : Str) = some .local := by decide +kernel
theorem v3_other : (defScope (top 8)).names.lookup ("other" : Str) = some .local := by decide +kernel
theorem v3_value : (defScope (top 8)).names.lookup ("value" : Str) = some .local := by decide +kernel
theorem v3_values : (defScope (top 8)).names.lookup ("values" : Str) = some .local := by decide +kernel
theorem g3_enumerate : (defScope (top 8)).names.lookup ("enumerate" : Str) = some .globalImplicit := by decide +kernel
theorem body3 {P : Program} {w : World} {nm : Nm} {mg : Str → Option Value} {base : Heap} {k : Nat} {Φ : CT} {f : Addr} (G : GF P w nm mg base k Φ) (cdv : Value) (A : Around) (outer : List PySem.Env) (s : Shared) (H : Hp) (E : XK) (hr : Room k (A.deeper (envOfC "alike" (defScope (top 8)) s.heap.objs.size f cdv)))
    (tk : Takes (cxOf (L2.CX P w) P w nm.K mg base N3 "alike" (defScope (top 8)) f cdv A outer s H E) (fun cls d _ H => E cls d H))
    (hp : PassesOwn (model P w) (A.deeper (envOfC "alike" (defScope (top 8)) s.heap.objs.size f cdv)) (envOfC "alike" (defScope (top 8)) s.heap.objs.size f cdv) (cxOf (L2.CX P w) P w nm.K mg base N3 "alike" (defScope (top 8)) f cdv A outer s H E).xe) :
    PSs (cxOf (L2.CX P w) P w nm.K mg base N3 "alike" (defScope (top 8)) f cdv A outer s H E) (defBody (top 8)) (tSs ⟨nm, Φ, ioIx 0 fi3.io, fun cls d _ H => E cls d H⟩ ir3) :=
  (sb_cons (ss_for hp rfl (si_enum g3_enumerate G.n_enumerate (s_ocons rfl (s_varO (pv 0 rfl (.inl v3_gaps) d_gaps e_gaps)) s_onil) rfl) (sg_tup rfl (sgs_cons (sg_name nd3 rfl (.inl v3_k) (.inl rfl)) (sgs_cons (sg_name nd3 rfl (.inl v3_gap) (.inl rfl)) sgs_nil rfl) rfl) rfl rfl (lenT2)) (sb_cons (ss_for hp rfl (si_seq rfl (s_varO (pv 1 rfl (.inl v3_values) d_values e_values))) (sg_name nd3 rfl (.inl v3_value) (.inl rfl)) (sb_cons (ss_if (st_cmp hr.units (nomark _) (s_opd (fun _ z => nomatch z) (s_cmp hr.units (nomark _) (s_opd (fun _ z => nomatch z) (s_ix rfl hr.units (fun _ _ => rfl) (s_varO (pv 2 rfl (.inl v3_one) d_one e_one)) (s_varO (pv 5 rfl (.inl v3_gap) d_gap e_gap)))) (s_varO (pv 6 rfl (.inl v3_value) d_value e_value)))) (s_opd (fun _ z => nomatch z) (s_cmp hr.units (nomark _) (s_opd (fun _ z => nomatch z) (s_ix rfl hr.units (fun _ _ => rfl) (s_varO (pv 3 rfl (.inl v3_other) d_other e_other)) (s_varO (pv 5 rfl (.inl v3_gap) d_gap e_gap)))) (s_varO (pv 6 rfl (.inl v3_value) d_value e_value))))) (sb_cons (ss_ret (fun _ z => nomatch z) s_bl)
  sb_nil) sb_nil)
  sb_nil) (fun _ => rfl))
  (sb_cons (ss_for hp rfl (si_seq rfl (s_opd (fun _ z => nomatch z) (s_sl01 rfl (s_varO (pv 0 rfl (.inl v3_gaps) d_gaps e_gaps)) (s_var (pv 4 rfl (.inl v3_k) d_k e_k))))) (sg_name nd3 rfl (.inl v3_further) (.inl rfl)) (sb_cons (ss_if (st_cmp hr.units (nomark _) (s_opd (fun _ z => nomatch z) (s_cmp hr.units (nomark _) (s_opd (fun _ z => nomatch z) (s_ix rfl hr.units (fun _ _ => rfl) (s_varO (pv 2 rfl (.inl v3_one) d_one e_one)) (s_varO (pv 5 rfl (.inl v3_gap) d_gap e_gap)))) (s_opd (fun _ z => nomatch z) (s_ix rfl hr.units (fun _ _ => rfl) (s_varO (pv 2 rfl (.inl v3_one) d_one e_one)) (s_varO (pv 7 rfl (.inl v3_further) d_further e_further)))))) (s_opd (fun _ z => nomatch z) (s_cmp hr.units (nomark _) (s_opd (fun _ z => nomatch z) (s_ix rfl hr.units (fun _ _ => rfl) (s_varO (pv 3 rfl (.inl v3_other) d_other e_other)) (s_varO (pv 5 rfl (.inl v3_gap) d_gap e_gap)))) (s_opd (fun _ z => nomatch z) (s_ix rfl hr.units (fun _ _ => rfl) (s_varO (pv 3 rfl (.inl v3_other) d_other e_other)) (s_varO (pv 7 rfl (.inl v3_further) d_further e_further))))))) (sb_cons (ss_ret (fun _ z => nomatch z) s_bl)
  sb_nil) sb_nil)
  sb_nil) (fun _ => rfl))
  sb_nil)) (fun _ => rfl))
  (sb_cons (ss_ret (fun _ z => nomatch z) s_bl)
  sb_nil))
def ir4 : ISs := (.cons (.ret (.ix (.bin .Add (.sl11 (.var 0) (.var 1) (.bin .Add (.var 1) (.cst (.int 1)))) (.lst (.cons (.cst (.int 0)) .nil))) (.cst (.int 0))))
  .nil)
def fi4 : DefI := ⟨2, 2, [], ir4⟩
abbrev N4 : List Str := ["_law_script", "_law_k"]
theorem nd4 : N4.Nodup := by decide +kernel
theorem sc4 : FnScope N4 ["_law_script", "_law_k"] (defScope (top 10)) := ⟨rfl, rfl, rfl, by decide +kernel, rfl, by decide +kernel, by decide +kernel⟩
theorem v4__law_k : (defScope (top 10)).names.lookup ("_law_k" : Str) = some .local := by decide +kernel
theorem v4__law_script : (defScope (top 10)).names.lookup ("_law_script" : Str) = some .local := by decide +kernel
theorem body4 {P : Program} {w : World} {nm : Nm} {mg : Str → Option Value} {base : Heap} {k : Nat} {Φ : CT} {f : Addr} (G : GF P w nm mg base k Φ) (cdv : Value) (A : Around) (outer : List PySem.Env) (s : Shared) (H : Hp) (E : XK) (hr : Room k (A.deeper (envOfC "_law_at" (defScope (top 10)) s.heap.objs.size f cdv)))
    (tk : Takes (cxOf (L2.CX P w) P w nm.K mg base N4 "_law_at" (defScope (top 10)) f cdv A outer s H E) (fun cls d _ H => E cls d H))
    (hp : PassesOwn (model P w) (A.deeper (envOfC "_law_at" (defScope (top 10)) s.heap.objs.size f cdv)) (envOfC "_law_at" (defScope (top 10)) s.heap.objs.size f cdv) (cxOf (L2.CX P w) P w nm.K mg base N4 "_law_at" (defScope (top 10)) f cdv A outer s H E).xe) :
    PSs (cxOf (L2.CX P w) P w nm.K mg base N4 "_law_at" (defScope (top 10)) f cdv A outer s H E) (defBody (top 10)) (tSs ⟨nm, Φ, ioIx 0 fi4.io, fun cls d _ H => E cls d H⟩ ir4) :=
  (sb_cons (ss_ret (fun _ z => nomatch z) (s_ix rfl hr.units (fun _ _ => rfl) (s_opd (fun _ z => nomatch z) (s_bin (s_opd (fun _ z => nomatch z) (s_sl11 rfl (s_varO (pv 0 rfl (.inl v4__law_script) d__law_script e__law_script)) (s_var (pv 1 rfl (.inl v4__law_k) d__law_k e__law_k)) (s_bin (s_varO (pv 1 rfl (.inl v4__law_k) d__law_k e__law_k)) (s_opd (fun _ z => nomatch z) s_int)))) (s_opd (fun _ z => nomatch z) (s_lst (s_vcons rfl s_int s_vnil))))) (s_opd (fun _ z => nomatch z) s_int)))
  sb_nil)
def ir5 : ISs := (.cons (.asg (.nm 1) (.cst (.str "abcdefghijklmnopqrstuvwxyz")))
  (.cons (.asg (.nm 2) (.cst (.str "")))
  (.cons (.loop (.nm 3) .range1 (.cons (.bin .Mod (.var 0) (.cst (.int 7))) .nil) (.cons (.asg (.nm 2) (.bin .Add (.var 2) (.ix (.var 1) (.bin .Mod (.bin .FloorDiv (.var 0) (.bin .Add (.bin .Mult (.cst (.int 26)) (.var 3)) (.cst (.int 1)))) (.cst (.int 26))))))
  .nil))
  (.cons (.asg (.nm 4) (.bin .Mod (.bin .FloorDiv (.var 0) (.cst (.int 14))) (.bin .Add (.bi .len (.cons (.var 2) .nil)) (.cst (.int 1)))))
  (.cons (.asg (.nm 5) (.lst .nil))
  (.cons (.loop (.nm 3) .range1 (.cons (.cst (.int 4)) .nil) (.cons (.asg (.nm 6) (.ix (.var 1) (.bin .Mod (.bin .Add (.bin .FloorDiv (.var 0) (.cst (.int 98))) (.bin .Mult (.cst (.int 5)) (.var 3))) (.cst (.int 26)))))
  (.cons (.asg (.nm 7) (.bin .Add (.bin .Add (.sl01 (.var 2) (.var 4)) (.var 6)) (.sl10 (.var 2) (.var 4))))
  (.cons (.expr (.mu 5 .append (.cons (.ix (.lst (.cons (.var 7) (.cons (.bin .Add (.sl01 (.var 2) (.cst (.int 3))) (.sl10 (.cst (.str "dddd")) (.var 3))) .nil))) (.bin .Mod (.bin .FloorDiv (.var 0) (.cst (.int 7))) (.cst (.int 2)))) .nil)))
  .nil))))
  (.cons (.ret (.var 5))
  .nil)))))))
def fi5 : DefI := ⟨1, 8, [], ir5⟩
abbrev N5 : List Str := ["_law_cell", "_law_letters", "_law_base", "_law_k", "_law_at_here", "_law_names_here", "_law_sign", "_law_one"]
theorem nd5 : N5.Nodup := by decide +kernel
theorem sc5 : FnScope N5 ["_law_cell"] (defScope (top 11)) := ⟨rfl, rfl, rfl, by decide +kernel, rfl, by decide +kernel, by decide +kernel⟩
theorem v5__law_at_here : (defScope (top 11)).names.lookup ("_law_at_here" : Str) = some .local := by decide +kernel
theorem v5__law_base : (defScope (top 11)).names.lookup ("_law_base" : Str) = some .local := by decide +kernel
theorem v5__law_cell : (defScope (top 11)).names.lookup ("_law_cell" : Str) = some .local := by decide +kernel
theorem v5__law_k : (defScope (top 11)).names.lookup ("_law_k" : Str) = some .local := by decide +kernel
theorem v5__law_letters : (defScope (top 11)).names.lookup ("_law_letters" : Str) = some .local := by decide +kernel
theorem v5__law_names_here : (defScope (top 11)).names.lookup ("_law_names_here" : Str) = some .local := by decide +kernel
theorem v5__law_one : (defScope (top 11)).names.lookup ("_law_one" : Str) = some .local := by decide +kernel
theorem v5__law_sign : (defScope (top 11)).names.lookup ("_law_sign" : Str) = some .local := by decide +kernel
theorem g5_len : (defScope (top 11)).names.lookup ("len" : Str) = some .globalImplicit := by decide +kernel
theorem g5_range : (defScope (top 11)).names.lookup ("range" : Str) = some .globalImplicit := by decide +kernel
theorem body5 {P : Program} {w : World} {nm : Nm} {mg : Str → Option Value} {base : Heap} {k : Nat} {Φ : CT} {f : Addr} (G : GF P w nm mg base k Φ) (cdv : Value) (A : Around) (outer : List PySem.Env) (s : Shared) (H : Hp) (E : XK) (hr : Room k (A.deeper (envOfC "_law_names" (defScope (top 11)) s.heap.objs.size f cdv)))
    (tk : Takes (cxOf (L2.CX P w) P w nm.K mg base N5 "_law_names" (defScope (top 11)) f cdv A outer s H E) (fun cls d _ H => E cls d H))
    (hp : PassesOwn (model P w) (A.deeper (envOfC "_law_names" (defScope (top 11)) s.heap.objs.size f cdv)) (envOfC "_law_names" (defScope (top 11)) s.heap.objs.size f cdv) (cxOf (L2.CX P w) P w nm.K mg base N5 "_law_names" (defScope (top 11)) f cdv A outer s H E).xe) :
    PSs (cxOf (L2.CX P w) P w nm.K mg base N5 "_law_names" (defScope (top 11)) f cdv A outer s H E) (defBody (top 11)) (tSs ⟨nm, Φ, ioIx 0 fi5.io, fun cls d _ H => E cls d H⟩ ir5) :=
  (sb_cons (ss_set nd5 rfl (.inl v5__law_letters) s_str rfl (.inl rfl))
  (sb_cons (ss_set nd5 rfl (.inl v5__law_base) s_str rfl (.inl rfl))
  (sb_cons (ss_for hp rfl (si_range1 g5_range G.n_range (s_ocons rfl (s_opd (fun _ z => nomatch z) (s_bin (s_varO (pv 0 rfl (.inl v5__law_cell) d__law_cell e__law_cell)) (s_opd (fun _ z => nomatch z) s_int))) s_onil) rfl) (sg_name nd5 rfl (.inl v5__law_k) (.inl rfl)) (sb_cons (ss_set nd5 rfl (.inl v5__law_base) (s_bin (s_varO (pv 2 rfl (.inl v5__law_base) d__law_base e__law_base)) (s_opd (fun _ z => nomatch z) (s_ix rfl hr.units (fun _ _ => rfl) (s_varO (pv 1 rfl (.inl v5__law_letters) d__law_letters e__law_letters)) (s_opd (fun _ z => nomatch z) (s_bin (s_opd (fun _ z => nomatch z) (s_bin (s_varO (pv 0 rfl (.inl v5__law_cell) d__law_cell e__law_cell)) (s_opd (fun _ z => nomatch z) (s_bin (s_opd (fun _ z => nomatch z) (s_bin (s_opd (fun _ z => nomatch z) s_int) (s_varO (pv 3 rfl (.inl v5__law_k) d__law_k e__law_k)))) (s_opd (fun _ z => nomatch z) s_int))))) (s_opd (fun _ z => nomatch z) s_int)))))) rfl (.inl rfl))
  sb_nil) (fun _ => rfl))
  (sb_cons (ss_set nd5 rfl (.inl v5__law_at_here) (s_bin (s_opd (fun _ z => nomatch z) (s_bin (s_varO (pv 0 rfl (.inl v5__law_cell) d__law_cell e__law_cell)) (s_opd (fun _ z => nomatch z) s_int))) (s_opd (fun _ z => nomatch z) (s_bin (s_opd (fun _ z => nomatch z) (s_bi .len rfl rfl g5_len G.n_len (s_ocons rfl (s_varO (pv 2 rfl (.inl v5__law_base) d__law_base e__law_base)) s_onil) rfl rfl)) (s_opd (fun _ z => nomatch z) s_int)))) rfl (.inl rfl))
  (sb_cons (ss_set nd5 rfl (.inl v5__law_names_here) (s_lst s_vnil) rfl (.inl rfl))
  (sb_cons (ss_for hp rfl (si_range1 g5_range G.n_range (s_ocons rfl (s_opd (fun _ z => nomatch z) s_int) s_onil) rfl) (sg_name nd5 rfl (.inl v5__law_k) (.inl rfl)) (sb_cons (ss_set nd5 rfl (.inl v5__law_sign) (s_ix rfl hr.units (fun _ _ => rfl) (s_varO (pv 1 rfl (.inl v5__law_letters) d__law_letters e__law_letters)) (s_opd (fun _ z => nomatch z) (s_bin (s_opd (fun _ z => nomatch z) (s_bin (s_opd (fun _ z => nomatch z) (s_bin (s_varO (pv 0 rfl (.inl v5__law_cell) d__law_cell e__law_cell)) (s_opd (fun _ z => nomatch z) s_int))) (s_opd (fun _ z => nomatch z) (s_bin (s_opd (fun _ z => nomatch z) s_int) (s_varO (pv 3 rfl (.inl v5__law_k) d__law_k e__law_k)))))) (s_opd (fun _ z => nomatch z) s_int)))) rfl (.inl rfl))
  (sb_cons (ss_set nd5 rfl (.inl v5__law_one) (s_bin (s_opd (fun _ z => nomatch z) (s_bin (s_opd (fun _ z => nomatch z) (s_sl01 rfl (s_varO (pv 2 rfl (.inl v5__law_base) d__law_base e__law_base)) (s_var (pv 4 rfl (.inl v5__law_at_here) d__law_at_here e__law_at_here)))) (s_varO (pv 6 rfl (.inl v5__law_sign) d__law_sign e__law_sign)))) (s_opd (fun _ z => nomatch z) (s_sl10 rfl (s_varO (pv 2 rfl (.inl v5__law_base) d__law_base e__law_base)) (s_var (pv 4 rfl (.inl v5__law_at_here) d__law_at_here e__law_at_here))))) rfl (.inl rfl))
  (sb_cons (ss_expr (s_append (pv 5 rfl (.inl v5__law_names_here) d__law_names_here e__law_names_here) (s_vcons rfl (s_ix rfl hr.units (fun _ _ => rfl) (s_opd (fun _ z => nomatch z) (s_lst (s_vcons rfl (s_var (pv 7 rfl (.inl v5__law_one) d__law_one e__law_one)) (s_vcons rfl (s_bin (s_opd (fun _ z => nomatch z) (s_sl01 rfl (s_varO (pv 2 rfl (.inl v5__law_base) d__law_base e__law_base)) s_int)) (s_opd (fun _ z => nomatch z) (s_sl10 rfl (s_opd (fun _ z => nomatch z) s_str) (s_var (pv 3 rfl (.inl v5__law_k) d__law_k e__law_k))))) s_vnil)))) (s_opd (fun _ z => nomatch z) (s_bin (s_opd (fun _ z => nomatch z) (s_bin (s_varO (pv 0 rfl (.inl v5__law_cell) d__law_cell e__law_cell)) (s_opd (fun _ z => nomatch z) s_int))) (s_opd (fun _ z => nomatch z) s_int)))) s_vnil) rfl rfl rfl rfl rfl rfl) rfl)
  sb_nil))) (fun _ => rfl))
  (sb_cons (ss_retV (pv 5 rfl (.inl v5__law_names_here) d__law_names_here e__law_names_here))
  sb_nil)))))))
def ir6 : ISs := (.cons (.ite (.cmp .Lt (.bin .Mod (.var 0) (.cst (.int 3))) (.cst (.int 2))) (.cons (.ret (.bin .Sub (.bin .Mod (.bin .FloorDiv (.var 0) (.cst (.int 3))) (.cst (.int 10))) (.cst (.int 3))))
  .nil) .nil)
  (.cons (.asg (.nm 1) (.bin .Mod (.bin .FloorDiv (.var 0) (.cst (.int 6))) (.bin .Pow (.cst (.int 10)) (.cst (.int 60)))))
  (.cons (.ite (.cmp .Eq (.bin .Mod (.bin .FloorDiv (.var 0) (.cst (.int 6))) (.cst (.int 5))) (.cst (.int 3))) (.cons (.asg (.nm 1) (.bin .Sub (.bin .Pow (.cst (.int 10)) (.cst (.int 60))) (.cst (.int 1))))
  .nil) .nil)
  (.cons (.ite (.cmp .Eq (.bin .Mod (.bin .FloorDiv (.var 0) (.cst (.int 3))) (.cst (.int 2))) (.cst (.int 1))) (.cons (.ret (.neg (.var 1)))
  .nil) .nil)
  (.cons (.ret (.var 1))
  .nil)))))
def fi6 : DefI := ⟨1, 2, [], ir6⟩
abbrev N6 : List Str := ["_law_cell", "_law_number"]
theorem nd6 : N6.Nodup := by decide +kernel
theorem sc6 : FnScope N6 ["_law_cell"] (defScope (top 12)) := ⟨rfl, rfl, rfl, by decide +kernel, rfl, by decide +kernel, by decide +kernel⟩
theorem v6__law_cell : (defScope (top 12)).names.lookup ("_law_cell" : Str) = some .local := by decide +kernel
theorem v6__law_number : (defScope (top 12)).names.lookup ("_law_number" : Str) = some .local := by decide +kernel
theorem body6 {P : Program} {w : World} {nm : Nm} {mg : Str → Option Value} {base : Heap} {k : Nat} {Φ : CT} {f : Addr} (G : GF P w nm mg base k Φ) (cdv : Value) (A : Around) (outer : List PySem.Env) (s : Shared) (H : Hp) (E : XK) (hr : Room k (A.deeper (envOfC "_law_value" (defScope (top 12)) s.heap.objs.size f cdv)))
    (tk : Takes (cxOf (L2.CX P w) P w nm.K mg base N6 "_law_value" (defScope (top 12)) f cdv A outer s H E) (fun cls d _ H => E cls d H))
    (hp : PassesOwn (model P w) (A.deeper (envOfC "_law_value" (defScope (top 12)) s.heap.objs.size f cdv)) (envOfC "_law_value" (defScope (top 12)) s.heap.objs.size f cdv) (cxOf (L2.CX P w) P w nm.K mg base N6 "_law_value" (defScope (top 12)) f cdv A outer s H E).xe) :
    PSs (cxOf (L2.CX P w) P w nm.K mg base N6 "_law_value" (defScope (top 12)) f cdv A outer s H E) (defBody (top 12)) (tSs ⟨nm, Φ, ioIx 0 fi6.io, fun cls d _ H => E cls d H⟩ ir6) :=
  (sb_cons (ss_if (st_cmp hr.units (nomark _) (s_opd (fun _ z => nomatch z) (s_bin (s_varO (pv 0 rfl (.inl v6__law_cell) d__law_cell e__law_cell)) (s_opd (fun _ z => nomatch z) s_int))) (s_opd (fun _ z => nomatch z) s_int)) (sb_cons (ss_ret (fun _ z => nomatch z) (s_bin (s_opd (fun _ z => nomatch z) (s_bin (s_opd (fun _ z => nomatch z) (s_bin (s_varO (pv 0 rfl (.inl v6__law_cell) d__law_cell e__law_cell)) (s_opd (fun _ z => nomatch z) s_int))) (s_opd (fun _ z => nomatch z) s_int))) (s_opd (fun _ z => nomatch z) s_int)))
  sb_nil) sb_nil)
  (sb_cons (ss_set nd6 rfl (.inl v6__law_number) (s_bin (s_opd (fun _ z => nomatch z) (s_bin (s_varO (pv 0 rfl (.inl v6__law_cell) d__law_cell e__law_cell)) (s_opd (fun _ z => nomatch z) s_int))) (s_opd (fun _ z => nomatch z) (s_bin (s_opd (fun _ z => nomatch z) s_int) (s_opd (fun _ z => nomatch z) s_int)))) rfl (.inl rfl))
  (sb_cons (ss_if (st_cmp hr.units (nomark _) (s_opd (fun _ z => nomatch z) (s_bin (s_opd (fun _ z => nomatch z) (s_bin (s_varO (pv 0 rfl (.inl v6__law_cell) d__law_cell e__law_cell)) (s_opd (fun _ z => nomatch z) s_int))) (s_opd (fun _ z => nomatch z) s_int))) (s_opd (fun _ z => nomatch z) s_int)) (sb_cons (ss_set nd6 rfl (.inl v6__law_number) (s_bin (s_opd (fun _ z => nomatch z) (s_bin (s_opd (fun _ z => nomatch z) s_int) (s_opd (fun _ z => nomatch z) s_int))) (s_opd (fun _ z => nomatch z) s_int)) rfl (.inl rfl))
  sb_nil) sb_nil)
  (sb_cons (ss_if (st_cmp hr.units (nomark _) (s_opd (fun _ z => nomatch z) (s_bin (s_opd (fun _ z => nomatch z) (s_bin (s_varO (pv 0 rfl (.inl v6__law_cell) d__law_cell e__law_cell)) (s_opd (fun _ z => nomatch z) s_int))) (s_opd (fun _ z => nomatch z) s_int))) (s_opd (fun _ z => nomatch z) s_int)) (sb_cons (ss_ret (fun _ z => nomatch z) (s_neg (s_var (pv 1 rfl (.inl v6__law_number) d__law_number e__law_number))))
  sb_nil) sb_nil)
  (sb_cons (ss_retV (pv 1 rfl (.inl v6__law_number) d__law_number e__law_number))
  sb_nil)))))
def ir7 : ISs := (.cons (.asg (.nm 1) (.lst .nil))
  (.cons (.loop (.nm 2) .range1 (.cons (.bin .Mod (.call 4 (.cons (.var 0) (.cons (.cst (.int 2)) .nil))) (.cst (.int 4))) .nil) (.cons (.asg (.nm 3) (.call 6 (.cons (.call 4 (.cons (.var 0) (.cons (.bin .Add (.cst (.int 3)) (.var 2)) .nil))) .nil)))
  (.cons (.ite (.cmp .NotIn (.var 3) (.var 1)) (.cons (.expr (.mu 1 .append (.cons (.var 3) .nil)))
  .nil) .nil)
  .nil)))
  (.cons (.ret (.var 1))
  .nil)))
def fi7 : DefI := ⟨1, 4, [], ir7⟩
abbrev N7 : List Str := ["_law_script", "_law_values_here", "_law_k", "_law_value_here"]
theorem nd7 : N7.Nodup := by decide +kernel
theorem sc7 : FnScope N7 ["_law_script"] (defScope (top 13)) := ⟨rfl, rfl, rfl, by decide +kernel, rfl, by decide +kernel, by decide +kernel⟩
theorem v7__law_k : (defScope (top 13)).names.lookup ("_law_k" : Str) = some .local := by decide +kernel
theorem v7__law_script : (defScope (top 13)).names.lookup ("_law_script" : Str) = some .local := by decide +kernel
theorem v7__law_value_here : (defScope (top 13)).names.lookup ("_law_value_here" : Str) = some .local := by decide +kernel
theorem v7__law_values_here : (defScope (top 13)).names.lookup ("_law_values_here" : Str) = some .local := by decide +kernel
theorem g7__law_at : (defScope (top 13)).names.lookup ("_law_at" : Str) = some .globalImplicit := by decide +kernel
theorem g7__law_value : (defScope (top 13)).names.lookup ("_law_value" : Str) = some .globalImplicit := by decide +kernel
theorem g7_range : (defScope (top 13)).names.lookup ("range" : Str) = some .globalImplicit := by decide +kernel
theorem body7 {P : Program} {w : World} {nm : Nm} {mg : Str → Option Value} {base : Heap} {k : Nat} {Φ : CT} {f : Addr} (G : GF P w nm mg base k Φ) (cdv : Value) (A : Around) (outer : List PySem.Env) (s : Shared) (H : Hp) (E : XK) (hr : Room k (A.deeper (envOfC "_law_values" (defScope (top 13)) s.heap.objs.size f cdv)))
    (tk : Takes (cxOf (L2.CX P w) P w nm.K mg base N7 "_law_values" (defScope (top 13)) f cdv A outer s H E) (fun cls d _ H => E cls d H))
    (hp : PassesOwn (model P w) (A.deeper (envOfC "_law_values" (defScope (top 13)) s.heap.objs.size f cdv)) (envOfC "_law_values" (defScope (top 13)) s.heap.objs.size f cdv) (cxOf (L2.CX P w) P w nm.K mg base N7 "_law_values" (defScope (top 13)) f cdv A outer s H E).xe) :
    PSs (cxOf (L2.CX P w) P w nm.K mg base N7 "_law_values" (defScope (top 13)) f cdv A outer s H E) (defBody (top 13)) (tSs ⟨nm, Φ, ioIx 0 fi7.io, fun cls d _ H => E cls d H⟩ ir7) :=
  (sb_cons (ss_set nd7 rfl (.inl v7__law_values_here) (s_lst s_vnil) rfl (.inl rfl))
  (sb_cons (ss_for hp rfl (si_range1 g7_range G.n_range (s_ocons rfl (s_opd (fun _ z => nomatch z) (s_bin (s_opd (fun _ z => nomatch z) (s_callC rfl G.c__law_at hr g7__law_at tk rfl (s_ocons rfl (s_varO (pv 0 rfl (.inl v7__law_script) d__law_script e__law_script)) (s_ocons rfl (s_opd (fun _ z => nomatch z) s_int) s_onil)) d__law_at rfl rfl)) (s_opd (fun _ z => nomatch z) s_int))) s_onil) rfl) (sg_name nd7 rfl (.inl v7__law_k) (.inl rfl)) (sb_cons (ss_set nd7 rfl (.inl v7__law_value_here) (s_callC rfl G.c__law_value hr g7__law_value tk rfl (s_ocons rfl (s_opd (fun _ z => nomatch z) (s_callC rfl G.c__law_at hr g7__law_at tk rfl (s_ocons rfl (s_varO (pv 0 rfl (.inl v7__law_script) d__law_script e__law_script)) (s_ocons rfl (s_opd (fun _ z => nomatch z) (s_bin (s_opd (fun _ z => nomatch z) s_int) (s_varO (pv 2 rfl (.inl v7__law_k) d__law_k e__law_k)))) s_onil)) d__law_at rfl rfl)) s_onil) d__law_value rfl rfl) rfl (.inl rfl))
  (sb_cons (ss_if (st_cmp hr.units rfl (s_varO (pv 3 rfl (.inl v7__law_value_here) d__law_value_here e__law_value_here)) (s_varO (pv 1 rfl (.inl v7__law_values_here) d__law_values_here e__law_values_here))) (sb_cons (ss_expr (s_append (pv 1 rfl (.inl v7__law_values_here) d__law_values_here e__law_values_here) (s_vcons rfl (s_var (pv 3 rfl (.inl v7__law_value_here) d__law_value_here e__law_value_here)) s_vnil) rfl rfl rfl rfl rfl rfl) rfl)
  sb_nil) sb_nil)
  sb_nil)) (fun _ => rfl))
  (sb_cons (ss_retV (pv 1 rfl (.inl v7__law_values_here) d__law_values_here e__law_values_here))
  sb_nil)))
def ir8 : ISs := (.cons (.asg (.nm 5) (.dct (.cons (.ix (.var 2) (.cst (.int 3))) (.cons (.call 6 (.cons (.call 4 (.cons (.var 0) (.cons (.bin .Add (.var 1) (.cst (.int 3))) .nil))) .nil)) .nil))))
  (.cons (.loop (.nm 6) .range1 (.cons (.bi .len (.cons (.var 3) .nil)) .nil) (.cons (.asg (.nm 7) (.call 4 (.cons (.var 0) (.cons (.bin .Add (.var 1) (.var 6)) .nil))))
  (.cons (.ite (.and (.cmp .Eq (.bin .Mod (.var 7) (.cst (.int 3))) (.cst (.int 0))) (.cmp .NotEq (.var 4) (.lst .nil))) (.cons (.put 5 (.ix (.var 3) (.var 6)) (.ix (.var 4) (.bin .Mod (.bin .FloorDiv (.var 7) (.cst (.int 3))) (.bi .len (.cons (.var 4) .nil)))))
  .nil) (.cons (.ite (.and (.cmp .Eq (.bin .Mod (.var 7) (.cst (.int 3))) (.cst (.int 1))) (.cmp .Gt (.var 6) (.cst (.int 0)))) (.cons (.put 5 (.ix (.var 3) (.var 6)) (.ix (.var 5) (.ix (.var 3) (.bin .Mod (.bin .FloorDiv (.var 7) (.cst (.int 3))) (.var 6)))))
  .nil) (.cons (.put 5 (.ix (.var 3) (.var 6)) (.call 6 (.cons (.bin .FloorDiv (.var 7) (.cst (.int 3))) .nil)))
  .nil))
  .nil))
  .nil)))
  (.cons (.ret (.var 5))
  .nil)))
def fi8 : DefI := ⟨5, 8, [], ir8⟩
abbrev N8 : List Str := ["_law_script", "_law_start", "_law_names_here", "_law_gaps", "_law_values_here", "_law_filling_here", "_law_k", "_law_cell"]
theorem nd8 : N8.Nodup := by decide +kernel
theorem sc8 : FnScope N8 ["_law_script", "_law_start", "_law_names_here", "_law_gaps", "_law_values_here"] (defScope (top 14)) := ⟨rfl, rfl, rfl, by decide +kernel, rfl, by decide +kernel, by decide +kernel⟩
theorem v8__law_cell : (defScope (top 14)).names.lookup ("_law_cell" : Str) = some .local := by decide +kernel
theorem v8__law_filling_here : (defScope (top 14)).names.lookup ("_law_filling_here" : Str) = some .local := by decide +kernel
theorem v8__law_gaps : (defScope (top 14)).names.lookup ("_law_gaps" : Str) = some .local := by decide +kernel
theorem v8__law_k : (defScope (top 14)).names.lookup ("_law_k" : Str) = some .local := by decide +kernel
theorem v8__law_names_here : (defScope (top 14)).names.lookup ("_law_names_here" : Str) = some .local := by decide +kernel
theorem v8__law_script : (defScope (top 14)).names.lookup ("_law_script" : Str) = some .local := by decide +kernel
theorem v8__law_start : (defScope (top 14)).names.lookup ("_law_start" : Str) = some .local := by decide +kernel
theorem v8__law_values_here : (defScope (top 14)).names.lookup ("_law_values_here" : Str) = some .local := by decide +kernel
theorem g8__law_at : (defScope (top 14)).names.lookup ("_law_at" : Str) = some .globalImplicit := by decide +kernel
theorem g8__law_value : (defScope (top 14)).names.lookup ("_law_value" : Str) = some .globalImplicit := by decide +kernel
theorem g8_len : (defScope (top 14)).names.lookup ("len" : Str) = some .globalImplicit := by decide +kernel
theorem g8_range : (defScope (top 14)).names.lookup ("range" : Str) = some .globalImplicit := by decide +kernel
theorem body8 {P : Program} {w : World} {nm : Nm} {mg : Str → Option Value} {base : Heap} {k : Nat} {Φ : CT} {f : Addr} (G : GF P w nm mg base k Φ) (cdv : Value) (A : Around) (outer : List PySem.Env) (s : Shared) (H : Hp) (E : XK) (hr : Room k (A.deeper (envOfC "_law_filling" (defScope (top 14)) s.heap.objs.size f cdv)))
    (tk : Takes (cxOf (L2.CX P w) P w nm.K mg base N8 "_law_filling" (defScope (top 14)) f cdv A outer s H E) (fun cls d _ H => E cls d H))
    (hp : PassesOwn (model P w) (A.deeper (envOfC "_law_filling" (defScope (top 14)) s.heap.objs.size f cdv)) (envOfC "_law_filling" (defScope (top 14)) s.heap.objs.size f cdv) (cxOf (L2.CX P w) P w nm.K mg base N8 "_law_filling" (defScope (top 14)) f cdv A outer s H E).xe) :
    PSs (cxOf (L2.CX P w) P w nm.K mg base N8 "_law_filling" (defScope (top 14)) f cdv A outer s H E) (defBody (top 14)) (tSs ⟨nm, Φ, ioIx 0 fi8.io, fun cls d _ H => E cls d H⟩ ir8) :=
  (sb_cons (ss_set nd8 rfl (.inl v8__law_filling_here) (s_dct (.cons (s_ix rfl hr.units (fun _ _ => rfl) (s_varO (pv 2 rfl (.inl v8__law_names_here) d__law_names_here e__law_names_here)) (s_opd (fun _ z => nomatch z) s_int)) (s_callC rfl G.c__law_value hr g8__law_value tk rfl (s_ocons rfl (s_opd (fun _ z => nomatch z) (s_callC rfl G.c__law_at hr g8__law_at tk rfl (s_ocons rfl (s_varO (pv 0 rfl (.inl v8__law_script) d__law_script e__law_script)) (s_ocons rfl (s_opd (fun _ z => nomatch z) (s_bin (s_varO (pv 1 rfl (.inl v8__law_start) d__law_start e__law_start)) (s_opd (fun _ z => nomatch z) s_int))) s_onil)) d__law_at rfl rfl)) s_onil) d__law_value rfl rfl) .nil) (by simp) (by decide)) rfl (.inl rfl))
  (sb_cons (ss_for hp rfl (si_range1 g8_range G.n_range (s_ocons rfl (s_opd (fun _ z => nomatch z) (s_bi .len rfl rfl g8_len G.n_len (s_ocons rfl (s_varO (pv 3 rfl (.inl v8__law_gaps) d__law_gaps e__law_gaps)) s_onil) rfl rfl)) s_onil) rfl) (sg_name nd8 rfl (.inl v8__law_k) (.inl rfl)) (sb_cons (ss_set nd8 rfl (.inl v8__law_cell) (s_callC rfl G.c__law_at hr g8__law_at tk rfl (s_ocons rfl (s_varO (pv 0 rfl (.inl v8__law_script) d__law_script e__law_script)) (s_ocons rfl (s_opd (fun _ z => nomatch z) (s_bin (s_varO (pv 1 rfl (.inl v8__law_start) d__law_start e__law_start)) (s_varO (pv 6 rfl (.inl v8__law_k) d__law_k e__law_k)))) s_onil)) d__law_at rfl rfl) rfl (.inl rfl))
  (sb_cons (ss_if (PW.pt (st_and (st_cmp hr.units (nomark _) (s_opd (fun _ z => nomatch z) (s_bin (s_varO (pv 7 rfl (.inl v8__law_cell) d__law_cell e__law_cell)) (s_opd (fun _ z => nomatch z) s_int))) (s_opd (fun _ z => nomatch z) s_int)) (pw_and1 (st_cmp hr.units (nomark _) (s_varO (pv 4 rfl (.inl v8__law_values_here) d__law_values_here e__law_values_here)) (s_opd (fun _ z => nomatch z) (s_lst s_vnil)))))) (sb_cons (ss_put (hu_of hr) (s_ix rfl hr.units (fun _ _ => rfl) (s_varO (pv 4 rfl (.inl v8__law_values_here) d__law_values_here e__law_values_here)) (s_opd (fun _ z => nomatch z) (s_bin (s_opd (fun _ z => nomatch z) (s_bin (s_varO (pv 7 rfl (.inl v8__law_cell) d__law_cell e__law_cell)) (s_opd (fun _ z => nomatch z) s_int))) (s_opd (fun _ z => nomatch z) (s_bi .len rfl rfl g8_len G.n_len (s_ocons rfl (s_varO (pv 4 rfl (.inl v8__law_values_here) d__law_values_here e__law_values_here)) s_onil) rfl rfl))))) (pv 5 rfl (.inl v8__law_filling_here) d__law_filling_here e__law_filling_here) (s_ix rfl hr.units (fun _ _ => rfl) (s_varO (pv 3 rfl (.inl v8__law_gaps) d__law_gaps e__law_gaps)) (s_varO (pv 6 rfl (.inl v8__law_k) d__law_k e__law_k))) (fun _ => rfl) rfl rfl rfl)
  sb_nil) (sb_cons (ss_if (PW.pt (st_and (st_cmp hr.units (nomark _) (s_opd (fun _ z => nomatch z) (s_bin (s_varO (pv 7 rfl (.inl v8__law_cell) d__law_cell e__law_cell)) (s_opd (fun _ z => nomatch z) s_int))) (s_opd (fun _ z => nomatch z) s_int)) (pw_and1 (st_cmp hr.units (nomark _) (s_varO (pv 6 rfl (.inl v8__law_k) d__law_k e__law_k)) (s_opd (fun _ z => nomatch z) s_int))))) (sb_cons (ss_put (hu_of hr) (s_ix rfl hr.units (fun _ _ => rfl) (s_varO (pv 5 rfl (.inl v8__law_filling_here) d__law_filling_here e__law_filling_here)) (s_opd (fun _ z => nomatch z) (s_ix rfl hr.units (fun _ _ => rfl) (s_varO (pv 3 rfl (.inl v8__law_gaps) d__law_gaps e__law_gaps)) (s_opd (fun _ z => nomatch z) (s_bin (s_opd (fun _ z => nomatch z) (s_bin (s_varO (pv 7 rfl (.inl v8__law_cell) d__law_cell e__law_cell)) (s_opd (fun _ z => nomatch z) s_int))) (s_varO (pv 6 rfl (.inl v8__law_k) d__law_k e__law_k))))))) (pv 5 rfl (.inl v8__law_filling_here) d__law_filling_here e__law_filling_here) (s_ix rfl hr.units (fun _ _ => rfl) (s_varO (pv 3 rfl (.inl v8__law_gaps) d__law_gaps e__law_gaps)) (s_varO (pv 6 rfl (.inl v8__law_k) d__law_k e__law_k))) (fun _ => rfl) rfl rfl rfl)
  sb_nil) (sb_cons (ss_put (hu_of hr) (s_callC rfl G.c__law_value hr g8__law_value tk rfl (s_ocons rfl (s_opd (fun _ z => nomatch z) (s_bin (s_varO (pv 7 rfl (.inl v8__law_cell) d__law_cell e__law_cell)) (s_opd (fun _ z => nomatch z) s_int))) s_onil) d__law_value rfl rfl) (pv 5 rfl (.inl v8__law_filling_here) d__law_filling_here e__law_filling_here) (s_ix rfl hr.units (fun _ _ => rfl) (s_varO (pv 3 rfl (.inl v8__law_gaps) d__law_gaps e__law_gaps)) (s_varO (pv 6 rfl (.inl v8__law_k) d__law_k e__law_k))) (fun _ => rfl) rfl rfl rfl)
  sb_nil))
  sb_nil))
  sb_nil)) (fun _ => rfl))
  (sb_cons (ss_retV (pv 5 rfl (.inl v8__law_filling_here) d__law_filling_here e__law_filling_here))
  sb_nil)))
def ir9 : ISs := (.cons (.loop (.nm 4) .seq (.cons (.var 0) .nil) (.cons (.loop (.nm 5) .seq (.cons (.var 1) .nil) (.cons (.ite (.cmp .NotEq (.cmp .Eq (.ix (.var 2) (.var 4)) (.var 5)) (.cmp .Eq (.ix (.var 3) (.var 4)) (.var 5))) (.cons (.ret (.cst (.bl false)))
  .nil) .nil)
  .nil))
  (.cons (.loop (.nm 6) .seq (.cons (.var 0) .nil) (.cons (.ite (.cmp .NotEq (.cmp .Eq (.ix (.var 2) (.var 4)) (.ix (.var 2) (.var 6))) (.cmp .Eq (.ix (.var 3) (.var 4)) (.ix (.var 3) (.var 6)))) (.cons (.ret (.cst (.bl false)))
  .nil) .nil)
  .nil))
  .nil)))
  (.cons (.ret (.cst (.bl true)))
  .nil))
def fi9 : DefI := ⟨4, 7, [], ir9⟩
abbrev N9 : List Str := ["_law_gaps", "_law_values_here", "_law_one", "_law_other", "_law_gap", "_law_value_here", "_law_further"]
theorem nd9 : N9.Nodup := by decide +kernel
theorem sc9 : FnScope N9 ["_law_gaps", "_law_values_here", "_law_one", "_law_other"] (defScope (top 15)) := ⟨rfl, rfl, rfl, by decide +kernel, rfl, by decide +kernel, by decide +kernel⟩
theorem v9__law_further : (defScope (top 15)).names.lookup ("_law_further" : Str) = some .local := by decide +kernel
theorem v9__law_gap : (defScope (top 15)).names.lookup ("_law_gap" : Str) = some .local := by decide +kernel
theorem v9__law_gaps : (defScope (top 15)).names.lookup ("_law_gaps" : Str) = some .local := by decide +kernel
theorem v9__law_one : (defScope (top 15)).names.lookup ("_law_one" : Str) = some .local := by decide +kernel
theorem v9__law_other : (defScope (top 15)).names.lookup ("_law_other" : Str) = some .local := by decide +kernel
theorem v9__law_value_here : (defScope (top 15)).names.lookup ("_law_value_here" : Str) = some .local := by decide +kernel
theorem v9__law_values_here : (defScope (top 15)).names.lookup ("_law_values_here" : Str) = some .local := by decide +kernel
theorem body9 {P : Program} {w : World} {nm : Nm} {mg : Str → Option Value} {base : Heap} {k : Nat} {Φ : CT} {f : Addr} (G : GF P w nm mg base k Φ) (cdv : Value) (A : Around) (outer : List PySem.Env) (s : Shared) (H : Hp) (E : XK) (hr : Room k (A.deeper (envOfC "_law_alike" (defScope (top 15)) s.heap.objs.size f cdv)))
    (tk : Takes (cxOf (L2.CX P w) P w nm.K mg base N9 "_law_alike" (defScope (top 15)) f cdv A outer s H E) (fun cls d _ H => E cls d H))
    (hp : PassesOwn (model P w) (A.deeper (envOfC "_law_alike" (defScope (top 15)) s.heap.objs.size f cdv)) (envOfC "_law_alike" (defScope (top 15)) s.heap.objs.size f cdv) (cxOf (L2.CX P w) P w nm.K mg base N9 "_law_alike" (defScope (top 15)) f cdv A outer s H E).xe) :
    PSs (cxOf (L2.CX P w) P w nm.K mg base N9 "_law_alike" (defScope (top 15)) f cdv A outer s H E) (defBody (top 15)) (tSs ⟨nm, Φ, ioIx 0 fi9.io, fun cls d _ H => E cls d H⟩ ir9) :=
  (sb_cons (ss_for hp rfl (si_seq rfl (s_varO (pv 0 rfl (.inl v9__law_gaps) d__law_gaps e__law_gaps))) (sg_name nd9 rfl (.inl v9__law_gap) (.inl rfl)) (sb_cons (ss_for hp rfl (si_seq rfl (s_varO (pv 1 rfl (.inl v9__law_values_here) d__law_values_here e__law_values_here))) (sg_name nd9 rfl (.inl v9__law_value_here) (.inl rfl)) (sb_cons (ss_if (st_cmp hr.units (nomark _) (s_opd (fun _ z => nomatch z) (s_cmp hr.units (nomark _) (s_opd (fun _ z => nomatch z) (s_ix rfl hr.units (fun _ _ => rfl) (s_varO (pv 2 rfl (.inl v9__law_one) d__law_one e__law_one)) (s_varO (pv 4 rfl (.inl v9__law_gap) d__law_gap e__law_gap)))) (s_varO (pv 5 rfl (.inl v9__law_value_here) d__law_value_here e__law_value_here)))) (s_opd (fun _ z => nomatch z) (s_cmp hr.units (nomark _) (s_opd (fun _ z => nomatch z) (s_ix rfl hr.units (fun _ _ => rfl) (s_varO (pv 3 rfl (.inl v9__law_other) d__law_other e__law_other)) (s_varO (pv 4 rfl (.inl v9__law_gap) d__law_gap e__law_gap)))) (s_varO (pv 5 rfl (.inl v9__law_value_here) d__law_value_here e__law_value_here))))) (sb_cons (ss_ret (fun _ z => nomatch z) s_bl)
  sb_nil) sb_nil)
  sb_nil) (fun _ => rfl))
  (sb_cons (ss_for hp rfl (si_seq rfl (s_varO (pv 0 rfl (.inl v9__law_gaps) d__law_gaps e__law_gaps))) (sg_name nd9 rfl (.inl v9__law_further) (.inl rfl)) (sb_cons (ss_if (st_cmp hr.units (nomark _) (s_opd (fun _ z => nomatch z) (s_cmp hr.units (nomark _) (s_opd (fun _ z => nomatch z) (s_ix rfl hr.units (fun _ _ => rfl) (s_varO (pv 2 rfl (.inl v9__law_one) d__law_one e__law_one)) (s_varO (pv 4 rfl (.inl v9__law_gap) d__law_gap e__law_gap)))) (s_opd (fun _ z => nomatch z) (s_ix rfl hr.units (fun _ _ => rfl) (s_varO (pv 2 rfl (.inl v9__law_one) d__law_one e__law_one)) (s_varO (pv 6 rfl (.inl v9__law_further) d__law_further e__law_further)))))) (s_opd (fun _ z => nomatch z) (s_cmp hr.units (nomark _) (s_opd (fun _ z => nomatch z) (s_ix rfl hr.units (fun _ _ => rfl) (s_varO (pv 3 rfl (.inl v9__law_other) d__law_other e__law_other)) (s_varO (pv 4 rfl (.inl v9__law_gap) d__law_gap e__law_gap)))) (s_opd (fun _ z => nomatch z) (s_ix rfl hr.units (fun _ _ => rfl) (s_varO (pv 3 rfl (.inl v9__law_other) d__law_other e__law_other)) (s_varO (pv 6 rfl (.inl v9__law_further) d__law_further e__law_further))))))) (sb_cons (ss_ret (fun _ z => nomatch z) s_bl)
  sb_nil) sb_nil)
  sb_nil) (fun _ => rfl))
  sb_nil)) (fun _ => rfl))
  (sb_cons (ss_ret (fun _ z => nomatch z) s_bl)
  sb_nil))
def ir10 : ISs := (.cons (.asg (.nm 4) (.lst .nil))
  (.cons (.loop (.nm 5) .range1 (.cons (.bi .len (.cons (.var 2) .nil)) .nil) (.cons (.asg (.nm 6) (.lst (.cons (.bi .list (.cons (.var 0) .nil)) (.cons (.bi .list (.cons (.var 1) .nil)) (.cons (.bi .dict (.cons (.ix (.var 2) (.var 5)) .nil)) (.cons (.bi .dict (.cons (.var 3) .nil)) .nil))))))
  (.cons (.asg (.nm 7) (.call 3 (.cons (.ix (.var 6) (.cst (.int 0))) (.cons (.ix (.var 6) (.cst (.int 1))) (.cons (.ix (.var 6) (.cst (.int 2))) (.cons (.ix (.var 6) (.cst (.int 3))) .nil))))))
  (.cons (.ite (.cmp .NotEq (.var 6) (.lst (.cons (.var 0) (.cons (.var 1) (.cons (.ix (.var 2) (.var 5)) (.cons (.var 3) .nil)))))) (.cons (.ret (.neg (.cst (.int 1))))
  .nil) .nil)
  (.cons (.asg (.nm 8) (.call 3 (.cons (.bi .list (.cons (.var 0) .nil)) (.cons (.bi .list (.cons (.var 1) .nil)) (.cons (.bi .dict (.cons (.var 3) .nil)) (.cons (.bi .dict (.cons (.ix (.var 2) (.var 5)) .nil)) .nil))))))
  (.cons (.ite (.or (.not (.isi (.var 7) [.bool])) (.cmp .NotEq (.var 7) (.var 8))) (.cons (.ret (.neg (.cst (.int 1))))
  .nil) .nil)
  (.cons (.ite (.cmp .NotEq (.var 7) (.call 9 (.cons (.var 0) (.cons (.var 1) (.cons (.ix (.var 2) (.var 5)) (.cons (.var 3) .nil)))))) (.cons (.ret (.neg (.cst (.int 1))))
  .nil) .nil)
  (.cons (.ite (.var 7) (.cons (.expr (.mu 4 .append (.cons (.var 5) .nil)))
  .nil) .nil)
  .nil))))))))
  (.cons (.ite (.cmp .NotEq (.bi .len (.cons (.var 4) .nil)) (.cst (.int 1))) (.cons (.ret (.neg (.cst (.int 1))))
  .nil) .nil)
  (.cons (.ite (.cmp .IsNot (.call 3 (.cons (.bi .list (.cons (.var 0) .nil)) (.cons (.bi .list (.cons (.var 1) .nil)) (.cons (.bi .dict (.cons (.var 3) .nil)) (.cons (.bi .dict (.cons (.var 3) .nil)) .nil))))) (.cst (.bl true))) (.cons (.ret (.neg (.cst (.int 1))))
  .nil) .nil)
  (.cons (.ret (.ix (.var 4) (.cst (.int 0))))
  .nil)))))
def fi10 : DefI := ⟨4, 9, [], ir10⟩
abbrev N10 : List Str := ["_law_gaps", "_law_values_here", "_law_told", "_law_filling_here", "_law_found", "_law_k", "_law_handed", "_law_there", "_law_back"]
theorem nd10 : N10.Nodup := by decide +kernel
theorem sc10 : FnScope N10 ["_law_gaps", "_law_values_here", "_law_told", "_law_filling_here"] (defScope (top 16)) := ⟨rfl, rfl, rfl, by decide +kernel, rfl, by decide +kernel, by decide +kernel⟩
theorem v10__law_back : (defScope (top 16)).names.lookup ("_law_back" : Str) = some .local := by decide +kernel
theorem v10__law_filling_here : (defScope (top 16)).names.lookup ("_law_filling_here" : Str) = some .local := by decide +kernel
theorem v10__law_found : (defScope (top 16)).names.lookup ("_law_found" : Str) = some .local := by decide +kernel
theorem v10__law_gaps : (defScope (top 16)).names.lookup ("_law_gaps" : Str) = some .local := by decide +kernel
theorem v10__law_handed : (defScope (top 16)).names.lookup ("_law_handed" : Str) = some .local := by decide +kernel
theorem v10__law_k : (defScope (top 16)).names.lookup ("_law_k" : Str) = some .local := by decide +kernel
theorem v10__law_there : (defScope (top 16)).names.lookup ("_law_there" : Str) = some .local := by decide +kernel
theorem v10__law_told : (defScope (top 16)).names.lookup ("_law_told" : Str) = some .local := by decide +kernel
theorem v10__law_values_here : (defScope (top 16)).names.lookup ("_law_values_here" : Str) = some .local := by decide +kernel
theorem g10__law_alike : (defScope (top 16)).names.lookup ("_law_alike" : Str) = some .globalImplicit := by decide +kernel
theorem g10_alike : (defScope (top 16)).names.lookup ("alike" : Str) = some .globalImplicit := by decide +kernel
theorem g10_bool : (defScope (top 16)).names.lookup ("bool" : Str) = some .globalImplicit := by decide +kernel
theorem g10_dict : (defScope (top 16)).names.lookup ("dict" : Str) = some .globalImplicit := by decide +kernel
theorem g10_isinstance : (defScope (top 16)).names.lookup ("isinstance" : Str) = some .globalImplicit := by decide +kernel
theorem g10_len : (defScope (top 16)).names.lookup ("len" : Str) = some .globalImplicit := by decide +kernel
theorem g10_list : (defScope (top 16)).names.lookup ("list" : Str) = some .globalImplicit := by decide +kernel
theorem g10_range : (defScope (top 16)).names.lookup ("range" : Str) = some .globalImplicit := by decide +kernel
theorem body10 {P : Program} {w : World} {nm : Nm} {mg : Str → Option Value} {base : Heap} {k : Nat} {Φ : CT} {f : Addr} (G : GF P w nm mg base k Φ) (cdv : Value) (A : Around) (outer : List PySem.Env) (s : Shared) (H : Hp) (E : XK) (hr : Room k (A.deeper (envOfC "_law_only" (defScope (top 16)) s.heap.objs.size f cdv)))
    (tk : Takes (cxOf (L2.CX P w) P w nm.K mg base N10 "_law_only" (defScope (top 16)) f cdv A outer s H E) (fun cls d _ H => E cls d H))
    (hp : PassesOwn (model P w) (A.deeper (envOfC "_law_only" (defScope (top 16)) s.heap.objs.size f cdv)) (envOfC "_law_only" (defScope (top 16)) s.heap.objs.size f cdv) (cxOf (L2.CX P w) P w nm.K mg base N10 "_law_only" (defScope (top 16)) f cdv A outer s H E).xe) :
    PSs (cxOf (L2.CX P w) P w nm.K mg base N10 "_law_only" (defScope (top 16)) f cdv A outer s H E) (defBody (top 16)) (tSs ⟨nm, Φ, ioIx 0 fi10.io, fun cls d _ H => E cls d H⟩ ir10) :=
  (sb_cons (ss_set nd10 rfl (.inl v10__law_found) (s_lst s_vnil) rfl (.inl rfl))
  (sb_cons (ss_for hp rfl (si_range1 g10_range G.n_range (s_ocons rfl (s_opd (fun _ z => nomatch z) (s_bi .len rfl rfl g10_len G.n_len (s_ocons rfl (s_varO (pv 2 rfl (.inl v10__law_told) d__law_told e__law_told)) s_onil) rfl rfl)) s_onil) rfl) (sg_name nd10 rfl (.inl v10__law_k) (.inl rfl)) (sb_cons (ss_set nd10 rfl (.inl v10__law_handed) (s_lst (s_vcons rfl (s_bi .list rfl rfl g10_list G.n_list (s_ocons rfl (s_varO (pv 0 rfl (.inl v10__law_gaps) d__law_gaps e__law_gaps)) s_onil) rfl rfl) (s_vcons rfl (s_bi .list rfl rfl g10_list G.n_list (s_ocons rfl (s_varO (pv 1 rfl (.inl v10__law_values_here) d__law_values_here e__law_values_here)) s_onil) rfl rfl) (s_vcons rfl (s_bi .dict rfl rfl g10_dict G.n_dict (s_ocons rfl (s_opd (fun _ z => nomatch z) (s_ix rfl hr.units (fun _ _ => rfl) (s_varO (pv 2 rfl (.inl v10__law_told) d__law_told e__law_told)) (s_varO (pv 5 rfl (.inl v10__law_k) d__law_k e__law_k)))) s_onil) rfl rfl) (s_vcons rfl (s_bi .dict rfl rfl g10_dict G.n_dict (s_ocons rfl (s_varO (pv 3 rfl (.inl v10__law_filling_here) d__law_filling_here e__law_filling_here)) s_onil) rfl rfl) s_vnil))))) rfl (.inl rfl))
  (sb_cons (ss_set nd10 rfl (.inl v10__law_there) (s_callC rfl G.c_alike hr g10_alike tk rfl (s_ocons rfl (s_opd (fun _ z => nomatch z) (s_ix rfl hr.units (fun _ _ => rfl) (s_varO (pv 6 rfl (.inl v10__law_handed) d__law_handed e__law_handed)) (s_opd (fun _ z => nomatch z) s_int))) (s_ocons rfl (s_opd (fun _ z => nomatch z) (s_ix rfl hr.units (fun _ _ => rfl) (s_varO (pv 6 rfl (.inl v10__law_handed) d__law_handed e__law_handed)) (s_opd (fun _ z => nomatch z) s_int))) (s_ocons rfl (s_opd (fun _ z => nomatch z) (s_ix rfl hr.units (fun _ _ => rfl) (s_varO (pv 6 rfl (.inl v10__law_handed) d__law_handed e__law_handed)) (s_opd (fun _ z => nomatch z) s_int))) (s_ocons rfl (s_opd (fun _ z => nomatch z) (s_ix rfl hr.units (fun _ _ => rfl) (s_varO (pv 6 rfl (.inl v10__law_handed) d__law_handed e__law_handed)) (s_opd (fun _ z => nomatch z) s_int))) s_onil)))) d_alike rfl rfl) rfl (.inl rfl))
  (sb_cons (ss_if (st_cmp hr.units (nomark _) (s_varO (pv 6 rfl (.inl v10__law_handed) d__law_handed e__law_handed)) (s_opd (fun _ z => nomatch z) (s_lst (s_vcons rfl (s_var (pv 0 rfl (.inl v10__law_gaps) d__law_gaps e__law_gaps)) (s_vcons rfl (s_var (pv 1 rfl (.inl v10__law_values_here) d__law_values_here e__law_values_here)) (s_vcons rfl (s_ix rfl hr.units (fun _ _ => rfl) (s_varO (pv 2 rfl (.inl v10__law_told) d__law_told e__law_told)) (s_varO (pv 5 rfl (.inl v10__law_k) d__law_k e__law_k))) (s_vcons rfl (s_var (pv 3 rfl (.inl v10__law_filling_here) d__law_filling_here e__law_filling_here)) s_vnil))))))) (sb_cons (ss_ret (fun _ z => nomatch z) (s_neg s_int))
  sb_nil) sb_nil)
  (sb_cons (ss_set nd10 rfl (.inl v10__law_back) (s_callC rfl G.c_alike hr g10_alike tk rfl (s_ocons rfl (s_opd (fun _ z => nomatch z) (s_bi .list rfl rfl g10_list G.n_list (s_ocons rfl (s_varO (pv 0 rfl (.inl v10__law_gaps) d__law_gaps e__law_gaps)) s_onil) rfl rfl)) (s_ocons rfl (s_opd (fun _ z => nomatch z) (s_bi .list rfl rfl g10_list G.n_list (s_ocons rfl (s_varO (pv 1 rfl (.inl v10__law_values_here) d__law_values_here e__law_values_here)) s_onil) rfl rfl)) (s_ocons rfl (s_opd (fun _ z => nomatch z) (s_bi .dict rfl rfl g10_dict G.n_dict (s_ocons rfl (s_varO (pv 3 rfl (.inl v10__law_filling_here) d__law_filling_here e__law_filling_here)) s_onil) rfl rfl)) (s_ocons rfl (s_opd (fun _ z => nomatch z) (s_bi .dict rfl rfl g10_dict G.n_dict (s_ocons rfl (s_opd (fun _ z => nomatch z) (s_ix rfl hr.units (fun _ _ => rfl) (s_varO (pv 2 rfl (.inl v10__law_told) d__law_told e__law_told)) (s_varO (pv 5 rfl (.inl v10__law_k) d__law_k e__law_k)))) s_onil) rfl rfl)) s_onil)))) d_alike rfl rfl) rfl (.inl rfl))
  (sb_cons (ss_if (PW.pt (st_or (st_not (st_val (fun _ => rfl) (s_isi (t := .bool) rfl g10_isinstance G.n_isinstance g10_bool G.n_bool (s_varO (pv 7 rfl (.inl v10__law_there) d__law_there e__law_there)) rfl rfl rfl))) (pw_or1 (st_cmp hr.units (nomark _) (s_varO (pv 7 rfl (.inl v10__law_there) d__law_there e__law_there)) (s_varO (pv 8 rfl (.inl v10__law_back) d__law_back e__law_back)))))) (sb_cons (ss_ret (fun _ z => nomatch z) (s_neg s_int))
  sb_nil) sb_nil)
  (sb_cons (ss_if (st_cmp hr.units (nomark _) (s_varO (pv 7 rfl (.inl v10__law_there) d__law_there e__law_there)) (s_opd (fun _ z => nomatch z) (s_callC rfl G.c__law_alike hr g10__law_alike tk rfl (s_ocons rfl (s_varO (pv 0 rfl (.inl v10__law_gaps) d__law_gaps e__law_gaps)) (s_ocons rfl (s_varO (pv 1 rfl (.inl v10__law_values_here) d__law_values_here e__law_values_here)) (s_ocons rfl (s_opd (fun _ z => nomatch z) (s_ix rfl hr.units (fun _ _ => rfl) (s_varO (pv 2 rfl (.inl v10__law_told) d__law_told e__law_told)) (s_varO (pv 5 rfl (.inl v10__law_k) d__law_k e__law_k)))) (s_ocons rfl (s_varO (pv 3 rfl (.inl v10__law_filling_here) d__law_filling_here e__law_filling_here)) s_onil)))) d__law_alike rfl rfl))) (sb_cons (ss_ret (fun _ z => nomatch z) (s_neg s_int))
  sb_nil) sb_nil)
  (sb_cons (ss_if (st_val (fun _ => rfl) (s_var (pv 7 rfl (.inl v10__law_there) d__law_there e__law_there))) (sb_cons (ss_expr (s_append (pv 4 rfl (.inl v10__law_found) d__law_found e__law_found) (s_vcons rfl (s_var (pv 5 rfl (.inl v10__law_k) d__law_k e__law_k)) s_vnil) rfl rfl rfl rfl rfl rfl) rfl)
  sb_nil) sb_nil)
  sb_nil))))))) (fun _ => rfl))
  (sb_cons (ss_if (st_cmp hr.units (nomark _) (s_opd (fun _ z => nomatch z) (s_bi .len rfl rfl g10_len G.n_len (s_ocons rfl (s_varO (pv 4 rfl (.inl v10__law_found) d__law_found e__law_found)) s_onil) rfl rfl)) (s_opd (fun _ z => nomatch z) s_int)) (sb_cons (ss_ret (fun _ z => nomatch z) (s_neg s_int))
  sb_nil) sb_nil)
  (sb_cons (ss_if (st_cmp hr.units (nomark _) (s_opd (fun _ z => nomatch z) (s_callC rfl G.c_alike hr g10_alike tk rfl (s_ocons rfl (s_opd (fun _ z => nomatch z) (s_bi .list rfl rfl g10_list G.n_list (s_ocons rfl (s_varO (pv 0 rfl (.inl v10__law_gaps) d__law_gaps e__law_gaps)) s_onil) rfl rfl)) (s_ocons rfl (s_opd (fun _ z => nomatch z) (s_bi .list rfl rfl g10_list G.n_list (s_ocons rfl (s_varO (pv 1 rfl (.inl v10__law_values_here) d__law_values_here e__law_values_here)) s_onil) rfl rfl)) (s_ocons rfl (s_opd (fun _ z => nomatch z) (s_bi .dict rfl rfl g10_dict G.n_dict (s_ocons rfl (s_varO (pv 3 rfl (.inl v10__law_filling_here) d__law_filling_here e__law_filling_here)) s_onil) rfl rfl)) (s_ocons rfl (s_opd (fun _ z => nomatch z) (s_bi .dict rfl rfl g10_dict G.n_dict (s_ocons rfl (s_varO (pv 3 rfl (.inl v10__law_filling_here) d__law_filling_here e__law_filling_here)) s_onil) rfl rfl)) s_onil)))) d_alike rfl rfl)) (s_opd (fun _ z => nomatch z) s_bl)) (sb_cons (ss_ret (fun _ z => nomatch z) (s_neg s_int))
  sb_nil) sb_nil)
  (sb_cons (ss_ret (fun _ z => nomatch z) (s_ix rfl hr.units (fun _ _ => rfl) (s_varO (pv 4 rfl (.inl v10__law_found) d__law_found e__law_found)) (s_opd (fun _ z => nomatch z) s_int)))
  sb_nil)))))
def ir11 : ISs := (.cons (.asg (.nm 1) (.call 5 (.cons (.call 4 (.cons (.var 0) (.cons (.cst (.int 0)) .nil))) .nil)))
  (.cons (.asg (.nm 2) (.sl01 (.var 1) (.bin .Mod (.call 4 (.cons (.var 0) (.cons (.cst (.int 1)) .nil))) (.cst (.int 4)))))
  (.cons (.asg (.nm 3) (.call 7 (.cons (.var 0) .nil)))
  (.cons (.asg (.nm 4) (.call 2 (.cons (.bi .list (.cons (.var 2) .nil)) (.cons (.bi .list (.cons (.var 3) .nil)) .nil))))
  (.cons (.asg (.nm 5) (.call 8 (.cons (.var 0) (.cons (.cst (.int 6)) (.cons (.var 1) (.cons (.var 2) (.cons (.var 3) .nil)))))))
  (.cons (.asg (.nm 6) (.call 8 (.cons (.var 0) (.cons (.cst (.int 10)) (.cons (.var 1) (.cons (.var 2) (.cons (.var 3) .nil)))))))
  (.cons (.asg (.nm 7) (.call 10 (.cons (.var 2) (.cons (.var 3) (.cons (.var 4) (.cons (.var 5) .nil))))))
  (.cons (.asg (.nm 8) (.call 10 (.cons (.var 2) (.cons (.var 3) (.cons (.var 4) (.cons (.var 6) .nil))))))
  (.cons (.ite (.or (.cmp .Lt (.var 7) (.cst (.int 0))) (.cmp .Lt (.var 8) (.cst (.int 0)))) (.cons (.ret (.cst (.bl false)))
  .nil) .nil)
  (.cons (.asg (.nm 9) (.call 3 (.cons (.bi .list (.cons (.var 2) .nil)) (.cons (.bi .list (.cons (.var 3) .nil)) (.cons (.var 5) (.cons (.var 6) .nil))))))
  (.cons (.ret (.and (.isi (.var 9) [.bool]) (.cmp .Eq (.var 9) (.cmp .Eq (.var 7) (.var 8)))))
  .nil)))))))))))
def fi11 : DefI := ⟨1, 10, [], ir11⟩
abbrev N11 : List Str := ["_law_script", "_law_names_here", "_law_gaps", "_law_values_here", "_law_told", "_law_one", "_law_other", "_law_first", "_law_second", "_law_found"]
theorem nd11 : N11.Nodup := by decide +kernel
theorem sc11 : FnScope N11 ["_law_script"] (defScope (top 17)) := ⟨rfl, rfl, rfl, by decide +kernel, rfl, by decide +kernel, by decide +kernel⟩
theorem v11__law_first : (defScope (top 17)).names.lookup ("_law_first" : Str) = some .local := by decide +kernel
theorem v11__law_found : (defScope (top 17)).names.lookup ("_law_found" : Str) = some .local := by decide +kernel
theorem v11__law_gaps : (defScope (top 17)).names.lookup ("_law_gaps" : Str) = some .local := by decide +kernel
theorem v11__law_names_here : (defScope (top 17)).names.lookup ("_law_names_here" : Str) = some .local := by decide +kernel
theorem v11__law_one : (defScope (top 17)).names.lookup ("_law_one" : Str) = some .local := by decide +kernel
theorem v11__law_other : (defScope (top 17)).names.lookup ("_law_other" : Str) = some .local := by decide +kernel
theorem v11__law_script : (defScope (top 17)).names.lookup ("_law_script" : Str) = some .local := by decide +kernel
theorem v11__law_second : (defScope (top 17)).names.lookup ("_law_second" : Str) = some .local := by decide +kernel
theorem v11__law_told : (defScope (top 17)).names.lookup ("_law_told" : Str) = some .local := by decide +kernel
theorem v11__law_values_here : (defScope (top 17)).names.lookup ("_law_values_here" : Str) = some .local := by decide +kernel
theorem g11__law_at : (defScope (top 17)).names.lookup ("_law_at" : Str) = some .globalImplicit := by decide +kernel
theorem g11__law_filling : (defScope (top 17)).names.lookup ("_law_filling" : Str) = some .globalImplicit := by decide +kernel
theorem g11__law_names : (defScope (top 17)).names.lookup ("_law_names" : Str) = some .globalImplicit := by decide +kernel
theorem g11__law_only : (defScope (top 17)).names.lookup ("_law_only" : Str) = some .globalImplicit := by decide +kernel
theorem g11__law_values : (defScope (top 17)).names.lookup ("_law_values" : Str) = some .globalImplicit := by decide +kernel
theorem g11_alike : (defScope (top 17)).names.lookup ("alike" : Str) = some .globalImplicit := by decide +kernel
theorem g11_bool : (defScope (top 17)).names.lookup ("bool" : Str) = some .globalImplicit := by decide +kernel
theorem g11_isinstance : (defScope (top 17)).names.lookup ("isinstance" : Str) = some .globalImplicit := by decide +kernel
theorem g11_kinds : (defScope (top 17)).names.lookup ("kinds" : Str) = some .globalImplicit := by decide +kernel
theorem g11_list : (defScope (top 17)).names.lookup ("list" : Str) = some .globalImplicit := by decide +kernel
theorem body11 {P : Program} {w : World} {nm : Nm} {mg : Str → Option Value} {base : Heap} {k : Nat} {Φ : CT} {f : Addr} (G : GF P w nm mg base k Φ) (cdv : Value) (A : Around) (outer : List PySem.Env) (s : Shared) (H : Hp) (E : XK) (hr : Room k (A.deeper (envOfC "law" (defScope (top 17)) s.heap.objs.size f cdv)))
    (tk : Takes (cxOf (L2.CX P w) P w nm.K mg base N11 "law" (defScope (top 17)) f cdv A outer s H E) (fun cls d _ H => E cls d H))
    (hp : PassesOwn (model P w) (A.deeper (envOfC "law" (defScope (top 17)) s.heap.objs.size f cdv)) (envOfC "law" (defScope (top 17)) s.heap.objs.size f cdv) (cxOf (L2.CX P w) P w nm.K mg base N11 "law" (defScope (top 17)) f cdv A outer s H E).xe) :
    PSs (cxOf (L2.CX P w) P w nm.K mg base N11 "law" (defScope (top 17)) f cdv A outer s H E) (defBody (top 17)) (tSs ⟨nm, Φ, ioIx 0 fi11.io, fun cls d _ H => E cls d H⟩ ir11) :=
  (sb_cons (ss_set nd11 rfl (.inl v11__law_names_here) (s_callC rfl G.c__law_names hr g11__law_names tk rfl (s_ocons rfl (s_opd (fun _ z => nomatch z) (s_callC rfl G.c__law_at hr g11__law_at tk rfl (s_ocons rfl (s_varO (pv 0 rfl (.inl v11__law_script) d__law_script e__law_script)) (s_ocons rfl (s_opd (fun _ z => nomatch z) s_int) s_onil)) d__law_at rfl rfl)) s_onil) d__law_names rfl rfl) rfl (.inl rfl))
  (sb_cons (ss_set nd11 rfl (.inl v11__law_gaps) (s_sl01 rfl (s_varO (pv 1 rfl (.inl v11__law_names_here) d__law_names_here e__law_names_here)) (s_bin (s_opd (fun _ z => nomatch z) (s_callC rfl G.c__law_at hr g11__law_at tk rfl (s_ocons rfl (s_varO (pv 0 rfl (.inl v11__law_script) d__law_script e__law_script)) (s_ocons rfl (s_opd (fun _ z => nomatch z) s_int) s_onil)) d__law_at rfl rfl)) (s_opd (fun _ z => nomatch z) s_int))) rfl (.inl rfl))
  (sb_cons (ss_set nd11 rfl (.inl v11__law_values_here) (s_callC rfl G.c__law_values hr g11__law_values tk rfl (s_ocons rfl (s_varO (pv 0 rfl (.inl v11__law_script) d__law_script e__law_script)) s_onil) d__law_values rfl rfl) rfl (.inl rfl))
  (sb_cons (ss_set nd11 rfl (.inl v11__law_told) (s_callC rfl G.c_kinds hr g11_kinds tk rfl (s_ocons rfl (s_opd (fun _ z => nomatch z) (s_bi .list rfl rfl g11_list G.n_list (s_ocons rfl (s_varO (pv 2 rfl (.inl v11__law_gaps) d__law_gaps e__law_gaps)) s_onil) rfl rfl)) (s_ocons rfl (s_opd (fun _ z => nomatch z) (s_bi .list rfl rfl g11_list G.n_list (s_ocons rfl (s_varO (pv 3 rfl (.inl v11__law_values_here) d__law_values_here e__law_values_here)) s_onil) rfl rfl)) s_onil)) d_kinds rfl rfl) rfl (.inl rfl))
  (sb_cons (ss_set nd11 rfl (.inl v11__law_one) (s_callC rfl G.c__law_filling hr g11__law_filling tk rfl (s_ocons rfl (s_varO (pv 0 rfl (.inl v11__law_script) d__law_script e__law_script)) (s_ocons rfl (s_opd (fun _ z => nomatch z) s_int) (s_ocons rfl (s_varO (pv 1 rfl (.inl v11__law_names_here) d__law_names_here e__law_names_here)) (s_ocons rfl (s_varO (pv 2 rfl (.inl v11__law_gaps) d__law_gaps e__law_gaps)) (s_ocons rfl (s_varO (pv 3 rfl (.inl v11__law_values_here) d__law_values_here e__law_values_here)) s_onil))))) d__law_filling rfl rfl) rfl (.inl rfl))
  (sb_cons (ss_set nd11 rfl (.inl v11__law_other) (s_callC rfl G.c__law_filling hr g11__law_filling tk rfl (s_ocons rfl (s_varO (pv 0 rfl (.inl v11__law_script) d__law_script e__law_script)) (s_ocons rfl (s_opd (fun _ z => nomatch z) s_int) (s_ocons rfl (s_varO (pv 1 rfl (.inl v11__law_names_here) d__law_names_here e__law_names_here)) (s_ocons rfl (s_varO (pv 2 rfl (.inl v11__law_gaps) d__law_gaps e__law_gaps)) (s_ocons rfl (s_varO (pv 3 rfl (.inl v11__law_values_here) d__law_values_here e__law_values_here)) s_onil))))) d__law_filling rfl rfl) rfl (.inl rfl))
  (sb_cons (ss_set nd11 rfl (.inl v11__law_first) (s_callC rfl G.c__law_only hr g11__law_only tk rfl (s_ocons rfl (s_varO (pv 2 rfl (.inl v11__law_gaps) d__law_gaps e__law_gaps)) (s_ocons rfl (s_varO (pv 3 rfl (.inl v11__law_values_here) d__law_values_here e__law_values_here)) (s_ocons rfl (s_varO (pv 4 rfl (.inl v11__law_told) d__law_told e__law_told)) (s_ocons rfl (s_varO (pv 5 rfl (.inl v11__law_one) d__law_one e__law_one)) s_onil)))) d__law_only rfl rfl) rfl (.inl rfl))
  (sb_cons (ss_set nd11 rfl (.inl v11__law_second) (s_callC rfl G.c__law_only hr g11__law_only tk rfl (s_ocons rfl (s_varO (pv 2 rfl (.inl v11__law_gaps) d__law_gaps e__law_gaps)) (s_ocons rfl (s_varO (pv 3 rfl (.inl v11__law_values_here) d__law_values_here e__law_values_here)) (s_ocons rfl (s_varO (pv 4 rfl (.inl v11__law_told) d__law_told e__law_told)) (s_ocons rfl (s_varO (pv 6 rfl (.inl v11__law_other) d__law_other e__law_other)) s_onil)))) d__law_only rfl rfl) rfl (.inl rfl))
  (sb_cons (ss_if (PW.pt (st_or (st_cmp hr.units (nomark _) (s_varO (pv 7 rfl (.inl v11__law_first) d__law_first e__law_first)) (s_opd (fun _ z => nomatch z) s_int)) (pw_or1 (st_cmp hr.units (nomark _) (s_varO (pv 8 rfl (.inl v11__law_second) d__law_second e__law_second)) (s_opd (fun _ z => nomatch z) s_int))))) (sb_cons (ss_ret (fun _ z => nomatch z) s_bl)
  sb_nil) sb_nil)
  (sb_cons (ss_set nd11 rfl (.inl v11__law_found) (s_callC rfl G.c_alike hr g11_alike tk rfl (s_ocons rfl (s_opd (fun _ z => nomatch z) (s_bi .list rfl rfl g11_list G.n_list (s_ocons rfl (s_varO (pv 2 rfl (.inl v11__law_gaps) d__law_gaps e__law_gaps)) s_onil) rfl rfl)) (s_ocons rfl (s_opd (fun _ z => nomatch z) (s_bi .list rfl rfl g11_list G.n_list (s_ocons rfl (s_varO (pv 3 rfl (.inl v11__law_values_here) d__law_values_here e__law_values_here)) s_onil) rfl rfl)) (s_ocons rfl (s_varO (pv 5 rfl (.inl v11__law_one) d__law_one e__law_one)) (s_ocons rfl (s_varO (pv 6 rfl (.inl v11__law_other) d__law_other e__law_other)) s_onil)))) d_alike rfl rfl) rfl (.inl rfl))
  (sb_cons (ss_ret (fun _ z => nomatch z) (s_and (s_isi (t := .bool) rfl g11_isinstance G.n_isinstance g11_bool G.n_bool (s_varO (pv 9 rfl (.inl v11__law_found) d__law_found e__law_found)) rfl rfl rfl) (pe_one (s_cmp hr.units (nomark _) (s_varO (pv 9 rfl (.inl v11__law_found) d__law_found e__law_found)) (s_opd (fun _ z => nomatch z) (s_cmp hr.units (nomark _) (s_varO (pv 7 rfl (.inl v11__law_first) d__law_first e__law_first)) (s_varO (pv 8 rfl (.inl v11__law_second) d__law_second e__law_second))))))))
  sb_nil)))))))))))
def pg : Pg := ⟨[fi0, fi1, fi2, fi3, fi4, fi5, fi6, fi7, fi8, fi9, fi10, fi11], fun _ _ => none, fun _ => none, fun _ _ => false⟩
end K16
namespace K16
open PySem MT
/-- (v + 1) * (v + 2) * .. -/
def bnd (v : Int) : Nat → Int
  | 0 => 1
  | k + 1 => bnd v k * (v + 1 + k)
theorem small_of {i : Int} (h0 : 0 ≤ i) (h : i < 2 ^ 64) : smallI i = true := by
  unfold smallI
  rw [Bool.and_eq_true]
  exact ⟨decide_eq_true (by omega), decide_eq_true h⟩
theorem big_of {i : Int} (h0 : 0 ≤ i) (h : i < 2 ^ 62) : big62 i = true := by
  unfold big62
  rw [Bool.and_eq_true]
  exact ⟨decide_eq_true (by omega), decide_eq_true h⟩
theorem range_len (lo : Int) (n : Nat) : (rangeD lo n).length = n := by simp [rangeD]
theorem range_get (lo : Int) (n i : Nat) (h : i < (rangeD lo n).length) : (rangeD lo n)[i] = .int (lo + i) := by simp [rangeD]
theorem bound_run {Φ : CT} (g v : Int) (hb : big62 g = true) (hs : ∀ i : Nat, i < g.toNat → smallI (v + 1 + (i : Int)) = true) : runDef Φ fi0 [.int g, .int v] = .ok ⟨.int (bnd v g.toNat), false⟩ [] := by
  refine run_of rfl rfl (by decide) ?_
  have e0 : argsE [] [.int g, .int v] ++ List.replicate (fi0.nsl - fi0.nps) none = [some ⟨.int g, false⟩, some ⟨.int v, false⟩, none, none] := rfl
  rw [e0]
  show (exs Φ [] ir0 _).W _ _ _ _
  unfold ir0
  refine W_cons ?_
  simp [ex, ev, R.x, setV, W_nx]
  refine W_cons ?_
  simp [ex, evo, mkO, slot, R.bind, R.x, itR, getsO, Opd.get, itemsD, hb, shares, noSlots, share]
  refine W_for (fun i e => ∃ x, e = [some ⟨.int g, false⟩, some ⟨.int v, false⟩, some ⟨.int (bnd v i), false⟩, x]) ⟨_, rfl⟩ (fun i hi e ⟨x, he⟩ => ?_) (fun e ⟨x, he⟩ => ?_)
  · subst he
    rw [range_get]
    rw [range_len] at hi
    have hs : smallI (v + 1 + (i : Int)) = true := hs i hi
    simp [asgT, exs, ex, ev, mkO, slot, R.bind, R.x, Opd.get, binD, R.opt, setV, hs, bnd, W_nx]
  · subst he
    rw [range_len]
    simp [exs, ex, slot, W_rt]
end K16
namespace K16
open PySem MT
theorem memD_ints (n : Int) (vs : List Int) : memD (.int n) (vs.map D.int) = some (decide (n ∈ vs)) := by
  unfold memD
  have h : (vs.map D.int).all flatD = true := by simp [flatD]
  rw [if_pos ⟨rfl, h⟩]
  congr 1
  rw [List.any_map]
  induction vs with
  | nil => rfl
  | cons v vs ih =>
    have h2 : (vs.map D.int).all flatD = true := by simp [flatD]
    rw [List.any_cons, ih h2]
    by_cases e : n = v
    · subst e; simp [eqG]
    · have : (v == n) = false := by simp; exact fun z => e z.symm
      simp [eqG, this, e]
theorem filt_dec (vs : List Int) (n : Int) (h : n ∈ vs) : (vs.filter fun x => decide (n + 1 ≤ x)).length < (vs.filter fun x => decide (n ≤ x)).length := by
  have mono : ∀ ws : List Int, (ws.filter fun x => decide (n + 1 ≤ x)).length ≤ (ws.filter fun x => decide (n ≤ x)).length := by
    intro ws
    induction ws with
    | nil => simp
    | cons w ws ih =>
      simp only [List.filter_cons]
      by_cases h1 : n + 1 ≤ w
      · rw [if_pos (by simpa using h1), if_pos (by simp; omega)]; simpa using ih
      · rw [if_neg (by simpa using h1)]
        split
        · simp; omega
        · exact ih
  induction vs with
  | nil => simp at h
  | cons w ws ih =>
    simp only [List.filter_cons]
    rcases List.mem_cons.mp h with rfl | h
    · rw [if_neg (by simp; omega), if_pos (by simp)]
      have := mono ws
      simp only [List.length_cons]; omega
    · have := ih h
      by_cases h1 : n + 1 ≤ w
      · rw [if_pos (by simpa using h1), if_pos (by simp; omega)]; simpa using this
      · rw [if_neg (by simpa using h1)]
        split
        · simp only [List.length_cons]; omega
        · exact this
theorem filt_le (vs : List Int) (n : Int) : (vs.filter fun x => decide (n + 1 ≤ x)).length ≤ (vs.filter fun x => decide (n ≤ x)).length := by
  by_cases h : n ∈ vs
  · exact Nat.le_of_lt (filt_dec vs n h)
  · induction vs with
    | nil => simp
    | cons w ws ih =>
      have ih := ih fun z => h (List.mem_cons_of_mem _ z)
      simp only [List.filter_cons]
      by_cases h1 : n + 1 ≤ w
      · rw [if_pos (by simpa using h1), if_pos (by simp; omega)]; simpa using ih
      · rw [if_neg (by simpa using h1)]
        split
        · simp only [List.length_cons]; omega
        · exact ih
structure Fresh (vs : List Int) (m : Nat) (new : List Int) : Prop where
  len : new.length = m
  nodup : new.Nodup
  out : ∀ x ∈ new, x ∉ vs
theorem fresh_run {Φ : CT} (vs : List Int) (m : Nat) (hm : m < 1000) (hw : m + vs.length < Φ.wf) : ∃ new, Fresh vs m new ∧ runDef Φ fi1 [.lst (vs.map .int), .int m] = .ok ⟨.lst (new.map .int), true⟩ [] := by
  have key : (exs Φ [] ir1 [some ⟨.lst (vs.map .int), false⟩, some ⟨.int m, false⟩, none, none]).W (fun _ => False) (fun w _ => ∃ new, Fresh vs m new ∧ w = ⟨.lst (new.map .int), true⟩) nope nope := by
    generalize hM : (m : Int) = M
    unfold ir1
    refine W_cons ?_
    simp [ex, ev, evs, evo, mkO, slot, R.bind, R.x, Opd.get, getsO, itR, itemsD, shares, noSlots, share, binD, cmpD, ixD, slD, R.opt, setV, intR, boolR, muD, preM, biD, lenD, callO, ioSlots, ioOk, putsO, flatD, lineD, W_nx, W_rt, W_bk, W_ct]
    refine W_cons ?_
    simp [ex, ev, evs, evo, mkO, slot, R.bind, R.x, Opd.get, getsO, itR, itemsD, shares, noSlots, share, binD, cmpD, ixD, slD, R.opt, setV, intR, boolR, muD, preM, biD, lenD, callO, ioSlots, ioOk, putsO, flatD, lineD, W_nx, W_rt, W_bk, W_ct]
    refine W_cons ?_
    unfold ex
    refine W_while (fun k e => ∃ (F : List Int) (n : Int), e = [some ⟨.lst (vs.map .int), false⟩, some ⟨.int M, false⟩, some ⟨.lst (F.map .int), true⟩, some ⟨.int n, false⟩] ∧ F.Nodup ∧ (∀ x ∈ F, x ∉ vs ∧ x < n) ∧ F.length ≤ m ∧ k = (m - F.length) + (vs.filter fun x => decide (n ≤ x)).length) Φ.wf (m + (vs.filter fun x => decide (0 ≤ x)).length) _ ?_ ⟨[], 0, rfl, List.nodup_nil, by simp, by simp, by simp⟩ ?_
    · have := List.length_filter_le (fun x : Int => decide (0 ≤ x)) vs
      omega
    · rintro k e ⟨F, n, rfl, h1, h2, h3, rfl⟩
      refine ⟨decide ((F.length : Int) < M), [some ⟨.lst (vs.map .int), false⟩, some ⟨.int M, false⟩, some ⟨.lst (F.map .int), true⟩, some ⟨.int n, false⟩], ?_, ?_⟩
      · simp [ex, ev, evs, evo, mkO, slot, R.bind, R.x, Opd.get, getsO, itR, itemsD, shares, noSlots, share, binD, cmpD, ixD, slD, R.opt, setV, intR, boolR, muD, preM, biD, lenD, callO, ioSlots, ioOk, putsO, flatD, lineD, W_nx, W_rt, W_bk, W_ct]
      · split
        · rename_i hlt
          have hlt : F.length < m := by have := of_decide_eq_true hlt; omega
          refine W_cons ?_
          by_cases hn : n ∈ vs
          · simp [exs, ex, ev, evs, evo, mkO, slot, R.bind, R.x, Opd.get, getsO, itR, itemsD, shares, noSlots, share, binD, cmpD, ixD, slD, R.opt, setV, intR, boolR, muD, preM, biD, lenD, callO, ioSlots, ioOk, putsO, flatD, lineD, W_nx, W_rt, W_bk, W_ct, memD_ints, hn]
            refine ⟨_, ?_, F, n + 1, ⟨rfl, rfl⟩, h1, fun x hx => ⟨(h2 x hx).1, by have := (h2 x hx).2; omega⟩, h3, rfl⟩
            have := filt_dec vs n hn
            omega
          · have hl : F.length < lineD := by show F.length < 16777216; omega
            simp [exs, ex, ev, evs, evo, mkO, slot, R.bind, R.x, Opd.get, getsO, itR, itemsD, shares, noSlots, share, binD, cmpD, ixD, slD, R.opt, setV, intR, boolR, muD, preM, biD, lenD, callO, ioSlots, ioOk, putsO, flatD, lineD, W_nx, W_rt, W_bk, W_ct, memD_ints, hn, hl]
            refine ⟨_, ?_, F ++ [n], n + 1, by simp, ?_, ?_, by simp; omega, rfl⟩
            · have := filt_le vs n
              simp only [List.length_append, List.length_singleton]
              omega
            · rw [List.nodup_append]
              exact ⟨h1, by simp, fun a ha b hb => by simp at hb; subst hb; have := (h2 a ha).2; omega⟩
            · intro x hx
              rcases List.mem_append.mp hx with hx | hx
              · exact ⟨(h2 x hx).1, by have := (h2 x hx).2; omega⟩
              · simp at hx; subst hx; exact ⟨hn, by omega⟩
        · rename_i hlt
          have hlt : ¬ (F.length : Int) < M := fun z => hlt (decide_eq_true z)
          refine W_cons ?_
          simp [ex, ev, evs, evo, mkO, slot, R.bind, R.x, Opd.get, getsO, itR, itemsD, shares, noSlots, share, binD, cmpD, ixD, slD, R.opt, setV, intR, boolR, muD, preM, biD, lenD, callO, ioSlots, ioOk, putsO, flatD, lineD, W_nx, W_rt, W_bk, W_ct]
          exact ⟨F, ⟨by omega, h1, fun x hx => (h2 x hx).1⟩, rfl⟩
  obtain ⟨v, ⟨new, hf, rfl⟩, hr⟩ := run_ex (Φ := Φ) (f := fi1) (ds := [.lst (vs.map .int), .int m]) (P := fun w => ∃ new, Fresh vs m new ∧ w = ⟨.lst (new.map .int), true⟩) rfl rfl (by decide) (key.imp (fun _ h => h.elim) (fun _ _ h => h) (fun _ h => h) (fun _ h => h))
  exact ⟨new, hf, hr⟩
end K16
namespace K16
open PySem MT
theorem eqD_int (a b : Int) : eqD (.int a) (.int b) = some (a == b) := rfl
theorem eqD_bl (a b : Bool) : eqD (.bl a) (.bl b) = some (a == b) := rfl
theorem pairs_get : ∀ (xs : List D) (n i : Nat) (h : i < (pairsE n xs).length), (pairsE n xs)[i] = .tup [.int ((n + i : Nat) : Int), xs[i]'(by rw [pairsE_len] at h; exact h)]
  | [], n, i, h => by simp [pairsE] at h
  | x :: xs, n, 0, h => by simp [pairsE]
  | x :: xs, n, i + 1, h => by
    simp only [pairsE, List.getElem_cons_succ]
    rw [pairs_get xs (n + 1) i]
    congr 4
    omega
theorem cut_take {α : Type} (xs : List α) (k : Nat) : cutD xs none (some (k : Int)) = xs.take k := by
  have e : HT.sIx xs.length 0 none = 0 := HT.sIx_none _ _
  unfold cutD
  rw [e, HT.sIx_nat, Nat.sub_zero, List.drop_zero]
  rcases Nat.le_total k xs.length with h | h
  · rw [Nat.min_eq_left h]
  · rw [Nat.min_eq_right h, List.take_of_length_le (Nat.le_refl _), List.take_of_length_le h]
theorem beq_iff (a b c d : Int) : ((a == b) == (c == d)) = true ↔ ((a = b) ↔ (c = d)) := by
  have e : ∀ x y : Int, (x == y) = decide (x = y) := fun x y => by
    by_cases h : x = y
    · subst h; simp
    · rw [decide_eq_false h]; simpa using h
  rw [e, e]
  by_cases h1 : a = b <;> by_cases h2 : c = d <;> simp [h1, h2]
/-- the dict has each of the gaps, at f -/
def Has (kvs : List (L2.Key × D)) (gaps : List Str) (f : Str → Int) : Prop := ∀ a ∈ gaps, getA kvs (.inr a) = some (.int (f a))
def AL (gaps : List Str) (vs : List Int) (f g : Str → Int) : Prop := ∀ a ∈ gaps, (∀ v ∈ vs, (f a = v ↔ g a = v)) ∧ ∀ b ∈ gaps, (f a = f b ↔ g a = g b)
instance (gaps vs f g) : Decidable (AL gaps vs f g) := by unfold AL; infer_instance
theorem alike_run {Φ : CT} (gaps : List Str) (vs : List Int) (one other : List (L2.Key × D)) (f g : Str → Int) (h1 : Has one gaps f) (h2 : Has other gaps g) :
    runDef Φ fi3 [.lst (gaps.map .str), .lst (vs.map .int), .dK one, .dK other] = .ok ⟨.bl (decide (AL gaps vs f g)), false⟩ [] := by
  refine run_of rfl rfl (by decide) ?_
  have e0 : argsE [] [.lst (gaps.map .str), .lst (vs.map .int), .dK one, .dK other] ++ List.replicate (fi3.nsl - fi3.nps) none = [some ⟨.lst (gaps.map .str), false⟩, some ⟨.lst (vs.map .int), false⟩, some ⟨.dK one, false⟩, some ⟨.dK other, false⟩, none, none, none, none] := rfl
  rw [e0]
  show (exs Φ [] ir3 _).W _ _ _ _
  generalize hb : decide (AL gaps vs f g) = b
  have bad : ¬ AL gaps vs f g → b = false := fun h => by rw [← hb]; exact decide_eq_false h
  have good : AL gaps vs f g → b = true := fun h => by rw [← hb]; exact decide_eq_true h
  unfold ir3
  refine W_cons ?_
  simp [ex, ev, evs, evo, mkO, slot, R.bind, R.x, Opd.get, getsO, itR, itemsD, shares, noSlots, share, binD, cmpD, ixD, slD, R.opt, setV, intR, boolR, muD, preM, biD, lenD, callO, ioSlots, ioOk, putsO, flatD, lineD, W_nx, W_rt, W_bk, W_ct]
  refine W_for (fun i e => ∃ x4 x5 x6 x7, e = [some ⟨.lst (gaps.map .str), false⟩, some ⟨.lst (vs.map .int), false⟩, some ⟨.dK one, false⟩, some ⟨.dK other, false⟩, x4, x5, x6, x7] ∧ ∀ (j : Nat) (hj : j < gaps.length), j < i → (∀ v ∈ vs, (f gaps[j] = v ↔ g gaps[j] = v)) ∧ ∀ (l : Nat) (hl : l < gaps.length), l < j → (f gaps[j] = f gaps[l] ↔ g gaps[j] = g gaps[l]))
    ⟨_, _, _, _, rfl, fun j hj h => by omega⟩ ?_ ?_
  · rintro i hi e ⟨x4, x5, x6, x7, rfl, hI⟩
    rw [pairs_get]
    rw [pairsE_len, List.length_map] at hi
    have m1 : gaps[i] ∈ gaps := List.getElem_mem hi
    generalize hi' : ((0 + i : Nat) : Int) = I
    simp [asgT, asgTs]
    refine W_cons ?_
    simp [ex, ev, evs, evo, mkO, slot, R.bind, R.x, Opd.get, getsO, itR, itemsD, shares, noSlots, share, binD, cmpD, ixD, slD, R.opt, setV, intR, boolR, muD, preM, biD, lenD, callO, ioSlots, ioOk, putsO, flatD, lineD, W_nx, W_rt, W_bk, W_ct]
    refine W_for (fun m e => ∃ x6, e = [some ⟨.lst (gaps.map .str), false⟩, some ⟨.lst (vs.map .int), false⟩, some ⟨.dK one, false⟩, some ⟨.dK other, false⟩, some ⟨.int I, false⟩, some ⟨.str gaps[i], false⟩, x6, x7] ∧ ∀ (j : Nat) (hj : j < vs.length), j < m → (f gaps[i] = vs[j] ↔ g gaps[i] = vs[j])) ⟨_, rfl, fun j hj h => by omega⟩ ?_ ?_
    · rintro m hm e ⟨x6, rfl, hJ⟩
      rw [List.length_map] at hm
      rw [List.getElem_map]
      simp [asgT]
      refine W_cons ?_
      have g1 := h1 _ m1
      have g2 := h2 _ m1
      simp [ex, ev, evs, evo, mkO, slot, R.bind, R.x, Opd.get, getsO, itR, itemsD, shares, noSlots, share, binD, cmpD, ixD, slD, R.opt, setV, intR, boolR, muD, preM, biD, lenD, callO, ioSlots, ioOk, putsO, flatD, lineD, W_nx, W_rt, W_bk, W_ct, keyD, g1, g2, eqD_int, eqD_bl]
      cases hq : ((f gaps[i] == vs[m]) == (g gaps[i] == vs[m])) with
      | false =>
        have hb : b = false := bad fun h => by
          have := (h _ m1).1 vs[m] (List.getElem_mem hm)
          rw [(beq_iff _ _ _ _).mpr this] at hq
          cases hq
        simp [exs, ex, ev, evs, evo, mkO, slot, R.bind, R.x, Opd.get, getsO, itR, itemsD, shares, noSlots, share, binD, cmpD, ixD, slD, R.opt, setV, intR, boolR, muD, preM, biD, lenD, callO, ioSlots, ioOk, putsO, flatD, lineD, W_nx, W_rt, W_bk, W_ct, hb]
      | true =>
        simp only [Bool.not_true]
        refine W_nil (W_nil ⟨⟨_, rfl⟩, fun j hj hlt => ?_⟩)
        rcases Nat.lt_or_ge j m with h | h
        · exact hJ j hj h
        · have : j = m := by omega
          subst this
          exact (beq_iff _ _ _ _).mp hq
    · rintro e ⟨x6, rfl, hJ⟩
      rw [List.length_map] at hJ
      refine W_cons ?_
      have hcut : cutD (gaps.map D.str) none (some I) = (gaps.take i).map D.str := by
        rw [← hi', Nat.zero_add, cut_take, List.map_take]
      simp [ex, ev, evs, evo, mkO, slot, R.bind, R.x, Opd.get, getsO, itR, itemsD, shares, noSlots, share, binD, cmpD, ixD, slD, R.opt, setV, intR, boolR, muD, preM, biD, lenD, callO, ioSlots, ioOk, putsO, flatD, lineD, W_nx, W_rt, W_bk, W_ct, hcut]
      refine W_for (fun m e => ∃ x7, e = [some ⟨.lst (gaps.map .str), false⟩, some ⟨.lst (vs.map .int), false⟩, some ⟨.dK one, false⟩, some ⟨.dK other, false⟩, some ⟨.int I, false⟩, some ⟨.str gaps[i], false⟩, x6, x7] ∧ ∀ (l : Nat) (hl : l < gaps.length), l < m → (f gaps[i] = f gaps[l] ↔ g gaps[i] = g gaps[l])) ⟨_, rfl, fun j hj h => by omega⟩ ?_ ?_
      · rintro m hm e ⟨x7, rfl, hL⟩
        have hmi : m < i := by
          have := hm
          simp at this
          omega
        have hml : m < gaps.length := by omega
        rw [List.getElem_take, List.getElem_map]
        simp [asgT]
        refine W_cons ?_
        have g1 := h1 _ m1
        have g2 := h2 _ m1
        have m2 : gaps[m] ∈ gaps := List.getElem_mem hml
        have g3 := h1 _ m2
        have g4 := h2 _ m2
        simp [ex, ev, evs, evo, mkO, slot, R.bind, R.x, Opd.get, getsO, itR, itemsD, shares, noSlots, share, binD, cmpD, ixD, slD, R.opt, setV, intR, boolR, muD, preM, biD, lenD, callO, ioSlots, ioOk, putsO, flatD, lineD, W_nx, W_rt, W_bk, W_ct, keyD, g1, g2, g3, g4, eqD_int, eqD_bl]
        cases hq : ((f gaps[i] == f gaps[m]) == (g gaps[i] == g gaps[m])) with
        | false =>
          have hb : b = false := bad fun h => by
            have := (h _ m1).2 _ m2
            rw [(beq_iff _ _ _ _).mpr this] at hq
            cases hq
          simp [exs, ex, ev, evs, evo, mkO, slot, R.bind, R.x, Opd.get, getsO, itR, itemsD, shares, noSlots, share, binD, cmpD, ixD, slD, R.opt, setV, intR, boolR, muD, preM, biD, lenD, callO, ioSlots, ioOk, putsO, flatD, lineD, W_nx, W_rt, W_bk, W_ct, hb]
        | true =>
          simp only [Bool.not_true]
          refine W_nil (W_nil ⟨⟨_, rfl⟩, fun j hj hlt => ?_⟩)
          rcases Nat.lt_or_ge j m with h | h
          · exact hL j hj h
          · have : j = m := by omega
            subst this
            exact (beq_iff _ _ _ _).mp hq
      · rintro e ⟨x7, rfl, hL⟩
        refine W_nil ⟨⟨_, _, _, _, rfl⟩, fun j hj hlt => ?_⟩
        rcases Nat.lt_or_ge j i with h | h
        · exact hI j hj h
        · have : j = i := by omega
          subst this
          refine ⟨fun v hv => ?_, fun l hl hlt => hL l hl (by simp; omega)⟩
          obtain ⟨n, hn, rfl⟩ := List.getElem_of_mem hv
          exact hJ n hn hn
  · rintro e ⟨x4, x5, x6, x7, rfl, hI⟩
    rw [pairsE_len, List.length_map] at hI
    have hb : b = true := good fun a ha => by
      obtain ⟨j, hj, rfl⟩ := List.getElem_of_mem ha
      refine ⟨(hI j hj hj).1, fun c hc => ?_⟩
      obtain ⟨l, hl, rfl⟩ := List.getElem_of_mem hc
      rcases Nat.lt_trichotomy l j with h | h | h
      · exact (hI j hj hj).2 l hl h
      · subst h; simp
      · have := (hI l hl hl).2 j hj h
        exact ⟨fun z => (this.mp z.symm).symm, fun z => (this.mpr z.symm).symm⟩
    refine W_cons ?_
    simp [ex, ev, evs, evo, mkO, slot, R.bind, R.x, Opd.get, getsO, itR, itemsD, shares, noSlots, share, binD, cmpD, ixD, slD, R.opt, setV, intR, boolR, muD, preM, biD, lenD, callO, ioSlots, ioOk, putsO, flatD, lineD, W_nx, W_rt, W_bk, W_ct, hb]
end K16
namespace K16
open PySem MT
def cand (old new : List Int) (u : Nat) : List Int := old ++ new.take (u + 1)
def extK (old new : List Int) (p : List Int × Nat) : List (List Int × Nat) := (List.range (cand old new p.2).length).map fun k => (p.1 ++ [(cand old new p.2).getD k 0], max p.2 (k + 1 - old.length))
def kk (old new : List Int) : Nat → List (List Int × Nat)
  | 0 => [([], 0)]
  | i + 1 => (kk old new i).flatMap (extK old new)
theorem kk_shape (old new : List Int) : ∀ (i : Nat) (p : List Int × Nat), p ∈ kk old new i → p.1.length = i ∧ p.2 ≤ i
  | 0, p, h => by simp [kk] at h; subst h; simp
  | i + 1, p, h => by
    simp only [kk, List.mem_flatMap] at h
    obtain ⟨q, hq, h⟩ := h
    obtain ⟨h1, h2⟩ := kk_shape old new i q hq
    simp only [extK, List.mem_map, List.mem_range, cand, List.length_append, List.length_take] at h
    obtain ⟨k, hk, rfl⟩ := h
    refine ⟨by simp [h1], ?_⟩
    simp only
    omega
theorem bnd_pos (v : Int) (hv : 0 ≤ v) : ∀ i, 0 ≤ bnd v i
  | 0 => by simp [bnd]
  | i + 1 => by unfold bnd; exact Int.mul_nonneg (bnd_pos v hv i) (by omega)
theorem kk_len (old new : List Int) : ∀ i : Nat, ((kk old new i).length : Int) ≤ bnd old.length i
  | 0 => by simp [kk, bnd]
  | i + 1 => by
    have ih := kk_len old new i
    have h : ∀ ps : List (List Int × Nat), (∀ p ∈ ps, p.2 ≤ i) → (ps.flatMap (extK old new)).length ≤ ps.length * (old.length + 1 + i) := by
      intro ps
      induction ps with
      | nil => simp
      | cons p ps ih =>
        intro hp
        have h1 := ih fun q hq => hp q (List.mem_cons_of_mem _ hq)
        have h2 := hp p List.mem_cons_self
        have h3 : (extK old new p).length ≤ old.length + 1 + i := by
          simp only [extK, cand, List.length_map, List.length_range, List.length_append, List.length_take]; omega
        simp only [List.flatMap_cons, List.length_append, List.length_cons, Nat.add_mul, Nat.one_mul]
        omega
    have h1 := h _ fun p hp => (kk_shape old new i p hp).2
    show (((kk old new i).flatMap (extK old new)).length : Int) ≤ bnd old.length i * (old.length + 1 + i)
    have h2 : (((kk old new i).flatMap (extK old new)).length : Int) ≤ ((kk old new i).length : Int) * (old.length + 1 + i) := by exact_mod_cast h1
    exact Int.le_trans h2 (Int.mul_le_mul_of_nonneg_right ih (by omega))
theorem bnd_mono (v : Int) (hv : 0 ≤ v) (i : Nat) : bnd v i ≤ bnd v (i + 1) := by
  show bnd v i ≤ bnd v i * (v + 1 + i)
  have h := bnd_pos v hv i
  have : bnd v i * 1 ≤ bnd v i * (v + 1 + i) := Int.mul_le_mul_of_nonneg_left (by omega) h
  omega
theorem bnd_le (v : Int) (hv : 0 ≤ v) {i j : Nat} (h : i ≤ j) : bnd v i ≤ bnd v j := by
  induction h with
  | refl => exact Int.le_refl _
  | step _ ih => exact Int.le_trans ih (bnd_mono v hv _)
def zipK (gaps : List Str) (xs : List Int) : List (L2.Key × D) := (gaps.zip xs).map fun p => (.inr p.1, .int p.2)
def enc (gaps : List Str) (p : List Int × Nat) : D := .tup [.dK (zipK gaps p.1), .int p.2]
theorem putA_new {kvs : List (L2.Key × D)} {k : L2.Key} {v : D} (h : ∀ p ∈ kvs, p.1 ≠ k) : putA kvs k v = kvs ++ [(k, v)] := by
  unfold putA
  rw [if_neg]
  intro z
  obtain ⟨p, hp, e⟩ := List.any_eq_true.mp z
  exact h p hp (of_decide_eq_true e)
theorem zip_put {gaps : List Str} (nd : gaps.Nodup) {xs : List Int} {i : Nat} (hi : i < gaps.length) (hx : xs.length = i) (v : Int) : putA (zipK gaps xs) (.inr gaps[i]) (.int v) = zipK gaps (xs ++ [v]) := by
  rw [putA_new]
  · unfold zipK
    have e : gaps.zip (xs ++ [v]) = gaps.zip xs ++ [(gaps[i], v)] := by
      have h1 : gaps = gaps.take i ++ gaps[i] :: gaps.drop (i + 1) := by rw [List.getElem_cons_drop, List.take_append_drop]
      have l1 : (gaps.take i).length = xs.length := by rw [List.length_take, hx]; omega
      conv => lhs; rw [h1]
      conv => rhs; lhs; rw [h1]
      rw [List.zip_append l1]
      have : (gaps.take i ++ gaps[i] :: gaps.drop (i + 1)).zip xs = (gaps.take i).zip xs := by
        conv => lhs; rw [← List.append_nil xs]
        rw [List.zip_append l1]
        simp
      rw [this, List.zip_cons_cons, List.zip_nil_right]
    rw [e, List.map_append]
    rfl
  · intro p hp e
    unfold zipK at hp
    obtain ⟨q, hq, rfl⟩ := List.mem_map.mp hp
    obtain ⟨n, hn, rfl⟩ := List.getElem_of_mem hq
    simp only [List.getElem_zip, Sum.inr.injEq] at e
    have l1 : n < i := by simp at hn; omega
    exact List.pairwise_iff_getElem.mp nd n i (by omega) hi l1 e
theorem lcL_all {own : List Nat} {t : D → MT.Env → MT.R (Option D)} (I : MT.Env → Prop) (g : D → D) : ∀ (items : List D) (e : MT.Env), I e → (∀ d ∈ items, ∀ e, I e → ∃ e1, t d e = .ok (some (g d)) e1 ∧ I (wipeE e1 own)) → ∃ e', lcL own t items e = .ok (items.map g) e' ∧ I e'
  | [], e, h, _ => ⟨e, rfl, h⟩
  | d :: ds, e, h, k => by
    obtain ⟨e1, h1, h2⟩ := k d List.mem_cons_self e h
    obtain ⟨e2, h3, h4⟩ := lcL_all I g ds _ h2 fun d hd => k d (List.mem_cons_of_mem _ hd)
    refine ⟨e2, ?_, h4⟩
    unfold lcL
    rw [h1]
    show (lcL own t ds (wipeE e1 own)).bind _ = _
    rw [h3]
    rfl
theorem take_succ' {α : Type} (l : List α) (k : Nat) (h : k < l.length) : l.take (k + 1) = l.take k ++ [l[k]] := by
  rw [List.take_succ, List.getElem?_eq_getElem h]; rfl
theorem kk0 (old new : List Int) (gaps : List Str) : (kk old new 0).map (enc gaps) = [D.tup [.dK [], .int 0]] := by simp [kk, enc, zipK]
theorem max_int (u k o : Nat) : (if (k : Int) + 1 - (o : Int) > (u : Int) then (k : Int) + 1 - (o : Int) else (u : Int)) = ((max u (k + 1 - o) : Nat) : Int) := by
  split <;> omega
theorem kinds_run {Φ : CT} (gaps : List Str) (vs new : List Int) (nd : gaps.Nodup) (hg : gaps.length < 100) (hv : vs.length < 100) (hnew : new.length = gaps.length) (hbd : bnd vs.length gaps.length ≤ 1000)
    (hio0 : Φ.io 0 = []) (hio1 : Φ.io 1 = []) (h0 : Φ.call 0 [.int gaps.length, .int vs.length] = .ok ⟨.int (bnd vs.length gaps.length), false⟩ [])
    (h1 : Φ.call 1 [.lst (vs.map .int), .int gaps.length] = .ok ⟨.lst (new.map .int), true⟩ []) :
    runDef Φ fi2 [.lst (gaps.map .str), .lst (vs.map .int)] = .ok ⟨.lst ((kk (sortI vs) new gaps.length).map fun p => .dK (zipK gaps p.1)), true⟩ [] := by
  refine run_of rfl rfl (by decide) ?_
  have e0 : argsE [] [.lst (gaps.map .str), .lst (vs.map .int)] ++ List.replicate (fi2.nsl - fi2.nps) none = [some ⟨.lst (gaps.map .str), false⟩, some ⟨.lst (vs.map .int), false⟩, none, none, none, none, none, none, none, none, none, none] := rfl
  rw [e0]
  show (exs Φ [] ir2 _).W _ _ _ _
  have ol : (sortI vs).length = vs.length := (sortI_perm vs).length_eq
  generalize hold : sortI vs = old at *
  have hints : intsD (vs.map D.int) = some vs := by
    clear h0 h1 hold hbd hv ol e0
    induction vs with
    | nil => rfl
    | cons v vs ih => simp [intsD, ih]
  generalize hG : (gaps.length : Int) = G at *
  generalize hV : (vs.length : Int) = V at *
  unfold ir2
  refine W_cons ?_
  have hd : decide (1000 < bnd V gaps.length) = false := decide_eq_false (by omega)
  simp [ex, ev, evs, evo, mkO, slot, R.bind, R.x, Opd.get, getsO, itR, itemsD, shares, noSlots, share, binD, cmpD, ixD, slD, R.opt, setV, intR, boolR, muD, preM, biD, lenD, callO, ioSlots, ioOk, putsO, flatD, lineD, W_nx, W_rt, W_bk, W_ct, hG, hV, hio0, h0, hd]
  refine W_nil ?_
  refine W_cons ?_
  simp [ex, ev, evs, evo, mkO, slot, R.bind, R.x, Opd.get, getsO, itR, itemsD, shares, noSlots, share, binD, cmpD, ixD, slD, R.opt, setV, intR, boolR, muD, preM, biD, lenD, callO, ioSlots, ioOk, putsO, flatD, lineD, W_nx, W_rt, W_bk, W_ct, hints, hold]
  refine W_cons ?_
  simp [ex, ev, evs, evo, mkO, slot, R.bind, R.x, Opd.get, getsO, itR, itemsD, shares, noSlots, share, binD, cmpD, ixD, slD, R.opt, setV, intR, boolR, muD, preM, biD, lenD, callO, ioSlots, ioOk, putsO, flatD, lineD, W_nx, W_rt, W_bk, W_ct, hG, hio1, h1]
  refine W_cons ?_
  simp [ex, ev, evs, evo, mkO, slot, R.bind, R.x, Opd.get, getsO, itR, itemsD, shares, noSlots, share, binD, cmpD, ixD, slD, R.opt, setV, intR, boolR, muD, preM, biD, lenD, callO, ioSlots, ioOk, putsO, flatD, lineD, W_nx, W_rt, W_bk, W_ct, pairsD]
  refine W_cons ?_
  simp [ex, ev, evs, evo, mkO, slot, R.bind, R.x, Opd.get, getsO, itR, itemsD, shares, noSlots, share, binD, cmpD, ixD, slD, R.opt, setV, intR, boolR, muD, preM, biD, lenD, callO, ioSlots, ioOk, putsO, flatD, lineD, W_nx, W_rt, W_bk, W_ct]
  obtain ⟨I, hI⟩ : ∃ I : Nat → MT.Env → Prop, I = fun i e => ∃ o x5 x6 x7 x8 x9 x10 x11, e = [some ⟨.lst (gaps.map .str), false⟩, some ⟨.lst (vs.map .int), false⟩, some ⟨.lst (old.map .int), true⟩, some ⟨.lst (new.map .int), true⟩, some ⟨.lst ((kk old new i).map (enc gaps)), o⟩, x5, x6, x7, x8, x9, x10, x11] := ⟨_, rfl⟩
  refine W_for I (by rw [hI]; exact ⟨true, none, none, none, none, none, none, none, by rw [kk0]⟩) ?_ ?_
  · rintro i hi e he
    rw [hI] at he
    obtain ⟨o, x5, x6, x7, x8, x9, x10, x11, rfl⟩ := he
    rw [List.length_map] at hi
    rw [List.getElem_map]
    simp [asgT]
    refine W_cons ?_
    simp [ex, ev, evs, evo, mkO, slot, R.bind, R.x, Opd.get, getsO, itR, itemsD, shares, noSlots, share, binD, cmpD, ixD, slD, R.opt, setV, intR, boolR, muD, preM, biD, lenD, callO, ioSlots, ioOk, putsO, flatD, lineD, W_nx, W_rt, W_bk, W_ct]
    refine W_cons ?_
    simp [ex, ev, evs, evo, mkO, slot, R.bind, R.x, Opd.get, getsO, itR, itemsD, shares, noSlots, share, binD, cmpD, ixD, slD, R.opt, setV, intR, boolR, muD, preM, biD, lenD, callO, ioSlots, ioOk, putsO, flatD, lineD, W_nx, W_rt, W_bk, W_ct]
    have big : ∀ j, j ≤ gaps.length → (kk old new j).length ≤ 1000 := fun j hj => by
      have h1 := kk_len old new j
      have h2 := bnd_le V (by omega) hj
      rw [ol, hV] at h1
      omega
    have big1 := big (i + 1) (by omega)
    obtain ⟨M, hM⟩ : ∃ M : Nat → MT.Env → Prop, M = fun m e => ∃ x7 x8 x9 x10 x11, e = [some ⟨.lst (gaps.map .str), false⟩, some ⟨.lst (vs.map .int), false⟩, some ⟨.lst (old.map .int), true⟩, some ⟨.lst (new.map .int), true⟩, some ⟨.lst ((kk old new i).map (enc gaps)), false⟩, some ⟨.str gaps[i], false⟩, some ⟨.lst ((((kk old new i).take m).flatMap (extK old new)).map (enc gaps)), true⟩, x7, x8, x9, x10, x11] := ⟨_, rfl⟩
    refine W_for M (by rw [hM]; exact ⟨_, _, _, _, _, rfl⟩) ?_ ?_
    · rintro m hm e he
      rw [hM] at he
      obtain ⟨x7, x8, x9, x10, x11, rfl⟩ := he
      rw [List.length_map] at hm
      rw [List.getElem_map]
      have shp := kk_shape old new i _ (List.getElem_mem hm)
      have sub : ((kk old new i).take m).flatMap (extK old new) ++ extK old new (kk old new i)[m] = ((kk old new i).take (m + 1)).flatMap (extK old new) := by
        rw [take_succ' _ _ hm, List.flatMap_append]; simp
      have bnd1 : (((kk old new i).take m).flatMap (extK old new)).length + (extK old new (kk old new i)[m]).length ≤ 1000 := by
        rw [← List.length_append, sub]
        have : (kk old new (i + 1)).length = (((kk old new i).take (m + 1)).flatMap (extK old new)).length + (((kk old new i).drop (m + 1)).flatMap (extK old new)).length := by
          rw [← List.length_append, ← List.flatMap_append, List.take_append_drop]; rfl
        omega
      generalize (kk old new i)[m] = p at *
      generalize ((kk old new i).take m).flatMap (extK old new) = base at *
      obtain ⟨xs, u⟩ := p
      obtain ⟨s1, s2⟩ := shp
      simp only at s1 s2
      rw [show enc gaps (xs, u) = .tup [.dK (zipK gaps xs), .int u] from rfl]
      simp [asgT, asgTs]
      refine W_cons ?_
      have hcut : cutD (new.map D.int) none (some ((u : Int) + 1)) = (new.map D.int).take (u + 1) := cut_take _ (u + 1)
      have hlen : old.length + min (u + 1) new.length ≤ 16777216 := by omega
      simp [ex, ev, evs, evo, mkO, slot, R.bind, R.x, Opd.get, getsO, itR, itemsD, shares, noSlots, share, binD, cmpD, ixD, slD, R.opt, setV, intR, boolR, muD, preM, biD, lenD, callO, ioSlots, ioOk, putsO, flatD, lineD, W_nx, W_rt, W_bk, W_ct, hcut, hlen]
      have hitems : List.map D.int old ++ List.take (u + 1) (List.map D.int new) = (cand old new u).map D.int := by simp [cand]
      rw [hitems]
      have hel : (extK old new (xs, u)).length = (cand old new u).length := by simp [extK]
      obtain ⟨L, hL⟩ : ∃ L : Nat → MT.Env → Prop, L = fun k e => ∃ x9 x10 x11, e = [some ⟨.lst (gaps.map .str), false⟩, some ⟨.lst (vs.map .int), false⟩, some ⟨.lst (old.map .int), true⟩, some ⟨.lst (new.map .int), true⟩, some ⟨.lst ((kk old new i).map (enc gaps)), false⟩, some ⟨.str gaps[i], false⟩, some ⟨.lst ((base ++ (extK old new (xs, u)).take k).map (enc gaps)), true⟩, some ⟨.dK (zipK gaps xs), false⟩, some ⟨.int u, false⟩, x9, x10, x11] := ⟨_, rfl⟩
      refine W_for L (by rw [hL]; exact ⟨_, _, _, by simp; exact ⟨rfl, rfl, rfl⟩⟩) ?_ ?_
      · rintro k hk e he
        rw [hL] at he
        obtain ⟨x9, x10, x11, rfl⟩ := he
        rw [pairs_get]
        rw [pairsE_len, List.length_map] at hk
        rw [List.getElem_map]
        have hext : (extK old new (xs, u)).take (k + 1) = (extK old new (xs, u)).take k ++ [(xs ++ [(cand old new u)[k]], max u (k + 1 - old.length))] := by
          rw [take_succ' _ _ (by rw [hel]; exact hk)]
          congr 2
          simp [extK, hk]
        have hz : (zipK gaps xs).length < 16777216 := by simp [zipK]; omega
        have hl2 : base.length + min k (extK old new (xs, u)).length < 16777216 := by omega
        have hp := zip_put nd hi s1 (cand old new u)[k]
        have hmax : (if (u : Int) < ((0 + k : Nat) : Int) + 1 - (old.length : Int) then ((0 + k : Nat) : Int) + 1 - (old.length : Int) else (u : Int)) = ((max u (k + 1 - old.length) : Nat) : Int) := by split <;> omega
        generalize (cand old new u)[k] = c at *
        generalize ((0 + k : Nat) : Int) = K at *
        simp [asgT, asgTs]
        refine W_cons ?_
        simp [ex, ev, evs, evo, mkO, slot, R.bind, R.x, Opd.get, getsO, itR, itemsD, shares, noSlots, share, binD, cmpD, ixD, slD, R.opt, setV, intR, boolR, muD, preM, biD, lenD, callO, ioSlots, ioOk, putsO, flatD, lineD, W_nx, W_rt, W_bk, W_ct]
        refine W_cons ?_
        simp [ex, ev, evs, evo, mkO, slot, R.bind, R.x, Opd.get, getsO, itR, itemsD, shares, noSlots, share, binD, cmpD, ixD, slD, R.opt, setV, intR, boolR, muD, preM, biD, lenD, callO, ioSlots, ioOk, putsO, flatD, lineD, W_nx, W_rt, W_bk, W_ct, keyD, hz, hp]
        refine W_cons ?_
        simp [ex, ev, evs, evo, mkO, slot, R.bind, R.x, Opd.get, getsO, itR, itemsD, shares, noSlots, share, binD, cmpD, ixD, slD, R.opt, setV, intR, boolR, muD, preM, biD, lenD, callO, ioSlots, ioOk, putsO, flatD, lineD, W_nx, W_rt, W_bk, W_ct, hl2, hmax]
        refine W_nil ?_
        rw [hL]
        refine ⟨some ⟨.int K, false⟩, some ⟨.int c, false⟩, some ⟨.dK (zipK gaps (xs ++ [c])), false⟩, ?_⟩
        rw [hext]
        simp [enc]
      · rintro e he
        rw [pairsE_len, List.length_map, ← hel, hL] at he
        obtain ⟨x9, x10, x11, rfl⟩ := he
        rw [List.take_length, sub]
        refine W_nil ?_
        rw [hM]
        exact ⟨_, _, _, _, _, rfl⟩
    · rintro e he
      rw [List.length_map, hM] at he
      obtain ⟨x7, x8, x9, x10, x11, rfl⟩ := he
      rw [List.take_length]
      refine W_cons ?_
      simp [ex, ev, evs, evo, mkO, slot, R.bind, R.x, Opd.get, getsO, itR, itemsD, shares, noSlots, share, binD, cmpD, ixD, slD, R.opt, setV, intR, boolR, muD, preM, biD, lenD, callO, ioSlots, ioOk, putsO, flatD, lineD, W_nx, W_rt, W_bk, W_ct]
      refine W_nil ?_
      rw [hI]
      exact ⟨false, _, _, _, _, _, _, _, rfl⟩
  · rintro e he
    rw [List.length_map, hI] at he
    obtain ⟨o, x5, x6, x7, x8, x9, x10, x11, rfl⟩ := he
    refine W_cons ?_
    have hlen : (kk old new gaps.length).length < 16777216 := by
      have h1 := kk_len old new gaps.length
      rw [ol, hV] at h1
      omega
    refine W_retLc (items := (kk old new gaps.length).map (enc gaps)) (fun e => e.length = 12) (fun d => match d with
      | .tup (x :: _) => some x
      | _ => none) (by simp [ex, ev, evs, evo, mkO, slot, R.bind, R.x, Opd.get, getsO, itR, itemsD, shares, noSlots, share, binD, cmpD, ixD, slD, R.opt, setV, intR, boolR, muD, preM, biD, lenD, callO, ioSlots, ioOk, putsO, flatD, lineD, W_nx, W_rt, W_bk, W_ct]; rfl) ⟨by rw [List.length_map]; exact hlen, by simp⟩ (by simp [wipeE]) ?_ ?_
    · intro d hd e he
      obtain ⟨p, hp, rfl⟩ := List.mem_map.mp hd
      match e, he with
      | [y0, y1, y2, y3, y4, y5, y6, y7, y8, y9, y10, y11], _ =>
        refine ⟨_, by simp [lcT, enc, asgT, asgTs, evt, ex, ev, evs, evo, mkO, slot, R.bind, R.x, Opd.get, getsO, itR, itemsD, shares, noSlots, share, binD, cmpD, ixD, slD, R.opt, setV, intR, boolR, muD, preM, biD, lenD, callO, ioSlots, ioOk, putsO, flatD, lineD, W_nx, W_rt, W_bk, W_ct]; rfl, by simp [wipeE]⟩
    · intro e' _
      rw [List.filterMap_map]
      congr 2
      induction kk old new gaps.length with
      | nil => rfl
      | cons p ps ih =>
        rw [List.filterMap_cons, List.map_cons, ← ih]
        rfl
end K16
namespace K16
open PySem MT
theorem lt2000 {j : Int} (h : j ≤ 1000000000) : j < 2 ^ 2000 := by
  have : (2 : Int) ^ 2000 = ((2 ^ 2000 : Nat) : Int) := by norm_cast
  rw [this]
  have h2 : (1000000000 : Nat) < 2 ^ 2000 := by decide +kernel
  omega
theorem cut_one {α : Type} (xs : List α) (k : Int) (h : 0 ≤ k) : cutD xs (some k) (some (k + 1)) = (xs[k.toNat]?).toList := by
  obtain ⟨n, rfl⟩ := Int.eq_ofNat_of_zero_le h
  unfold cutD
  have e : ((n : Int) + 1) = ((n + 1 : Nat) : Int) := by omega
  rw [e, HT.sIx_nat, HT.sIx_nat, Int.toNat_natCast]
  rcases Nat.lt_or_ge n xs.length with h | h
  · rw [Nat.min_eq_left (by omega), Nat.min_eq_left (by omega), show n + 1 - n = 1 from by omega, List.drop_eq_getElem_cons h, List.getElem?_eq_getElem h]
    rfl
  · rw [Nat.min_eq_right (by omega), Nat.min_eq_right (by omega), Nat.sub_self, List.take_zero, List.getElem?_eq_none h]
    rfl
def gd (ns : List Int) (k : Int) : Int := ns.getD k.toNat 0
theorem atI0 (x : D) (xs : List D) : L2.atI (x :: xs) 0 = some x := by
  unfold L2.atI L2.ixN
  simp
theorem at_run {Φ : CT} (ns : List Int) (k : Int) (h : 0 ≤ k) : runDef Φ fi4 [.scr ns, .int k] = .ok ⟨.int (gd ns k), false⟩ [] := by
  refine run_of rfl rfl (by decide) ?_
  have e0 : argsE [] [.scr ns, .int k] ++ List.replicate (fi4.nsl - fi4.nps) none = [some ⟨.scr ns, false⟩, some ⟨.int k, false⟩] := rfl
  rw [e0]
  show (exs Φ [] ir4 _).W _ _ _ _
  unfold ir4
  refine W_cons ?_
  simp [ex, ev, evs, evo, mkO, slot, R.bind, R.x, Opd.get, getsO, itR, itemsD, shares, noSlots, share, binD, cmpD, ixD, slD, R.opt, setV, intR, boolR, muD, preM, biD, lenD, callO, ioSlots, ioOk, putsO, flatD, lineD, W_nx, W_rt, W_bk, W_ct, cut_one ns k h]
  unfold gd
  rcases Nat.lt_or_ge k.toNat ns.length with h | h
  · simp [h, atI0, W_rt]
  · simp [h, atI0, W_rt]
theorem value_run {Φ : CT} (c : Int) : ∃ n, runDef Φ fi6 [.int c] = .ok ⟨.int n, false⟩ [] := by
  have key : ∃ v, (∃ n, v = ⟨.int n, false⟩) ∧ runDef Φ fi6 [.int c] = .ok v [] := by
    refine run_ex rfl rfl (by decide) ?_
    have e0 : argsE [] [.int c] ++ List.replicate (fi6.nsl - fi6.nps) none = [some ⟨.int c, false⟩, none] := rfl
    rw [e0]
    show (exs Φ [] ir6 _).W _ _ _ _
    unfold ir6
    refine W_cons ?_
    simp [ex, ev, evs, evo, mkO, slot, R.bind, R.x, Opd.get, getsO, itR, itemsD, shares, noSlots, share, binD, cmpD, ixD, slD, R.opt, setV, intR, boolR, muD, preM, biD, lenD, callO, ioSlots, ioOk, putsO, flatD, lineD, W_nx, W_rt, W_bk, W_ct, lt2000, eqD_int]
    cases h1 : decide (c % 3 < 2) with
    | true =>
      simp only []
      refine W_cons ?_
      simp [ex, ev, evs, evo, mkO, slot, R.bind, R.x, Opd.get, getsO, itR, itemsD, shares, noSlots, share, binD, cmpD, ixD, slD, R.opt, setV, intR, boolR, muD, preM, biD, lenD, callO, ioSlots, ioOk, putsO, flatD, lineD, W_nx, W_rt, W_bk, W_ct, lt2000]
    | false =>
      simp only []
      refine W_nil ?_
      refine W_cons ?_
      simp [ex, ev, evs, evo, mkO, slot, R.bind, R.x, Opd.get, getsO, itR, itemsD, shares, noSlots, share, binD, cmpD, ixD, slD, R.opt, setV, intR, boolR, muD, preM, biD, lenD, callO, ioSlots, ioOk, putsO, flatD, lineD, W_nx, W_rt, W_bk, W_ct, lt2000]
      generalize c / 6 % 1000000000000000000000000000000000000000000000000000000000000 = m
      have fin : ∀ m : Int, (exs Φ [] (ISs.cons
            (IS.ite
              (IE.cmp CmpOp.Eq
                (IE.bin Operator.Mod (IE.bin Operator.FloorDiv (IE.var 0) (IE.cst (D.int 3))) (IE.cst (D.int 2)))
                (IE.cst (D.int 1)))
              (ISs.cons (IS.ret (IE.var 1).neg) ISs.nil) ISs.nil)
            (ISs.cons (IS.ret (IE.var 1)) ISs.nil)) [some ⟨.int c, false⟩, some ⟨.int m, false⟩]).W (fun x => False) (fun w x => ∃ n, w = { d := D.int n, own := false }) nope nope := fun m => by
        refine W_cons ?_
        simp [ex, ev, evs, evo, mkO, slot, R.bind, R.x, Opd.get, getsO, itR, itemsD, shares, noSlots, share, binD, cmpD, ixD, slD, R.opt, setV, intR, boolR, muD, preM, biD, lenD, callO, ioSlots, ioOk, putsO, flatD, lineD, W_nx, W_rt, W_bk, W_ct, lt2000, eqD_int]
        generalize (c / 3 % 2 == 1) = b
        cases b with
        | true =>
          simp only []
          refine W_cons ?_
          simp [ex, ev, evs, evo, mkO, slot, R.bind, R.x, Opd.get, getsO, itR, itemsD, shares, noSlots, share, binD, cmpD, ixD, slD, R.opt, setV, intR, boolR, muD, preM, biD, lenD, callO, ioSlots, ioOk, putsO, flatD, lineD, W_nx, W_rt, W_bk, W_ct]
        | false =>
          simp only []
          refine W_nil ?_
          refine W_cons ?_
          simp [ex, ev, evs, evo, mkO, slot, R.bind, R.x, Opd.get, getsO, itR, itemsD, shares, noSlots, share, binD, cmpD, ixD, slD, R.opt, setV, intR, boolR, muD, preM, biD, lenD, callO, ioSlots, ioOk, putsO, flatD, lineD, W_nx, W_rt, W_bk, W_ct]
      refine W_cons ?_
      simp [ex, ev, evs, evo, mkO, slot, R.bind, R.x, Opd.get, getsO, itR, itemsD, shares, noSlots, share, binD, cmpD, ixD, slD, R.opt, setV, intR, boolR, muD, preM, biD, lenD, callO, ioSlots, ioOk, putsO, flatD, lineD, W_nx, W_rt, W_bk, W_ct, lt2000, eqD_int]
      generalize (c / 6 % 5 == 3) = b
      cases b with
      | true =>
        simp only []
        refine W_cons ?_
        simp [ex, ev, evs, evo, mkO, slot, R.bind, R.x, Opd.get, getsO, itR, itemsD, shares, noSlots, share, binD, cmpD, ixD, slD, R.opt, setV, intR, boolR, muD, preM, biD, lenD, callO, ioSlots, ioOk, putsO, flatD, lineD, W_nx, W_rt, W_bk, W_ct]
        exact W_nil (fin _)
      | false => exact W_nil (fin _)
  obtain ⟨v, ⟨n, rfl⟩, h⟩ := key
  exact ⟨n, h⟩
theorem range_lit (n : Nat) (h : n < 2 ^ 62) : big62 (n : Int) = true := big_of (by omega) (by omega)
theorem nat_of {i : Int} (h : 0 ≤ i) : ((i.toNat : Nat) : Int) = i := Int.toNat_of_nonneg h
/-- the values -/
theorem values_run {Φ : CT} (ns : List Int) (hio4 : Φ.io 4 = []) (hio6 : Φ.io 6 = []) (h4 : ∀ k : Int, 0 ≤ k → Φ.call 4 [.scr ns, .int k] = .ok ⟨.int (gd ns k), false⟩ []) (lv : Int → Int) (h6 : ∀ c, Φ.call 6 [.int c] = .ok ⟨.int (lv c), false⟩ []) :
    ∃ vs : List Int, vs.length ≤ 3 ∧ vs.Nodup ∧ runDef Φ fi7 [.scr ns] = .ok ⟨.lst (vs.map .int), true⟩ [] := by
  obtain ⟨P, hP⟩ : ∃ P : Val → Prop, P = fun v => ∃ vs : List Int, vs.length ≤ 3 ∧ vs.Nodup ∧ v = ⟨.lst (vs.map .int), true⟩ := ⟨_, rfl⟩
  have key : ∃ v, P v ∧ runDef Φ fi7 [.scr ns] = .ok v [] := by
    refine run_ex rfl rfl (by decide) ?_
    have e0 : argsE [] [.scr ns] ++ List.replicate (fi7.nsl - fi7.nps) none = [some ⟨.scr ns, false⟩, none, none, none] := rfl
    rw [e0]
    show (exs Φ [] ir7 _).W _ _ _ _
    unfold ir7
    refine W_cons ?_
    simp [ex, ev, evs, evo, mkO, slot, R.bind, R.x, Opd.get, getsO, itR, itemsD, shares, noSlots, share, binD, cmpD, ixD, slD, R.opt, setV, intR, boolR, muD, preM, biD, lenD, callO, ioSlots, ioOk, putsO, flatD, lineD, W_nx, W_rt, W_bk, W_ct]
    refine W_cons ?_
    have hm0 : 0 ≤ gd ns 2 % 4 := Int.emod_nonneg _ (by decide)
    have hm1 : gd ns 2 % 4 < 4 := Int.emod_lt_of_pos _ (by decide)
    have hb : big62 (gd ns 2 % 4) = true := big_of hm0 (by omega)
    simp [ex, ev, evs, evo, mkO, slot, R.bind, R.x, Opd.get, getsO, itR, itemsD, shares, noSlots, share, binD, cmpD, ixD, slD, R.opt, setV, intR, boolR, muD, preM, biD, lenD, callO, ioSlots, ioOk, putsO, flatD, lineD, W_nx, W_rt, W_bk, W_ct, hio4, h4, hb]
    obtain ⟨I, hI⟩ : ∃ I : Nat → MT.Env → Prop, I = fun i e => ∃ (vs : List Int) (x2 x3 : Option Val), e = [some ⟨.scr ns, false⟩, some ⟨.lst (vs.map .int), true⟩, x2, x3] ∧ vs.length ≤ i ∧ vs.Nodup := ⟨_, rfl⟩
    refine W_for I (by rw [hI]; exact ⟨[], none, none, rfl, by simp, List.nodup_nil⟩) ?_ ?_
    · rintro i hi e he
      rw [hI] at he
      obtain ⟨vs, x2, x3, rfl, l, nd⟩ := he
      rw [range_get]
      rw [range_len] at hi
      have h0 : (0 : Int) ≤ 3 + (0 + (i : Int)) := by omega
      have h4' := h4 _ h0
      generalize (0 : Int) + (i : Int) = J at *
      simp [asgT]
      refine W_cons ?_
      simp [ex, ev, evs, evo, mkO, slot, R.bind, R.x, Opd.get, getsO, itR, itemsD, shares, noSlots, share, binD, cmpD, ixD, slD, R.opt, setV, intR, boolR, muD, preM, biD, lenD, callO, ioSlots, ioOk, putsO, flatD, lineD, W_nx, W_rt, W_bk, W_ct, hio4, hio6, h4', h6]
      generalize lv (gd ns (3 + J)) = y
      refine W_cons ?_
      have hl : vs.length < 16777216 := by omega
      simp [ex, ev, evs, evo, mkO, slot, R.bind, R.x, Opd.get, getsO, itR, itemsD, shares, noSlots, share, binD, cmpD, ixD, slD, R.opt, setV, intR, boolR, muD, preM, biD, lenD, callO, ioSlots, ioOk, putsO, flatD, lineD, W_nx, W_rt, W_bk, W_ct, memD_ints]
      by_cases hn : y ∈ vs
      · simp [hn]
        refine W_nil (W_nil ?_)
        rw [hI]
        exact ⟨vs, _, _, rfl, by omega, nd⟩
      · simp [hn]
        refine W_cons ?_
        simp [ex, ev, evs, evo, mkO, slot, R.bind, R.x, Opd.get, getsO, itR, itemsD, shares, noSlots, share, binD, cmpD, ixD, slD, R.opt, setV, intR, boolR, muD, preM, biD, lenD, callO, ioSlots, ioOk, putsO, flatD, lineD, W_nx, W_rt, W_bk, W_ct, hl]
        refine W_nil (W_nil ?_)
        rw [hI]
        refine ⟨vs ++ [y], some ⟨.int J, false⟩, some ⟨.int y, false⟩, by simp, by simp; omega, ?_⟩
        rw [List.nodup_append]
        exact ⟨nd, by simp, fun a ha b hb => by simp at hb; subst hb; exact fun z => hn (z ▸ ha)⟩
    · rintro e he
      rw [hI] at he
      obtain ⟨vs, x2, x3, rfl, l, nd⟩ := he
      rw [range_len] at l
      refine W_cons ?_
      simp [ex, ev, evs, evo, mkO, slot, R.bind, R.x, Opd.get, getsO, itR, itemsD, shares, noSlots, share, binD, cmpD, ixD, slD, R.opt, setV, intR, boolR, muD, preM, biD, lenD, callO, ioSlots, ioOk, putsO, flatD, lineD, W_nx, W_rt, W_bk, W_ct]
      rw [hP]
      exact ⟨vs, by omega, nd, rfl⟩
  rw [hP] at key
  obtain ⟨v, ⟨vs, h1, h2, rfl⟩, h⟩ := key
  exact ⟨vs, h1, h2, h⟩
end K16
namespace K16
open PySem MT
def GoodD (kvs : List (L2.Key × D)) : Prop := (kvs.map (·.1)).Nodup ∧ ∀ p ∈ kvs, ∃ n : Int, p.2 = .int n
theorem putA_in {kvs : List (L2.Key × D)} {k : L2.Key} {v : D} (h : k ∈ kvs.map (·.1)) : putA kvs k v = kvs.map fun p => if p.1 = k then (p.1, v) else p := by
  unfold putA
  rw [if_pos]
  obtain ⟨p, hp, e⟩ := List.mem_map.mp h
  exact List.any_eq_true.mpr ⟨p, hp, decide_eq_true e⟩
theorem putA_out {kvs : List (L2.Key × D)} {k : L2.Key} {v : D} (h : k ∉ kvs.map (·.1)) : putA kvs k v = kvs ++ [(k, v)] := by
  unfold putA
  rw [if_neg]
  intro z
  obtain ⟨p, hp, e⟩ := List.any_eq_true.mp z
  exact h (List.mem_map.mpr ⟨p, hp, of_decide_eq_true e⟩)
theorem putA_good {kvs : List (L2.Key × D)} {k : L2.Key} {n : Int} (h : GoodD kvs) : GoodD (putA kvs k (.int n)) := by
  by_cases hk : k ∈ kvs.map (·.1)
  · rw [putA_in hk]
    constructor
    · rw [List.map_map]
      have : (fun p : L2.Key × D => p.1) ∘ (fun p : L2.Key × D => if p.1 = k then (p.1, D.int n) else p) = fun p => p.1 := by
        funext p
        simp only [Function.comp]
        split <;> rfl
      rw [this]
      exact h.1
    · intro p hp
      obtain ⟨q, hq, rfl⟩ := List.mem_map.mp hp
      split
      · exact ⟨n, rfl⟩
      · exact h.2 q hq
  · rw [putA_out hk]
    constructor
    · rw [List.map_append, List.nodup_append]
      exact ⟨h.1, by simp, fun a ha b hb => by simp at hb; subst hb; exact fun z => hk (z ▸ ha)⟩
    · intro p hp
      rcases List.mem_append.mp hp with hp | hp
      · exact h.2 p hp
      · simp at hp; subst hp; exact ⟨n, rfl⟩
theorem putA_len {kvs : List (L2.Key × D)} {k : L2.Key} {v : D} : (putA kvs k v).length ≤ kvs.length + 1 := by
  unfold putA
  split <;> simp
theorem getA_map_ne {k k' : L2.Key} (v : D) (h : k ≠ k') : ∀ kvs : List (L2.Key × D), getA (kvs.map fun p => if p.1 = k then (p.1, v) else p) k' = getA kvs k'
  | [] => rfl
  | p :: r => by
    have ih := getA_map_ne v h r
    rw [List.map_cons]
    unfold getA
    by_cases h1 : p.1 = k
    · rw [if_pos h1]
      simp only
      rw [if_neg fun z => h (h1.symm.trans z), if_neg fun z => h (h1.symm.trans z), ih]
    · rw [if_neg h1, ih]
theorem getA_map_eq {k : L2.Key} (v : D) : ∀ kvs : List (L2.Key × D), k ∈ kvs.map (·.1) → getA (kvs.map fun p => if p.1 = k then (p.1, v) else p) k = some v
  | [], h => by cases h
  | p :: r, h => by
    rw [List.map_cons]
    unfold getA
    by_cases h1 : p.1 = k
    · rw [if_pos h1]
      simp only
      rw [if_pos h1]
    · rw [if_neg h1, if_neg h1]
      rw [List.map_cons] at h
      rcases List.mem_cons.mp h with z | z
      · exact absurd z.symm h1
      · exact getA_map_eq v r z
theorem getA_app (k : L2.Key) (v : D) (k' : L2.Key) : ∀ kvs : List (L2.Key × D), k ∉ kvs.map (·.1) → getA (kvs ++ [(k, v)]) k' = if k = k' then some v else getA kvs k'
  | [], _ => by simp [getA]
  | p :: r, h => by
    rw [List.map_cons, List.mem_cons, not_or] at h
    have ih := getA_app k v k' r h.2
    rw [List.cons_append]
    unfold getA
    by_cases h1 : p.1 = k'
    · rw [if_pos h1, if_pos h1, if_neg fun z => h.1 (z.trans h1.symm)]
    · rw [if_neg h1, if_neg h1, ih]
theorem getA_putA (kvs : List (L2.Key × D)) (k : L2.Key) (v : D) (k' : L2.Key) : getA (putA kvs k v) k' = if k = k' then some v else getA kvs k' := by
  by_cases h : k ∈ kvs.map (·.1)
  · rw [putA_in h]
    by_cases e : k = k'
    · subst e; rw [if_pos rfl, getA_map_eq v _ h]
    · rw [if_neg e, getA_map_ne v e]
  · rw [putA_out h, getA_app _ _ _ _ h]
theorem eqD_nil (vs : List Int) : eqD (.lst (vs.map .int)) (.lst []) = some vs.isEmpty := by
  cases vs with
  | nil => rfl
  | cons v vs => rfl
theorem atI_nat {xs : List D} {i : Int} (h0 : 0 ≤ i) (h1 : i < xs.length) : L2.atI xs i = xs[i.toNat]? := by
  unfold L2.atI L2.ixN
  rw [if_pos h0, if_pos h1]
  rfl
theorem atI_ints {vs : List Int} {i : Int} (h0 : 0 ≤ i) (h1 : i < vs.length) : ∃ n, L2.atI (vs.map D.int) i = some (.int n) := by
  rw [atI_nat h0 (by simpa using h1), List.getElem?_map, List.getElem?_eq_getElem (by omega)]
  exact ⟨_, rfl⟩
theorem atI_strs {vs : List Str} {i : Int} (h0 : 0 ≤ i) (h1 : i < vs.length) : L2.atI (vs.map D.str) i = some (.str (vs[i.toNat]'(by omega))) := by
  rw [atI_nat h0 (by simpa using h1), List.getElem?_map, List.getElem?_eq_getElem (by omega)]
  rfl
theorem filling_run {Φ : CT} (ns : List Int) (start : Int) (hst : 0 ≤ start) (a b c d : Str) (gaps : List Str) (nd : gaps.Nodup) (hg : gaps.length ≤ 3) (vals : List Int) (hio4 : Φ.io 4 = []) (hio6 : Φ.io 6 = []) (h4 : ∀ k : Int, 0 ≤ k → Φ.call 4 [.scr ns, .int k] = .ok ⟨.int (gd ns k), false⟩ []) (lv : Int → Int) (h6 : ∀ c, Φ.call 6 [.int c] = .ok ⟨.int (lv c), false⟩ []) :
    ∃ kvs, GoodD kvs ∧ (∀ g ∈ gaps, ∃ n : Int, getA kvs (.inr g) = some (.int n)) ∧ kvs.length ≤ 4 ∧ runDef Φ fi8 [.scr ns, .int start, .lst [.str a, .str b, .str c, .str d], .lst (gaps.map .str), .lst (vals.map .int)] = .ok ⟨.dK kvs, true⟩ [] := by
  obtain ⟨P, hP⟩ : ∃ P : Val → Prop, P = fun v => ∃ kvs, GoodD kvs ∧ (∀ g ∈ gaps, ∃ n : Int, getA kvs (.inr g) = some (.int n)) ∧ kvs.length ≤ 4 ∧ v = ⟨.dK kvs, true⟩ := ⟨_, rfl⟩
  have key : ∃ v, P v ∧ runDef Φ fi8 [.scr ns, .int start, .lst [.str a, .str b, .str c, .str d], .lst (gaps.map .str), .lst (vals.map .int)] = .ok v [] := by
    refine run_ex rfl rfl (by decide) ?_
    have e0 : argsE [] [.scr ns, .int start, .lst [.str a, .str b, .str c, .str d], .lst (gaps.map .str), .lst (vals.map .int)] ++ List.replicate (fi8.nsl - fi8.nps) none = [some ⟨.scr ns, false⟩, some ⟨.int start, false⟩, some ⟨.lst [.str a, .str b, .str c, .str d], false⟩, some ⟨.lst (gaps.map .str), false⟩, some ⟨.lst (vals.map .int), false⟩, none, none, none] := rfl
    rw [e0]
    show (exs Φ [] ir8 _).W _ _ _ _
    have i3 : L2.atI [D.str a, .str b, .str c, .str d] 3 = some (.str d) := rfl
    have h43 := h4 (start + 3) (by omega)
    unfold ir8
    refine W_cons ?_
    simp [ex, ev, evs, evo, mkO, slot, R.bind, R.x, Opd.get, getsO, itR, itemsD, shares, noSlots, share, binD, cmpD, ixD, slD, R.opt, setV, intR, boolR, muD, preM, biD, lenD, callO, ioSlots, ioOk, putsO, flatD, lineD, W_nx, W_rt, W_bk, W_ct, i3, hio4, hio6, h43, h6, pairsD, keyD, setA]
    generalize lv (gd ns (start + 3)) = y0
    refine W_cons ?_
    have hit := it_rangelen (Φ := Φ) (io := []) (i := 3) (xs := gaps.map D.str) (o := false) (e := [some ⟨.scr ns, false⟩, some ⟨.int start, false⟩, some ⟨.lst [.str a, .str b, .str c, .str d], false⟩, some ⟨.lst (gaps.map .str), false⟩, some ⟨.lst (vals.map .int), false⟩, some ⟨.dK [(.inr d, .int y0)], true⟩, none, none]) rfl (by rw [List.length_map]; omega)
    rw [List.length_map] at hit
    refine W_loop hit ?_
    obtain ⟨I, hI⟩ : ∃ I : Nat → MT.Env → Prop, I = fun i e => ∃ (kvs : List (L2.Key × D)) (x6 x7 : Option Val), e = [some ⟨.scr ns, false⟩, some ⟨.int start, false⟩, some ⟨.lst [.str a, .str b, .str c, .str d], false⟩, some ⟨.lst (gaps.map .str), false⟩, some ⟨.lst (vals.map .int), false⟩, some ⟨.dK kvs, true⟩, x6, x7] ∧
      GoodD kvs ∧ kvs.length ≤ i + 1 ∧ ∀ (j : Nat) (hj : j < gaps.length), j < i → ∃ n : Int, getA kvs (.inr gaps[j]) = some (.int n) := ⟨_, rfl⟩
    refine W_for I (by rw [hI]; exact ⟨[(.inr d, .int y0)], none, none, rfl, ⟨by simp, by simp⟩, by simp, fun j hj h => by omega⟩) ?_ ?_
    · rintro i hi e he
      rw [hI] at he
      obtain ⟨kvs, x6, x7, rfl, gd1, kl, inv⟩ := he
      rw [range_get]
      rw [range_len] at hi
      have J0 : (0 : Int) ≤ 0 + (i : Int) := by omega
      have J1 : (0 : Int) + (i : Int) < gaps.length := by omega
      have hat := atI_strs (vs := gaps) J0 J1
      have hti : ((0 : Int) + (i : Int)).toNat = i := by omega
      simp only [hti] at hat
      have h4' := h4 (start + (0 + (i : Int))) (by omega)
      have hkl : kvs.length < 16777216 := by omega
      -- a value is put
      have put_ok : ∀ y : Int, (x6' x7' : Option Val) → I (i + 1) [some ⟨.scr ns, false⟩, some ⟨.int start, false⟩, some ⟨.lst [.str a, .str b, .str c, .str d], false⟩, some ⟨.lst (gaps.map .str), false⟩, some ⟨.lst (vals.map .int), false⟩, some ⟨.dK (putA kvs (.inr gaps[i]) (.int y)), true⟩, x6', x7'] := fun y x6' x7' => by
        rw [hI]
        refine ⟨_, _, _, rfl, putA_good gd1, by have := putA_len (kvs := kvs) (k := .inr gaps[i]) (v := .int y); omega, fun j hj hlt => ?_⟩
        rw [getA_putA]
        by_cases e : (Sum.inr gaps[i] : L2.Key) = .inr gaps[j]
        · rw [if_pos e]; exact ⟨_, rfl⟩
        · rw [if_neg e]
          refine inv j hj ?_
          rcases Nat.lt_or_ge j i with h | h
          · exact h
          · have : j = i := by omega
            subst this
            exact absurd rfl e
      have hJi : (0 : Int) + (i : Int) = i := by omega
      generalize hJ : (0 : Int) + (i : Int) = J at *
      simp [asgT]
      refine W_cons ?_
      simp [ex, ev, evs, evo, mkO, slot, R.bind, R.x, Opd.get, getsO, itR, itemsD, shares, noSlots, share, binD, cmpD, ixD, slD, R.opt, setV, intR, boolR, muD, preM, biD, lenD, callO, ioSlots, ioOk, putsO, flatD, lineD, W_nx, W_rt, W_bk, W_ct, hio4, h4']
      generalize gd ns (start + J) = cell
      refine W_cons ?_
      simp [ex, ev, evs, evo, mkO, slot, R.bind, R.x, Opd.get, getsO, itR, itemsD, shares, noSlots, share, binD, cmpD, ixD, slD, R.opt, setV, intR, boolR, muD, preM, biD, lenD, callO, ioSlots, ioOk, putsO, flatD, lineD, W_nx, W_rt, W_bk, W_ct, eqD_int, eqD_nil]
      have third : (exs Φ [] (.cons (.put 5 (.ix (.var 3) (.var 6)) (.call 6 (.cons (.bin .FloorDiv (.var 7) (.cst (.int 3))) .nil))) .nil) [some ⟨.scr ns, false⟩, some ⟨.int start, false⟩, some ⟨.lst [.str a, .str b, .str c, .str d], false⟩, some ⟨.lst (gaps.map .str), false⟩, some ⟨.lst (vals.map .int), false⟩, some ⟨.dK kvs, true⟩, some ⟨.int J, false⟩, some ⟨.int cell, false⟩]).W (I (i + 1)) (fun w _ => P w) nope nope := by
        refine W_cons ?_
        simp [ex, ev, evs, evo, mkO, slot, R.bind, R.x, Opd.get, getsO, itR, itemsD, shares, noSlots, share, binD, cmpD, ixD, slD, R.opt, setV, intR, boolR, muD, preM, biD, lenD, callO, ioSlots, ioOk, putsO, flatD, lineD, W_nx, W_rt, W_bk, W_ct, lt2000, hio6, h6, hat, keyD, hkl]
        exact W_nil (put_ok _ _ _)
      have second : (exs Φ [] (.cons (.ite (.and (.cmp .Eq (.bin .Mod (.var 7) (.cst (.int 3))) (.cst (.int 1))) (.cmp .Gt (.var 6) (.cst (.int 0)))) (.cons (.put 5 (.ix (.var 3) (.var 6)) (.ix (.var 5) (.ix (.var 3) (.bin .Mod (.bin .FloorDiv (.var 7) (.cst (.int 3))) (.var 6))))) .nil) (.cons (.put 5 (.ix (.var 3) (.var 6)) (.call 6 (.cons (.bin .FloorDiv (.var 7) (.cst (.int 3))) .nil))) .nil)) .nil) [some ⟨.scr ns, false⟩, some ⟨.int start, false⟩, some ⟨.lst [.str a, .str b, .str c, .str d], false⟩, some ⟨.lst (gaps.map .str), false⟩, some ⟨.lst (vals.map .int), false⟩, some ⟨.dK kvs, true⟩, some ⟨.int J, false⟩, some ⟨.int cell, false⟩]).W (I (i + 1)) (fun w _ => P w) nope nope := by
        refine W_cons ?_
        simp [ex, ev, evs, evo, mkO, slot, R.bind, R.x, Opd.get, getsO, itR, itemsD, shares, noSlots, share, binD, cmpD, ixD, slD, R.opt, setV, intR, boolR, muD, preM, biD, lenD, callO, ioSlots, ioOk, putsO, flatD, lineD, W_nx, W_rt, W_bk, W_ct, eqD_int]
        by_cases c1 : cell % 3 = 1
        · by_cases c2 : 0 < J
          · have q0 : 0 ≤ cell / 3 % J := Int.emod_nonneg _ (by omega)
            have q1 : cell / 3 % J < J := Int.emod_lt_of_pos _ c2
            have hat2 := atI_strs (vs := gaps) q0 (by omega)
            obtain ⟨n, hn⟩ := inv (cell / 3 % J).toNat (by omega) (by omega)
            simp [c1, c2]
            refine W_cons ?_
            simp [ex, ev, evs, evo, mkO, slot, R.bind, R.x, Opd.get, getsO, itR, itemsD, shares, noSlots, share, binD, cmpD, ixD, slD, R.opt, setV, intR, boolR, muD, preM, biD, lenD, callO, ioSlots, ioOk, putsO, flatD, lineD, W_nx, W_rt, W_bk, W_ct, lt2000, hat, hat2, c2, keyD, hn, hkl]
            exact W_nil (W_nil (put_ok _ _ _))
          · simp [c1, c2]
            exact third.imp (fun _ h => W_nil h) (fun _ _ h => h) (fun _ h => h.elim) (fun _ h => h.elim)
        · simp [c1]
          exact third.imp (fun _ h => W_nil h) (fun _ _ h => h) (fun _ h => h.elim) (fun _ h => h.elim)
      by_cases c0 : cell % 3 = 0
      · cases hv : vals.isEmpty with
        | false =>
          have vl : 0 < (vals.length : Int) := by
            cases vals with
            | nil => cases hv
            | cons v vs => simp only [List.length_cons]; omega
          have q0 : 0 ≤ cell / 3 % (vals.length : Int) := Int.emod_nonneg _ (by omega)
          have q1 : cell / 3 % (vals.length : Int) < vals.length := Int.emod_lt_of_pos _ vl
          obtain ⟨n, hn⟩ := atI_ints (vs := vals) q0 q1
          clear q0 q1
          obtain ⟨Lv, hLv⟩ : ∃ Lv : Int, (vals.length : Int) = Lv := ⟨_, rfl⟩
          rw [hLv] at vl hn
          simp [c0, hv]
          refine W_cons ?_
          simp [ex, ev, evs, evo, mkO, slot, R.bind, R.x, Opd.get, getsO, itR, itemsD, shares, noSlots, share, binD, cmpD, ixD, slD, R.opt, setV, intR, boolR, muD, preM, biD, lenD, callO, ioSlots, ioOk, putsO, flatD, lineD, W_nx, W_rt, W_bk, W_ct, lt2000, hat, hLv, vl, hn, keyD, hkl]
          exact W_nil (W_nil (put_ok _ _ _))
        | true =>
          simp [c0, hv]
          exact second.imp (fun _ h => W_nil h) (fun _ _ h => h) (fun _ h => h.elim) (fun _ h => h.elim)
      · simp [c0]
        exact second.imp (fun _ h => W_nil h) (fun _ _ h => h) (fun _ h => h.elim) (fun _ h => h.elim)
    · rintro e he
      rw [hI] at he
      obtain ⟨kvs, x6, x7, rfl, gd1, kl, inv⟩ := he
      rw [range_len] at kl inv
      refine W_cons ?_
      simp [ex, ev, evs, evo, mkO, slot, R.bind, R.x, Opd.get, getsO, itR, itemsD, shares, noSlots, share, binD, cmpD, ixD, slD, R.opt, setV, intR, boolR, muD, preM, biD, lenD, callO, ioSlots, ioOk, putsO, flatD, lineD, W_nx, W_rt, W_bk, W_ct]
      rw [hP]
      refine ⟨kvs, gd1, fun g hg => ?_, by omega, rfl⟩
      obtain ⟨j, hj, rfl⟩ := List.getElem_of_mem hg
      exact inv j hj hj
  rw [hP] at key
  obtain ⟨v, ⟨kvs, h1, h2, h3, rfl⟩, h⟩ := key
  exact ⟨kvs, h1, h2, h3, h⟩
end K16
namespace K16
open PySem MT
theorem lalike_run {Φ : CT} (gaps : List Str) (vs : List Int) (one other : List (L2.Key × D)) (f g : Str → Int) (h1 : Has one gaps f) (h2 : Has other gaps g) :
    runDef Φ fi9 [.lst (gaps.map .str), .lst (vs.map .int), .dK one, .dK other] = .ok ⟨.bl (decide (AL gaps vs f g)), false⟩ [] := by
  refine run_of rfl rfl (by decide) ?_
  have e0 : argsE [] [.lst (gaps.map .str), .lst (vs.map .int), .dK one, .dK other] ++ List.replicate (fi9.nsl - fi9.nps) none = [some ⟨.lst (gaps.map .str), false⟩, some ⟨.lst (vs.map .int), false⟩, some ⟨.dK one, false⟩, some ⟨.dK other, false⟩, none, none, none] := rfl
  rw [e0]
  show (exs Φ [] ir9 _).W _ _ _ _
  generalize hb : decide (AL gaps vs f g) = b
  have bad : ¬ AL gaps vs f g → b = false := fun h => by rw [← hb]; exact decide_eq_false h
  have good : AL gaps vs f g → b = true := fun h => by rw [← hb]; exact decide_eq_true h
  unfold ir9
  refine W_cons ?_
  simp [ex, ev, evs, evo, mkO, slot, R.bind, R.x, Opd.get, getsO, itR, itemsD, shares, noSlots, share, binD, cmpD, ixD, slD, R.opt, setV, intR, boolR, muD, preM, biD, lenD, callO, ioSlots, ioOk, putsO, flatD, lineD, W_nx, W_rt, W_bk, W_ct]
  refine W_for (fun i e => ∃ x4 x5 x6, e = [some ⟨.lst (gaps.map .str), false⟩, some ⟨.lst (vs.map .int), false⟩, some ⟨.dK one, false⟩, some ⟨.dK other, false⟩, x4, x5, x6] ∧ ∀ (j : Nat) (hj : j < gaps.length), j < i → (∀ v ∈ vs, (f gaps[j] = v ↔ g gaps[j] = v)) ∧ ∀ (l : Nat) (hl : l < gaps.length), (f gaps[j] = f gaps[l] ↔ g gaps[j] = g gaps[l]))
    ⟨_, _, _, rfl, fun j hj h => by omega⟩ ?_ ?_
  · rintro i hi e ⟨x4, x5, x6, rfl, hI⟩
    rw [List.length_map] at hi
    rw [List.getElem_map]
    have m1 : gaps[i] ∈ gaps := List.getElem_mem hi
    simp [asgT]
    refine W_cons ?_
    simp [ex, ev, evs, evo, mkO, slot, R.bind, R.x, Opd.get, getsO, itR, itemsD, shares, noSlots, share, binD, cmpD, ixD, slD, R.opt, setV, intR, boolR, muD, preM, biD, lenD, callO, ioSlots, ioOk, putsO, flatD, lineD, W_nx, W_rt, W_bk, W_ct]
    refine W_for (fun m e => ∃ x5, e = [some ⟨.lst (gaps.map .str), false⟩, some ⟨.lst (vs.map .int), false⟩, some ⟨.dK one, false⟩, some ⟨.dK other, false⟩, some ⟨.str gaps[i], false⟩, x5, x6] ∧ ∀ (j : Nat) (hj : j < vs.length), j < m → (f gaps[i] = vs[j] ↔ g gaps[i] = vs[j])) ⟨_, rfl, fun j hj h => by omega⟩ ?_ ?_
    · rintro m hm e ⟨x5, rfl, hJ⟩
      rw [List.length_map] at hm
      rw [List.getElem_map]
      simp [asgT]
      refine W_cons ?_
      have g1 := h1 _ m1
      have g2 := h2 _ m1
      simp [ex, ev, evs, evo, mkO, slot, R.bind, R.x, Opd.get, getsO, itR, itemsD, shares, noSlots, share, binD, cmpD, ixD, slD, R.opt, setV, intR, boolR, muD, preM, biD, lenD, callO, ioSlots, ioOk, putsO, flatD, lineD, W_nx, W_rt, W_bk, W_ct, keyD, g1, g2, eqD_int, eqD_bl]
      cases hq : ((f gaps[i] == vs[m]) == (g gaps[i] == vs[m])) with
      | false =>
        have hb : b = false := bad fun h => by
          have := (h _ m1).1 vs[m] (List.getElem_mem hm)
          rw [(beq_iff _ _ _ _).mpr this] at hq
          cases hq
        simp [exs, ex, ev, evs, evo, mkO, slot, R.bind, R.x, Opd.get, getsO, itR, itemsD, shares, noSlots, share, binD, cmpD, ixD, slD, R.opt, setV, intR, boolR, muD, preM, biD, lenD, callO, ioSlots, ioOk, putsO, flatD, lineD, W_nx, W_rt, W_bk, W_ct, hb]
      | true =>
        simp only [Bool.not_true]
        refine W_nil (W_nil ⟨⟨_, rfl⟩, fun j hj hlt => ?_⟩)
        rcases Nat.lt_or_ge j m with h | h
        · exact hJ j hj h
        · have : j = m := by omega
          subst this
          exact (beq_iff _ _ _ _).mp hq
    · rintro e ⟨x5, rfl, hJ⟩
      rw [List.length_map] at hJ
      refine W_cons ?_
      simp [ex, ev, evs, evo, mkO, slot, R.bind, R.x, Opd.get, getsO, itR, itemsD, shares, noSlots, share, binD, cmpD, ixD, slD, R.opt, setV, intR, boolR, muD, preM, biD, lenD, callO, ioSlots, ioOk, putsO, flatD, lineD, W_nx, W_rt, W_bk, W_ct]
      refine W_for (fun m e => ∃ x6, e = [some ⟨.lst (gaps.map .str), false⟩, some ⟨.lst (vs.map .int), false⟩, some ⟨.dK one, false⟩, some ⟨.dK other, false⟩, some ⟨.str gaps[i], false⟩, x5, x6] ∧ ∀ (l : Nat) (hl : l < gaps.length), l < m → (f gaps[i] = f gaps[l] ↔ g gaps[i] = g gaps[l])) ⟨_, rfl, fun j hj h => by omega⟩ ?_ ?_
      · rintro m hm e ⟨x6, rfl, hL⟩
        rw [List.length_map] at hm
        rw [List.getElem_map]
        have hml := hm
        simp [asgT]
        refine W_cons ?_
        have g1 := h1 _ m1
        have g2 := h2 _ m1
        have m2 : gaps[m] ∈ gaps := List.getElem_mem hml
        have g3 := h1 _ m2
        have g4 := h2 _ m2
        simp [ex, ev, evs, evo, mkO, slot, R.bind, R.x, Opd.get, getsO, itR, itemsD, shares, noSlots, share, binD, cmpD, ixD, slD, R.opt, setV, intR, boolR, muD, preM, biD, lenD, callO, ioSlots, ioOk, putsO, flatD, lineD, W_nx, W_rt, W_bk, W_ct, keyD, g1, g2, g3, g4, eqD_int, eqD_bl]
        cases hq : ((f gaps[i] == f gaps[m]) == (g gaps[i] == g gaps[m])) with
        | false =>
          have hb : b = false := bad fun h => by
            have := (h _ m1).2 _ m2
            rw [(beq_iff _ _ _ _).mpr this] at hq
            cases hq
          simp [exs, ex, ev, evs, evo, mkO, slot, R.bind, R.x, Opd.get, getsO, itR, itemsD, shares, noSlots, share, binD, cmpD, ixD, slD, R.opt, setV, intR, boolR, muD, preM, biD, lenD, callO, ioSlots, ioOk, putsO, flatD, lineD, W_nx, W_rt, W_bk, W_ct, hb]
        | true =>
          simp only [Bool.not_true]
          refine W_nil (W_nil ⟨⟨_, rfl⟩, fun j hj hlt => ?_⟩)
          rcases Nat.lt_or_ge j m with h | h
          · exact hL j hj h
          · have : j = m := by omega
            subst this
            exact (beq_iff _ _ _ _).mp hq
      · rintro e ⟨x6, rfl, hL⟩
        refine W_nil ⟨⟨_, _, _, rfl⟩, fun j hj hlt => ?_⟩
        rcases Nat.lt_or_ge j i with h | h
        · exact hI j hj h
        · have : j = i := by omega
          subst this
          refine ⟨fun v hv => ?_, fun l hl => hL l hl (by simpa using hl)⟩
          obtain ⟨n, hn, rfl⟩ := List.getElem_of_mem hv
          exact hJ n hn hn
  · rintro e ⟨x4, x5, x6, rfl, hI⟩
    rw [List.length_map] at hI
    have hb : b = true := good fun a ha => by
      obtain ⟨j, hj, rfl⟩ := List.getElem_of_mem ha
      refine ⟨(hI j hj hj).1, fun c hc => ?_⟩
      obtain ⟨l, hl, rfl⟩ := List.getElem_of_mem hc
      exact (hI j hj hj).2 l hl
    refine W_cons ?_
    simp [ex, ev, evs, evo, mkO, slot, R.bind, R.x, Opd.get, getsO, itR, itemsD, shares, noSlots, share, binD, cmpD, ixD, slD, R.opt, setV, intR, boolR, muD, preM, biD, lenD, callO, ioSlots, ioOk, putsO, flatD, lineD, W_nx, W_rt, W_bk, W_ct, hb]
end K16
namespace K16
open PySem MT
theorem eqL_refl {f : D → D → Option Bool} : ∀ xs : List D, (∀ x ∈ xs, f x x = some true) → eqL f xs xs = some true
  | [], _ => rfl
  | x :: xs, h => by
    unfold eqL
    rw [h x List.mem_cons_self, eqL_refl xs fun y hy => h y (List.mem_cons_of_mem _ hy)]
    rfl
theorem getA_self : ∀ {kvs : List (L2.Key × D)}, (kvs.map (·.1)).Nodup → ∀ p ∈ kvs, getA kvs p.1 = some p.2
  | [], _, p, h => by cases h
  | q :: r, nd, p, h => by
    rw [List.map_cons, List.nodup_cons] at nd
    unfold getA
    rcases List.mem_cons.mp h with rfl | h
    · rw [if_pos rfl]
    · rw [if_neg fun z => nd.1 (List.mem_map.mpr ⟨p, h, z.symm⟩)]
      exact getA_self nd.2 p h
theorem eqK_refl {f : D → D → Option Bool} {ys : List (L2.Key × D)} : ∀ xs : List (L2.Key × D), (∀ p ∈ xs, getA ys p.1 = some p.2 ∧ f p.2 p.2 = some true) → eqK f xs ys = some true
  | [], _ => rfl
  | p :: r, h => by
    unfold eqK
    rw [(h p List.mem_cons_self).1]
    show (f p.2 p.2).bind _ = _
    rw [(h p List.mem_cons_self).2, eqK_refl r fun q hq => h q (List.mem_cons_of_mem _ hq)]
    rfl
theorem eqN_int (n : Nat) (i : Int) : eqN n (.int i) (.int i) = some true := by
  cases n <;> (show some (i == i) = some true; rw [beq_self_eq_true])
theorem eqN_str (n : Nat) (i : Str) : eqN n (.str i) (.str i) = some true := by
  cases n <;> (show some (i == i) = some true; rw [beq_self_eq_true])
theorem eqN_lst {n : Nat} {xs : List D} (h : ∀ x ∈ xs, eqN n x x = some true) : eqN (n + 1) (.lst xs) (.lst xs) = some true := by
  show (if xs.length = xs.length then eqL (eqN n) xs xs else some false) = _
  rw [if_pos rfl]
  exact eqL_refl xs h
theorem eqN_dict {n : Nat} {kvs : List (L2.Key × D)} (h : GoodD kvs) : eqN (n + 1) (.dK kvs) (.dK kvs) = some true := by
  show (eqK (eqN n) kvs kvs).map (fun b => kvs.length == kvs.length && b) = _
  rw [eqK_refl kvs fun p hp => ⟨getA_self h.1 p hp, by obtain ⟨i, e⟩ := h.2 p hp; rw [e]; exact eqN_int n i⟩]
  simp
theorem eqD_handed (gaps : List Str) (vs : List Int) {t f : List (L2.Key × D)} (ht : GoodD t) (hf : GoodD f) :
    eqD (.lst [.lst (gaps.map .str), .lst (vs.map .int), .dK t, .dK f]) (.lst [.lst (gaps.map .str), .lst (vs.map .int), .dK t, .dK f]) = some true := by
  unfold eqD
  refine eqN_lst (n := 49) fun x hx => ?_
  simp only [List.mem_cons, List.not_mem_nil, or_false] at hx
  rcases hx with rfl | rfl | rfl | rfl
  · refine eqN_lst (n := 48) fun y hy => ?_
    obtain ⟨z, _, rfl⟩ := List.mem_map.mp hy
    exact eqN_str _ _
  · refine eqN_lst (n := 48) fun y hy => ?_
    obtain ⟨z, _, rfl⟩ := List.mem_map.mp hy
    exact eqN_int _ _
  · exact eqN_dict (n := 48) ht
  · exact eqN_dict (n := 48) hf
def fOf (kvs : List (L2.Key × D)) (a : Str) : Int := match getA kvs (.inr a) with
  | some (.int n) => n
  | _ => 0
def Ok (gaps : List Str) (kvs : List (L2.Key × D)) : Prop := GoodD kvs ∧ ∀ g ∈ gaps, ∃ n : Int, getA kvs (.inr g) = some (.int n)
theorem Ok.has {gaps : List Str} {kvs : List (L2.Key × D)} (h : Ok gaps kvs) : Has kvs gaps (fOf kvs) := fun a ha => by
  obtain ⟨n, hn⟩ := h.2 a ha
  unfold fOf
  rw [hn]
theorem AL_symm {gaps : List Str} {vs : List Int} {f g : Str → Int} : AL gaps vs f g ↔ AL gaps vs g f :=
  ⟨fun h a ha => ⟨fun v hv => ((h a ha).1 v hv).symm, fun b hb => ((h a ha).2 b hb).symm⟩, fun h a ha => ⟨fun v hv => ((h a ha).1 v hv).symm, fun b hb => ((h a ha).2 b hb).symm⟩⟩
theorem AL_refl {gaps : List Str} {vs : List Int} {f : Str → Int} : AL gaps vs f f := fun a ha => ⟨fun v hv => Iff.rfl, fun b hb => Iff.rfl⟩
theorem atI_dicts {ts : List (List (L2.Key × D))} {i : Int} (h0 : 0 ≤ i) (h1 : i < ts.length) : L2.atI (ts.map D.dK) i = some (.dK (ts[i.toNat]'(by omega))) := by
  rw [atI_nat h0 (by simpa using h1), List.getElem?_map, List.getElem?_eq_getElem (by omega)]
  rfl
theorem a40 (x y z w : D) : L2.atI [x, y, z, w] 0 = some x := rfl
theorem a41 (x y z w : D) : L2.atI [x, y, z, w] 1 = some y := rfl
theorem a42 (x y z w : D) : L2.atI [x, y, z, w] 2 = some z := rfl
theorem a43 (x y z w : D) : L2.atI [x, y, z, w] 3 = some w := rfl
theorem only_run {Φ : CT} (gaps : List Str) (vs : List Int) (ts : List (List (L2.Key × D))) (fil : List (L2.Key × D)) (hts : ∀ t ∈ ts, Ok gaps t) (hf : Ok gaps fil) (hlen : ts.length ≤ 1000) (k0 : Nat) (hk0 : k0 < ts.length) (uniq : ∀ (k : Nat) (h : k < ts.length), AL gaps vs (fOf ts[k]) (fOf fil) ↔ k = k0)
    (hio3 : Φ.io 3 = []) (hio9 : Φ.io 9 = []) (h3 : ∀ one other, Ok gaps one → Ok gaps other → Φ.call 3 [.lst (gaps.map .str), .lst (vs.map .int), .dK one, .dK other] = .ok ⟨.bl (decide (AL gaps vs (fOf one) (fOf other))), false⟩ [])
    (h9 : ∀ one other, Ok gaps one → Ok gaps other → Φ.call 9 [.lst (gaps.map .str), .lst (vs.map .int), .dK one, .dK other] = .ok ⟨.bl (decide (AL gaps vs (fOf one) (fOf other))), false⟩ []) :
    runDef Φ fi10 [.lst (gaps.map .str), .lst (vs.map .int), .lst (ts.map .dK), .dK fil] = .ok ⟨.int k0, false⟩ [] := by
  refine run_of rfl rfl (by decide) ?_
  have e0 : argsE [] [.lst (gaps.map .str), .lst (vs.map .int), .lst (ts.map .dK), .dK fil] ++ List.replicate (fi10.nsl - fi10.nps) none = [some ⟨.lst (gaps.map .str), false⟩, some ⟨.lst (vs.map .int), false⟩, some ⟨.lst (ts.map .dK), false⟩, some ⟨.dK fil, false⟩, none, none, none, none, none] := rfl
  rw [e0]
  show (exs Φ [] ir10 _).W _ _ _ _
  obtain ⟨K0, hK0⟩ : ∃ K0 : Int, (k0 : Int) = K0 := ⟨_, rfl⟩
  rw [hK0]
  unfold ir10
  refine W_cons ?_
  simp [ex, ev, evs, evo, mkO, slot, R.bind, R.x, Opd.get, getsO, itR, itemsD, shares, noSlots, share, binD, cmpD, ixD, slD, R.opt, setV, intR, boolR, muD, preM, biD, lenD, callO, ioSlots, ioOk, putsO, flatD, lineD, isTy, isiOk, noCls, W_nx, W_rt, W_bk, W_ct]
  refine W_cons ?_
  have hit := it_rangelen (Φ := Φ) (io := []) (i := 2) (xs := ts.map D.dK) (o := false) (e := [some ⟨.lst (gaps.map .str), false⟩, some ⟨.lst (vs.map .int), false⟩, some ⟨.lst (ts.map .dK), false⟩, some ⟨.dK fil, false⟩, some ⟨.lst [], true⟩, none, none, none, none]) rfl (by rw [List.length_map]; omega)
  rw [List.length_map] at hit
  refine W_loop hit ?_
  obtain ⟨I, hI⟩ : ∃ I : Nat → MT.Env → Prop, I = fun i e => ∃ (x5 x6 x7 x8 : Option Val), e = [some ⟨.lst (gaps.map .str), false⟩, some ⟨.lst (vs.map .int), false⟩, some ⟨.lst (ts.map .dK), false⟩, some ⟨.dK fil, false⟩, some ⟨.lst (if k0 < i then [.int K0] else []), true⟩, x5, x6, x7, x8] := ⟨_, rfl⟩
  refine W_for I (by rw [hI]; exact ⟨none, none, none, none, rfl⟩) ?_ ?_
  · rintro i hi e he
    rw [hI] at he
    obtain ⟨x5, x6, x7, x8, rfl⟩ := he
    rw [range_get]
    rw [range_len] at hi
    have J0 : (0 : Int) ≤ 0 + (i : Int) := by omega
    have J1 : (0 : Int) + (i : Int) < ts.length := by omega
    have hat := atI_dicts (ts := ts) J0 J1
    have hti : ((0 : Int) + (i : Int)).toNat = i := by omega
    simp only [hti] at hat
    have hti2 : ts[i] ∈ ts := List.getElem_mem hi
    have ok := hts _ hti2
    have c3 := h3 _ _ ok hf
    have c3b := h3 _ _ hf ok
    have c9 := h9 _ _ ok hf
    have hsym : decide (AL gaps vs (fOf fil) (fOf ts[i])) = decide (AL gaps vs (fOf ts[i]) (fOf fil)) := by
      rw [decide_eq_decide]; exact AL_symm
    rw [hsym] at c3b
    have hu := uniq i hi
    have hh := eqD_handed gaps vs ok.1 hf.1
    have hJk : (0 : Int) + (i : Int) = (i : Int) := by omega
    have hJ : i = k0 → (0 : Int) + (i : Int) = K0 := fun z => by rw [hJk, z, hK0]
    clear hJk
    generalize (0 : Int) + (i : Int) = J at *
    generalize ts[i] = t at *
    simp [asgT]
    refine W_cons ?_
    simp [ex, ev, evs, evo, mkO, slot, R.bind, R.x, Opd.get, getsO, itR, itemsD, shares, noSlots, share, binD, cmpD, ixD, slD, R.opt, setV, intR, boolR, muD, preM, biD, lenD, callO, ioSlots, ioOk, putsO, flatD, lineD, isTy, isiOk, noCls, W_nx, W_rt, W_bk, W_ct, hat]
    refine W_cons ?_
    simp [ex, ev, evs, evo, mkO, slot, R.bind, R.x, Opd.get, getsO, itR, itemsD, shares, noSlots, share, binD, cmpD, ixD, slD, R.opt, setV, intR, boolR, muD, preM, biD, lenD, callO, ioSlots, ioOk, putsO, flatD, lineD, isTy, isiOk, noCls, W_nx, W_rt, W_bk, W_ct, a40, a41, a42, a43, hio3, c3]
    refine W_cons ?_
    simp [ex, ev, evs, evo, mkO, slot, R.bind, R.x, Opd.get, getsO, itR, itemsD, shares, noSlots, share, binD, cmpD, ixD, slD, R.opt, setV, intR, boolR, muD, preM, biD, lenD, callO, ioSlots, ioOk, putsO, flatD, lineD, isTy, isiOk, noCls, W_nx, W_rt, W_bk, W_ct, hat, hh]
    refine W_nil ?_
    refine W_cons ?_
    simp [ex, ev, evs, evo, mkO, slot, R.bind, R.x, Opd.get, getsO, itR, itemsD, shares, noSlots, share, binD, cmpD, ixD, slD, R.opt, setV, intR, boolR, muD, preM, biD, lenD, callO, ioSlots, ioOk, putsO, flatD, lineD, isTy, isiOk, noCls, W_nx, W_rt, W_bk, W_ct, hat, hio3, c3b]
    refine W_cons ?_
    simp [ex, ev, evs, evo, mkO, slot, R.bind, R.x, Opd.get, getsO, itR, itemsD, shares, noSlots, share, binD, cmpD, ixD, slD, R.opt, setV, intR, boolR, muD, preM, biD, lenD, callO, ioSlots, ioOk, putsO, flatD, lineD, isTy, isiOk, noCls, W_nx, W_rt, W_bk, W_ct, eqD_bl]
    refine W_nil ?_
    refine W_cons ?_
    simp [ex, ev, evs, evo, mkO, slot, R.bind, R.x, Opd.get, getsO, itR, itemsD, shares, noSlots, share, binD, cmpD, ixD, slD, R.opt, setV, intR, boolR, muD, preM, biD, lenD, callO, ioSlots, ioOk, putsO, flatD, lineD, isTy, isiOk, noCls, W_nx, W_rt, W_bk, W_ct, hat, hio9, c9, eqD_bl]
    refine W_nil ?_
    refine W_cons ?_
    by_cases hk : i = k0
    · have hal := hu.mpr hk
      have hJ' := hJ hk
      have nk : ¬ k0 < i := by omega
      simp [ex, ev, evs, evo, mkO, slot, R.bind, R.x, Opd.get, getsO, itR, itemsD, shares, noSlots, share, binD, cmpD, ixD, slD, R.opt, setV, intR, boolR, muD, preM, biD, lenD, callO, ioSlots, ioOk, putsO, flatD, lineD, isTy, isiOk, noCls, W_nx, W_rt, W_bk, W_ct, hal, nk]
      refine W_cons ?_
      simp [ex, ev, evs, evo, mkO, slot, R.bind, R.x, Opd.get, getsO, itR, itemsD, shares, noSlots, share, binD, cmpD, ixD, slD, R.opt, setV, intR, boolR, muD, preM, biD, lenD, callO, ioSlots, ioOk, putsO, flatD, lineD, isTy, isiOk, noCls, W_nx, W_rt, W_bk, W_ct]
      refine W_nil (W_nil ?_)
      have ek : (if k0 < i + 1 then [D.int K0] else []) = [D.int J] := by rw [if_pos (by omega), hJ']
      rw [hI]
      simp only [ek]
      exact ⟨_, _, _, _, rfl⟩
    · have hal : ¬ AL gaps vs (fOf t) (fOf fil) := fun z => hk (hu.mp z)
      simp [ex, ev, evs, evo, mkO, slot, R.bind, R.x, Opd.get, getsO, itR, itemsD, shares, noSlots, share, binD, cmpD, ixD, slD, R.opt, setV, intR, boolR, muD, preM, biD, lenD, callO, ioSlots, ioOk, putsO, flatD, lineD, isTy, isiOk, noCls, W_nx, W_rt, W_bk, W_ct, hal]
      refine W_nil (W_nil ?_)
      have ek : (if k0 < i + 1 then [D.int K0] else []) = (if k0 < i then [D.int K0] else []) := by
        have : (k0 < i + 1) ↔ (k0 < i) := by omega
        by_cases h : k0 < i
        · rw [if_pos h, if_pos (this.mpr h)]
        · rw [if_neg h, if_neg fun z => h (this.mp z)]
      rw [hI]
      simp only [ek]
      exact ⟨_, _, _, _, rfl⟩
  · rintro e he
    rw [hI] at he
    obtain ⟨x5, x6, x7, x8, rfl⟩ := he
    rw [range_len, if_pos hk0]
    have c3 := h3 _ _ hf hf
    rw [decide_eq_true AL_refl] at c3
    refine W_cons ?_
    simp [ex, ev, evs, evo, mkO, slot, R.bind, R.x, Opd.get, getsO, itR, itemsD, shares, noSlots, share, binD, cmpD, ixD, slD, R.opt, setV, intR, boolR, muD, preM, biD, lenD, callO, ioSlots, ioOk, putsO, flatD, lineD, isTy, isiOk, noCls, W_nx, W_rt, W_bk, W_ct, eqD_int]
    refine W_nil ?_
    refine W_cons ?_
    simp [ex, ev, evs, evo, mkO, slot, R.bind, R.x, Opd.get, getsO, itR, itemsD, shares, noSlots, share, binD, cmpD, ixD, slD, R.opt, setV, intR, boolR, muD, preM, biD, lenD, callO, ioSlots, ioOk, putsO, flatD, lineD, isTy, isiOk, noCls, W_nx, W_rt, W_bk, W_ct, hio3, c3]
    refine W_nil ?_
    refine W_cons ?_
    simp [ex, ev, evs, evo, mkO, slot, R.bind, R.x, Opd.get, getsO, itR, itemsD, shares, noSlots, share, binD, cmpD, ixD, slD, R.opt, setV, intR, boolR, muD, preM, biD, lenD, callO, ioSlots, ioOk, putsO, flatD, lineD, isTy, isiOk, noCls, W_nx, W_rt, W_bk, W_ct, atI0]
end K16
namespace K16
open PySem MT
def One {α : Type} (l : List α) (p : α → Prop) : Prop := ∃ l1 a l2, l = l1 ++ a :: l2 ∧ p a ∧ (∀ x ∈ l1, ¬ p x) ∧ ∀ x ∈ l2, ¬ p x
theorem One.of {α : Type} {l : List α} {p : α → Prop} {k0 : Nat} (h : k0 < l.length) (hp : p l[k0]) (hn : ∀ (j : Nat) (hj : j < l.length), j ≠ k0 → ¬ p l[j]) : One l p := by
  refine ⟨l.take k0, l[k0], l.drop (k0 + 1), by rw [List.getElem_cons_drop, List.take_append_drop], hp, fun x hx => ?_, fun x hx => ?_⟩
  · obtain ⟨j, hj, rfl⟩ := List.getElem_of_mem hx
    rw [List.length_take] at hj
    rw [List.getElem_take]
    exact hn j (by omega) (by omega)
  · obtain ⟨j, hj, rfl⟩ := List.getElem_of_mem hx
    rw [List.length_drop] at hj
    rw [List.getElem_drop]
    exact hn _ (by omega) (by omega)
theorem One.idx {α : Type} {l : List α} {p : α → Prop} (h : One l p) : ∃ k0, k0 < l.length ∧ ∀ (k : Nat) (hk : k < l.length), p l[k] ↔ k = k0 := by
  obtain ⟨l1, a, l2, rfl, ha, h1, h2⟩ := h
  refine ⟨l1.length, by simp, fun k hk => ?_⟩
  rcases Nat.lt_trichotomy k l1.length with h | h | h
  · rw [List.getElem_append_left h]
    exact ⟨fun z => absurd z (h1 _ (List.getElem_mem h)), fun z => by omega⟩
  · subst h
    rw [List.getElem_append_right (Nat.le_refl _)]
    simp [ha]
  · rw [List.getElem_append_right (by omega)]
    have e : k - l1.length = (k - l1.length - 1) + 1 := by omega
    obtain ⟨m, hm⟩ : ∃ m, k - l1.length = m + 1 := ⟨_, e⟩
    simp only [hm, List.getElem_cons_succ]
    exact ⟨fun z => absurd z (h2 _ (List.getElem_mem _)), fun z => by omega⟩
theorem One.flat {α β : Type} {l : List α} {p : α → Prop} {F : α → List β} {q : β → Prop} (h : One l p) (h1 : ∀ a ∈ l, p a → One (F a) q) (h2 : ∀ a ∈ l, ¬ p a → ∀ b ∈ F a, ¬ q b) : One (l.flatMap F) q := by
  obtain ⟨l1, a, l2, rfl, ha, n1, n2⟩ := h
  obtain ⟨m1, b, m2, e, hb, k1, k2⟩ := h1 a (by simp) ha
  refine ⟨l1.flatMap F ++ m1, b, m2 ++ l2.flatMap F, by rw [List.flatMap_append, List.flatMap_cons, e]; simp, hb, fun x hx => ?_, fun x hx => ?_⟩
  · rcases List.mem_append.mp hx with hx | hx
    · obtain ⟨c, hc, hx⟩ := List.mem_flatMap.mp hx
      exact h2 c (by simp [hc]) (n1 c hc) x hx
    · exact k1 x hx
  · rcases List.mem_append.mp hx with hx | hx
    · exact k2 x hx
    · obtain ⟨c, hc, hx⟩ := List.mem_flatMap.mp hx
      exact h2 c (by simp [hc]) (n2 c hc) x hx
def AV (vs : List Int) (n : Nat) (X Y : Nat → Int) : Prop := (∀ j < n, ∀ w ∈ vs, (X j = w ↔ Y j = w)) ∧ ∀ j < n, ∀ l < n, (X j = X l ↔ Y j = Y l)
theorem AV_succ (vs : List Int) (xs : List Int) (v : Int) (Y : Nat → Int) : AV vs (xs.length + 1) (fun j => (xs ++ [v]).getD j 0) Y ↔ AV vs xs.length (fun j => xs.getD j 0) Y ∧ (∀ w ∈ vs, (v = w ↔ Y xs.length = w)) ∧ ∀ j < xs.length, (v = xs.getD j 0 ↔ Y xs.length = Y j) := by
  have g1 : ∀ j, j < xs.length → (xs ++ [v]).getD j 0 = xs.getD j 0 := fun j hj => by
    simp [List.getD, List.getElem?_append_left hj]
  have g2 : (xs ++ [v]).getD xs.length 0 = v := by simp [List.getD]
  constructor
  · rintro ⟨h1, h2⟩
    refine ⟨⟨fun j hj w hw => ?_, fun j hj l hl => ?_⟩, fun w hw => ?_, fun j hj => ?_⟩
    · have := h1 j (by omega) w hw; simp only [g1 j hj] at this; exact this
    · have := h2 j (by omega) l (by omega); simp only [g1 j hj, g1 l hl] at this; exact this
    · have := h1 xs.length (by omega) w hw; simp only [g2] at this; exact this
    · have := h2 xs.length (by omega) j (by omega); simp only [g1 j hj, g2] at this; exact this
  · rintro ⟨⟨h1, h2⟩, h3, h4⟩
    refine ⟨fun j hj w hw => ?_, fun j hj l hl => ?_⟩
    · rcases Nat.lt_or_ge j xs.length with h | h
      · simp only [g1 j h]; exact h1 j h w hw
      · have : j = xs.length := by omega
        subst this
        simp only [g2]; exact h3 w hw
    · rcases Nat.lt_or_ge j xs.length with h | h <;> rcases Nat.lt_or_ge l xs.length with h' | h'
      · simp only [g1 j h, g1 l h']; exact h2 j h l h'
      · have : l = xs.length := by omega
        subst this
        simp only [g1 j h, g2]
        have := h4 j h
        exact ⟨fun z => (this.mp z.symm).symm, fun z => (this.mpr z.symm).symm⟩
      · have : j = xs.length := by omega
        subst this
        simp only [g1 l h', g2]
        exact h4 l h'
      · have e1 : j = xs.length := by omega
        have e2 : l = xs.length := by omega
        subst e1
        rw [e2]
        simp
theorem cand_lt {old new : List Int} {u k : Nat} (hk : k < (cand old new u).length) (h : k < old.length) : (cand old new u)[k] = old[k] :=
  List.getElem_append_left (as := old) (bs := new.take (u + 1)) h
theorem cand_ge {old new : List Int} {u k : Nat} (hk : k < (cand old new u).length) (h : old.length ≤ k) (h2 : k - old.length < (new.take (u + 1)).length) : (cand old new u)[k] = (new.take (u + 1))[k - old.length] :=
  List.getElem_append_right (as := old) (bs := new.take (u + 1)) h
/-- which fresh ones are used -/
theorem kk_used {old new vs : List Int} (hold : ∀ x, x ∈ old ↔ x ∈ vs) : ∀ (i : Nat), i ≤ new.length → ∀ p ∈ kk old new i, (∀ x ∈ p.1, x ∈ vs ∨ x ∈ new.take p.2) ∧ ∀ x ∈ new.take p.2, x ∈ p.1
  | 0, _, p, h => by simp [kk] at h; subst h; simp
  | i + 1, hi, p, h => by
    simp only [kk, List.mem_flatMap] at h
    obtain ⟨q, hq, h⟩ := h
    obtain ⟨h1, h2⟩ := kk_used hold i (by omega) q hq
    have hs := kk_shape old new i q hq
    simp only [extK, List.mem_map, List.mem_range] at h
    obtain ⟨k, hk, rfl⟩ := h
    simp only
    have tk : ∀ {a b : Nat} {x : Int}, a ≤ b → x ∈ new.take a → x ∈ new.take b := fun {a b x} hab hx => by
      have : new.take a = (new.take b).take a := by rw [List.take_take, Nat.min_eq_left hab]
      rw [this] at hx
      exact List.mem_of_mem_take hx
    have hc : (cand old new q.2).getD k 0 = (cand old new q.2)[k] := by simp [List.getD, hk]
    rw [hc]
    have hk2 := hk
    unfold cand at hk2
    rw [List.length_append, List.length_take] at hk2
    refine ⟨fun x hx => ?_, fun x hx => ?_⟩
    · rcases List.mem_append.mp hx with hx | hx
      · rcases h1 x hx with z | z
        · exact .inl z
        · exact .inr (tk (Nat.le_max_left _ _) z)
      · rw [List.mem_singleton] at hx
        subst hx
        rcases Nat.lt_or_ge k old.length with h | h
        · rw [cand_lt hk h]
          exact .inl ((hold _).mp (List.getElem_mem h))
        · rw [cand_ge hk h (by rw [List.length_take]; omega), List.getElem_take]
          refine .inr (List.mem_iff_getElem.mpr ⟨k - old.length, by rw [List.length_take]; omega, by rw [List.getElem_take]⟩)
    · obtain ⟨j, hj, rfl⟩ := List.getElem_of_mem hx
      rw [List.length_take] at hj
      rw [List.getElem_take]
      rcases Nat.lt_or_ge j q.2 with h | h
      · exact List.mem_append_left _ (h2 _ (List.mem_iff_getElem.mpr ⟨j, by rw [List.length_take]; omega, by rw [List.getElem_take]⟩))
      · refine List.mem_append_right _ (List.mem_singleton.mpr ?_)
        have ek : k = old.length + j := by omega
        subst ek
        rw [cand_ge hk (by omega) (by rw [List.length_take]; omega), List.getElem_take]
        congr 1
        omega
theorem kk_one {old new vs : List Int} (hold : ∀ x, x ∈ old ↔ x ∈ vs) (nd : old.Nodup) (fr : Fresh vs new.length new) (Y : Nat → Int) : ∀ i, i ≤ new.length → One (kk old new i) fun p => AV vs i (fun j => p.1.getD j 0) Y
  | 0, _ => ⟨[], ([], 0), [], rfl, ⟨fun j h => by omega, fun j h => by omega⟩, by simp, by simp⟩
  | i + 1, hi => by
    refine One.flat (kk_one hold nd fr Y i (by omega)) (fun p hp ha => ?_) (fun p hp ha b hb => ?_)
    · obtain ⟨h1, h2⟩ := kk_used hold i (by omega) p hp
      obtain ⟨s1, s2⟩ := kk_shape old new i p hp
      obtain ⟨xs, u⟩ := p
      simp only at h1 h2 s1 s2 ha
      subst s1
      have hu : u < new.length := by omega
      have cnd : (cand old new u).Nodup := by
        unfold cand
        rw [List.nodup_append]
        refine ⟨nd, List.Nodup.sublist (List.take_sublist _ _) fr.nodup, fun a ha b hb e => ?_⟩
        subst e
        exact fr.out a (List.mem_of_mem_take hb) ((hold a).mp ha)
      have tsucc : new.take (u + 1) = new.take u ++ [new[u]] := take_succ' _ _ hu
      have nfresh : new[u] ∉ new.take u := by
        have := List.Nodup.sublist (List.take_sublist (u + 1) _) fr.nodup
        rw [tsucc, List.nodup_append] at this
        exact fun z => this.2.2 _ z _ (List.mem_singleton.mpr rfl) rfl
      -- the one that fits
      have fit : ∃ v ∈ cand old new u, ∀ c ∈ cand old new u, ((∀ w ∈ vs, (c = w ↔ Y xs.length = w)) ∧ ∀ j < xs.length, (c = xs.getD j 0 ↔ Y xs.length = Y j)) ↔ c = v := by
        by_cases y1 : Y xs.length ∈ vs
        · refine ⟨Y xs.length, List.mem_append_left _ ((hold _).mpr y1), fun c _ => ⟨fun h => (h.1 _ y1).mpr rfl, fun h => ?_⟩⟩
          subst h
          refine ⟨fun w _ => Iff.rfl, fun j hj => ?_⟩
          have := ha.1 j hj _ y1
          exact ⟨fun z => (this.mp z.symm).symm, fun z => (this.mpr z.symm).symm⟩
        · by_cases y2 : ∃ j, j < xs.length ∧ Y xs.length = Y j
          · obtain ⟨j, hj, ey⟩ := y2
            have nv : xs.getD j 0 ∉ vs := fun z => y1 (by rw [ey, (ha.1 j hj _ z).mp rfl]; exact z)
            have mx : xs.getD j 0 ∈ xs := by simp [List.getD, hj]
            refine ⟨xs.getD j 0, ?_, fun c _ => ⟨fun h => (h.2 j hj).mpr ey, fun h => ?_⟩⟩
            · rcases h1 _ mx with z | z
              · exact absurd z nv
              · unfold cand; rw [tsucc]; exact List.mem_append_right _ (List.mem_append_left _ z)
            · subst h
              refine ⟨fun w hw => ?_, fun l hl => ?_⟩
              · rw [ey]; exact ha.1 j hj w hw
              · rw [ey]; exact ha.2 j hj l hl
          · refine ⟨new[u], by unfold cand; rw [tsucc]; exact List.mem_append_right _ (List.mem_append_right _ (List.mem_singleton.mpr rfl)), fun c hc => ⟨fun h => ?_, fun h => ?_⟩⟩
            · unfold cand at hc
              rw [tsucc] at hc
              rcases List.mem_append.mp hc with z | z
              · exact absurd ((h.1 c ((hold c).mp z)).mp rfl) fun e => y1 (by rw [e]; exact (hold c).mp z)
              · rcases List.mem_append.mp z with z | z
                · have := h2 c z
                  obtain ⟨j, hj, e⟩ := List.getElem_of_mem this
                  have e2 : c = xs.getD j 0 := by simp [List.getD, hj, e]
                  exact absurd ⟨j, hj, (h.2 j hj).mp e2⟩ y2
                · exact List.mem_singleton.mp z
            · subst h
              refine ⟨fun w hw => ⟨fun z => ?_, fun z => absurd (z ▸ hw) y1⟩, fun j hj => ⟨fun z => ?_, fun z => absurd ⟨j, hj, z⟩ y2⟩⟩
              · exact absurd (z ▸ hw) (fr.out _ (List.getElem_mem hu))
              · have mx : xs.getD j 0 ∈ xs := by simp [List.getD, hj]
                rcases h1 _ mx with q | q
                · exact absurd (z ▸ q) (fr.out _ (List.getElem_mem hu))
                · exact absurd (z ▸ q) nfresh
      obtain ⟨v, hv, hfit⟩ := fit
      obtain ⟨k0, hk0, rfl⟩ := List.getElem_of_mem hv
      have hl : (extK old new (xs, u)).length = (cand old new u).length := by simp [extK]
      have hg : ∀ (k : Nat) (hk : k < (extK old new (xs, u)).length), ((extK old new (xs, u))[k]).1 = xs ++ [(cand old new u)[k]'(by rw [← hl]; exact hk)] := fun k hk => by
        have hk' : k < (cand old new u).length := by rw [← hl]; exact hk
        simp [extK, List.getD, hk']
      refine One.of (k0 := k0) (by rw [hl]; exact hk0) ?_ fun j hj hne => ?_
      · rw [hg]
        exact (AV_succ vs xs _ Y).mpr ⟨ha, (hfit _ hv).mpr rfl⟩
      · rw [hg]
        intro z
        have := ((AV_succ vs xs _ Y).mp z).2
        have hj' : j < (cand old new u).length := by rw [← hl]; exact hj
        have e := (hfit _ (List.getElem_mem hj')).mp this
        rcases Nat.lt_or_gt_of_ne hne with h | h
        · exact List.pairwise_iff_getElem.mp cnd j k0 hj' hk0 h e
        · exact List.pairwise_iff_getElem.mp cnd k0 j hk0 hj' h e.symm
    · obtain ⟨s1, s2⟩ := kk_shape old new i p hp
      simp only [extK, List.mem_map, List.mem_range] at hb
      obtain ⟨k, hk, rfl⟩ := hb
      intro z
      subst s1
      exact ha ((AV_succ vs p.1 _ Y).mp z).1
end K16
namespace K16
open PySem MT
theorem str_app (a b : Str) : (a ++ b).cps.toList = a.cps.toList ++ b.cps.toList := by
  show (Str.append a b).cps.toList = _
  simp [Str.append]
theorem str_len (a : Str) : a.length = a.cps.toList.length := by
  simp [Str.length]
theorem str_ext {a b : Str} (h : a.cps.toList = b.cps.toList) : a = b := by
  cases a; cases b
  simp only at h
  congr 1
  exact Array.toList_inj.mp h
theorem cut_le (z : Str) (lo hi : Option Int) : (L2.cutS z lo hi).length ≤ z.length := by
  rw [str_len, str_len]
  unfold L2.cutS
  simp only [List.length_take, List.length_drop]
  omega
theorem dddd_len (k : Nat) (h : k < 4) : (L2.cutS (Str.ofString "dddd") (some (k : Int)) none).length = 4 - k := by
  match k, h with
  | 0, _ => decide +kernel
  | 1, _ => decide +kernel
  | 2, _ => decide +kernel
  | 3, _ => decide +kernel
theorem app_len (a b : Str) : (a ++ b).length = a.length + b.length := by
  rw [str_len, str_app, List.length_append, str_len, str_len]
theorem small26 : smallI 26 = true := by decide
theorem small5 : smallI 5 = true := by decide
theorem big4 : big62 4 = true := by decide
theorem a20 (x y : D) : L2.atI [x, y] 0 = some x := rfl
theorem a21 (x y : D) : L2.atI [x, y] 1 = some y := rfl
theorem names_run {Φ : CT} (c : Int) : ∃ a b d e : Str, [a, b, d, e].Nodup ∧ runDef Φ fi5 [.int c] = .ok ⟨.lst [.str a, .str b, .str d, .str e], true⟩ [] := by
  obtain ⟨P, hP⟩ : ∃ P : Val → Prop, P = fun v => ∃ a b d e : Str, [a, b, d, e].Nodup ∧ v = ⟨.lst [.str a, .str b, .str d, .str e], true⟩ := ⟨_, rfl⟩
  have key : ∃ v, P v ∧ runDef Φ fi5 [.int c] = .ok v [] := by
    refine run_ex rfl rfl (by decide) ?_
    have e0 : argsE [] [.int c] ++ List.replicate (fi5.nsl - fi5.nps) none = [some ⟨.int c, false⟩, none, none, none, none, none, none, none] := rfl
    rw [e0]
    show (exs Φ [] ir5 _).W _ _ _ _
    have z1 : (Str.ofString "abcdefghijklmnopqrstuvwxyz").length = 26 := by decide +kernel
    have z2 : (Str.ofString "abcdefghijklmnopqrstuvwxyz").cps.toList.Nodup := by decide +kernel
    have z3 : (Str.ofString "").length = 0 := by decide +kernel
    have dl := dddd_len
    have d0 : (Str.ofString "dddd").length = 4 := by decide +kernel
    unfold ir5
    generalize Str.ofString "abcdefghijklmnopqrstuvwxyz" = Z at *
    generalize Str.ofString "dddd" = DD at *
    generalize Str.ofString "" = E0 at *
    have hat : ∀ q : Int, 0 ≤ q → q < 26 → ∃ h : q.toNat < Z.cps.toList.length, L2.atI Z.cps.toList q = some (Z.cps.toList[q.toNat]) := fun q h0 h1 => by
      have hz : Z.cps.toList.length = 26 := by rw [← str_len]; exact z1
      refine ⟨by omega, ?_⟩
      unfold L2.atI L2.ixN
      rw [if_pos h0, if_pos (by omega)]
      exact List.getElem?_eq_getElem _
    have zl : Z.length ≤ 16777216 := by omega
    refine W_cons ?_
    simp [ex, ev, evs, evo, mkO, slot, R.bind, R.x, Opd.get, getsO, itR, itemsD, shares, noSlots, share, binD, cmpD, ixD, slD, R.opt, setV, intR, boolR, muD, preM, biD, lenD, callO, ioSlots, ioOk, putsO, flatD, lineD, isTy, isiOk, noCls, W_nx, W_rt, W_bk, W_ct]
    refine W_cons ?_
    simp [ex, ev, evs, evo, mkO, slot, R.bind, R.x, Opd.get, getsO, itR, itemsD, shares, noSlots, share, binD, cmpD, ixD, slD, R.opt, setV, intR, boolR, muD, preM, biD, lenD, callO, ioSlots, ioOk, putsO, flatD, lineD, isTy, isiOk, noCls, W_nx, W_rt, W_bk, W_ct]
    refine W_cons ?_
    have c7 : 0 ≤ c % 7 := Int.emod_nonneg _ (by decide)
    have c7b : c % 7 < 7 := Int.emod_lt_of_pos _ (by decide)
    have hb : big62 (c % 7) = true := big_of c7 (by omega)
    simp [ex, ev, evs, evo, mkO, slot, R.bind, R.x, Opd.get, getsO, itR, itemsD, shares, noSlots, share, binD, cmpD, ixD, slD, R.opt, setV, intR, boolR, muD, preM, biD, lenD, callO, ioSlots, ioOk, putsO, flatD, lineD, isTy, isiOk, noCls, W_nx, W_rt, W_bk, W_ct, hb]
    obtain ⟨I, hI⟩ : ∃ I : Nat → MT.Env → Prop, I = fun i e => ∃ (base : Str) (x3 : Option Val), e = [some ⟨.int c, false⟩, some ⟨.str Z, false⟩, some ⟨.str base, false⟩, x3, none, none, none, none] ∧ base.length ≤ i := ⟨_, rfl⟩
    refine W_for I (by rw [hI]; exact ⟨E0, none, rfl, by omega⟩) ?_ ?_
    · rintro i hi e he
      rw [hI] at he
      obtain ⟨base, x3, rfl, bl⟩ := he
      rw [range_get]
      rw [range_len] at hi
      have J0 : (0 : Int) ≤ 0 + (i : Int) := by omega
      have J1 : (0 : Int) + (i : Int) < 7 := by omega
      generalize (0 : Int) + (i : Int) = J at *
      have j1 : 0 < 26 * J + 1 := by omega
      have j2 : 26 * J + 1 < 2 ^ 2000 := lt2000 (by omega)
      obtain ⟨hq, hz⟩ := hat (c / (26 * J + 1) % 26) (Int.emod_nonneg _ (by decide)) (Int.emod_lt_of_pos _ (by decide))
      generalize Z.cps.toList[(c / (26 * J + 1) % 26).toNat] = ch at *
      have l1 : (⟨#[ch]⟩ : Str).length = 1 := rfl
      have hl : base.length + (⟨#[ch]⟩ : Str).length ≤ 16777216 := by omega
      simp [asgT]
      refine W_cons ?_
      simp [ex, ev, evs, evo, mkO, slot, R.bind, R.x, Opd.get, getsO, itR, itemsD, shares, noSlots, share, binD, cmpD, ixD, slD, R.opt, setV, intR, boolR, muD, preM, biD, lenD, callO, ioSlots, ioOk, putsO, flatD, lineD, isTy, isiOk, noCls, W_nx, W_rt, W_bk, W_ct, small26, j1, j2, zl, hz, hl]
      refine W_nil ?_
      rw [hI]
      exact ⟨_, _, rfl, by rw [app_len, l1]; omega⟩
    · rintro e he
      rw [hI] at he
      obtain ⟨base, x3, rfl, bl⟩ := he
      rw [range_len] at bl
      have bl2 : base.length ≤ 16777216 := by omega
      obtain ⟨B, hB⟩ : ∃ B : Int, (base.length : Int) = B := ⟨_, rfl⟩
      have B0 : 0 < B + 1 := by omega
      refine W_cons ?_
      simp [ex, ev, evs, evo, mkO, slot, R.bind, R.x, Opd.get, getsO, itR, itemsD, shares, noSlots, share, binD, cmpD, ixD, slD, R.opt, setV, intR, boolR, muD, preM, biD, lenD, callO, ioSlots, ioOk, putsO, flatD, lineD, isTy, isiOk, noCls, W_nx, W_rt, W_bk, W_ct, lt2000, bl2, hB, B0]
      generalize c / 14 % (B + 1) = A
      refine W_cons ?_
      simp [ex, ev, evs, evo, mkO, slot, R.bind, R.x, Opd.get, getsO, itR, itemsD, shares, noSlots, share, binD, cmpD, ixD, slD, R.opt, setV, intR, boolR, muD, preM, biD, lenD, callO, ioSlots, ioOk, putsO, flatD, lineD, isTy, isiOk, noCls, W_nx, W_rt, W_bk, W_ct]
      refine W_cons ?_
      simp [ex, ev, evs, evo, mkO, slot, R.bind, R.x, Opd.get, getsO, itR, itemsD, shares, noSlots, share, binD, cmpD, ixD, slD, R.opt, setV, intR, boolR, muD, preM, biD, lenD, callO, ioSlots, ioOk, putsO, flatD, lineD, isTy, isiOk, noCls, W_nx, W_rt, W_bk, W_ct, big4]
      have p1 := cut_le base none (some A)
      have p2 := cut_le base (some A) none
      have p3 := cut_le base none (some 3)
      generalize hPp : L2.cutS base none (some A) = Pp at *
      generalize hSs : L2.cutS base (some A) none = Ss at *
      generalize hQq : L2.cutS base none (some 3) = Qq at *
      obtain ⟨lt, hlt⟩ : ∃ lt : Nat → Nat, ∀ k : Nat, k < 4 → L2.atI Z.cps.toList ((c / 98 + 5 * (k : Int)) % 26) = some (lt k) := by
        refine ⟨fun k => Z.cps.toList.getD ((c / 98 + 5 * (k : Int)) % 26).toNat 0, fun k _ => ?_⟩
        obtain ⟨hq, hz⟩ := hat ((c / 98 + 5 * (k : Int)) % 26) (Int.emod_nonneg _ (by decide)) (Int.emod_lt_of_pos _ (by decide))
        rw [hz]
        show some _ = some (Z.cps.toList.getD _ 0)
        rw [List.getD_eq_getElem?_getD, List.getElem?_eq_getElem hq]
        rfl
      have ltne : ∀ j k : Nat, j < k → k < 4 → lt j ≠ lt k := fun j k hjk hk => by
        obtain ⟨h1, e1⟩ := hat ((c / 98 + 5 * (j : Int)) % 26) (Int.emod_nonneg _ (by decide)) (Int.emod_lt_of_pos _ (by decide))
        obtain ⟨h2, e2⟩ := hat ((c / 98 + 5 * (k : Int)) % 26) (Int.emod_nonneg _ (by decide)) (Int.emod_lt_of_pos _ (by decide))
        have f1 := Option.some.inj ((hlt j (by omega)).symm.trans e1)
        have f2 := Option.some.inj ((hlt k hk).symm.trans e2)
        rw [f1, f2]
        intro z
        have ne : ((c / 98 + 5 * (j : Int)) % 26).toNat ≠ ((c / 98 + 5 * (k : Int)) % 26).toNat := by omega
        rcases Nat.lt_or_gt_of_ne ne with h | h
        · exact List.pairwise_iff_getElem.mp z2 _ _ h1 h2 h z
        · exact List.pairwise_iff_getElem.mp z2 _ _ h2 h1 h z.symm
      obtain ⟨w, hw⟩ : ∃ w : Nat → Str, w = fun (k : Nat) => if c / 7 % 2 = 0 then (Pp ++ ⟨#[lt k]⟩) ++ Ss else Qq ++ L2.cutS DD (some (k : Int)) none := ⟨_, rfl⟩
      obtain ⟨M, hM⟩ : ∃ M : Nat → MT.Env → Prop, M = fun i e => ∃ (x3 x6 x7 : Option Val), e = [some ⟨.int c, false⟩, some ⟨.str Z, false⟩, some ⟨.str base, false⟩, x3, some ⟨.int A, false⟩, some ⟨.lst ((List.range i).map fun k => .str (w k)), true⟩, x6, x7] := ⟨_, rfl⟩
      refine W_for M (by rw [hM]; exact ⟨_, _, _, rfl⟩) ?_ ?_
      · rintro i hi e he
        rw [hM] at he
        obtain ⟨x3, x6, x7, rfl⟩ := he
        rw [range_get]
        rw [range_len] at hi
        have hz := hlt i hi
        have hdl := dl i hi
        have hwi : w i = if c / 7 % 2 = 0 then (Pp ++ ⟨#[lt i]⟩) ++ Ss else Qq ++ L2.cutS DD (some (i : Int)) none := by rw [hw]
        have er : (List.range (i + 1)).map (fun k => D.str (w k)) = (List.range i).map (fun k => D.str (w k)) ++ [.str (w i)] := by rw [List.range_succ, List.map_append]; rfl
        rw [show (0 : Int) + (i : Int) = (i : Int) from by omega]
        generalize (i : Int) = J at *
        generalize lt i = ch at *
        have l1 : (⟨#[ch]⟩ : Str).length = 1 := rfl
        have hl1 : Pp.length + (⟨#[ch]⟩ : Str).length ≤ 16777216 := by omega
        have hl2 : (Pp ++ (⟨#[ch]⟩ : Str)).length + Ss.length ≤ 16777216 := by rw [app_len]; omega
        have hl3 : Qq.length + (L2.cutS DD (some J) none).length ≤ 16777216 := by omega
        have dl4 : DD.length ≤ 16777216 := by omega
        have hi4 : i < 16777216 := by omega
        obtain ⟨Rr, hRr⟩ : ∃ Rr, L2.cutS DD (some J) none = Rr := ⟨_, rfl⟩
        rw [hRr] at hl3 hwi hdl
        simp [asgT]
        refine W_cons ?_
        simp [ex, ev, evs, evo, mkO, slot, R.bind, R.x, Opd.get, getsO, itR, itemsD, shares, noSlots, share, binD, cmpD, ixD, slD, R.opt, setV, intR, boolR, muD, preM, biD, lenD, callO, ioSlots, ioOk, putsO, flatD, lineD, isTy, isiOk, noCls, W_nx, W_rt, W_bk, W_ct, lt2000, small5, zl, hz]
        refine W_cons ?_
        simp [ex, ev, evs, evo, mkO, slot, R.bind, R.x, Opd.get, getsO, itR, itemsD, shares, noSlots, share, binD, cmpD, ixD, slD, R.opt, setV, intR, boolR, muD, preM, biD, lenD, callO, ioSlots, ioOk, putsO, flatD, lineD, isTy, isiOk, noCls, W_nx, W_rt, W_bk, W_ct, bl2, hPp, hSs, hl1, hl2]
        refine W_cons ?_
        rcases (by omega : c / 7 % 2 = 0 ∨ c / 7 % 2 = 1) with m | m
        · rw [if_pos m] at hwi
          simp [ex, ev, evs, evo, mkO, slot, R.bind, R.x, Opd.get, getsO, itR, itemsD, shares, noSlots, share, binD, cmpD, ixD, slD, R.opt, setV, intR, boolR, muD, preM, biD, lenD, callO, ioSlots, ioOk, putsO, flatD, lineD, isTy, isiOk, noCls, W_nx, W_rt, W_bk, W_ct, lt2000, bl2, dl4, hQq, hRr, hl3, m, hi4, a20]
          refine W_nil ?_
          rw [hM]
          simp only [er, hwi]
          exact ⟨_, _, _, rfl⟩
        · rw [if_neg (by omega)] at hwi
          simp [ex, ev, evs, evo, mkO, slot, R.bind, R.x, Opd.get, getsO, itR, itemsD, shares, noSlots, share, binD, cmpD, ixD, slD, R.opt, setV, intR, boolR, muD, preM, biD, lenD, callO, ioSlots, ioOk, putsO, flatD, lineD, isTy, isiOk, noCls, W_nx, W_rt, W_bk, W_ct, lt2000, bl2, dl4, hQq, hRr, hl3, m, hi4, a21]
          refine W_nil ?_
          rw [hM]
          simp only [er, hwi]
          exact ⟨_, _, _, rfl⟩
      · rintro e he
        rw [hM] at he
        obtain ⟨x3, x6, x7, rfl⟩ := he
        refine W_cons ?_
        simp [ex, ev, evs, evo, mkO, slot, R.bind, R.x, Opd.get, getsO, itR, itemsD, shares, noSlots, share, binD, cmpD, ixD, slD, R.opt, setV, intR, boolR, muD, preM, biD, lenD, callO, ioSlots, ioOk, putsO, flatD, lineD, isTy, isiOk, noCls, W_nx, W_rt, W_bk, W_ct]
        rw [hP]
        have ne : ∀ j k : Nat, j < k → k < 4 → w j ≠ w k := fun j k hjk hk => by
          rw [hw]
          simp only
          split
          · intro z
            have z := congrArg (fun x : Str => x.cps.toList) z
            simp only [str_app] at z
            have z := List.append_cancel_right z
            have z := List.append_cancel_left z
            simp at z
            exact ltne j k hjk hk z
          · intro z
            have z := congrArg Str.length z
            rw [app_len, app_len, dl j (by omega), dl k hk] at z
            omega
        refine ⟨w 0, w 1, w 2, w 3, ?_, rfl⟩
        have := ne 0 1 (by omega) (by omega)
        have := ne 0 2 (by omega) (by omega)
        have := ne 0 3 (by omega) (by omega)
        have := ne 1 2 (by omega) (by omega)
        have := ne 1 3 (by omega) (by omega)
        have := ne 2 3 (by omega) (by omega)
        simp_all
  rw [hP] at key
  obtain ⟨v, ⟨a, b, d, e, h, rfl⟩, hr⟩ := key
  exact ⟨a, b, d, e, h, hr⟩
end K16
namespace K16
open PySem MT
theorem sort_nodup {vs : List Int} (h : vs.Nodup) : (sortI vs).Nodup := (sortI_perm vs).nodup_iff.mpr h
theorem sort_mem (vs : List Int) (x : Int) : x ∈ sortI vs ↔ x ∈ vs := (sortI_perm vs).mem_iff
theorem bnd33 : ∀ v : Fin 4, ∀ g : Fin 4, bnd (v.val : Int) g.val ≤ 1000 := by decide
theorem zip_good {gaps : List Str} {xs : List Int} (nd : gaps.Nodup) : GoodD (zipK gaps xs) := by
  constructor
  · refine List.pairwise_iff_getElem.mpr fun i j hi hj hij e => ?_
    have hi' : i < gaps.length := by simp [zipK] at hi; omega
    have hj' : j < gaps.length := by simp [zipK] at hj; omega
    simp only [zipK, List.getElem_map, List.getElem_zip, Sum.inr.injEq] at e
    exact List.pairwise_iff_getElem.mp nd i j hi' hj' hij e
  · intro p hp
    unfold zipK at hp
    obtain ⟨q, _, rfl⟩ := List.mem_map.mp hp
    exact ⟨_, rfl⟩
theorem zip_get {gaps : List Str} {xs : List Int} (nd : gaps.Nodup) (hl : xs.length = gaps.length) (j : Nat) (hj : j < gaps.length) : getA (zipK gaps xs) (.inr gaps[j]) = some (.int (xs[j]'(by omega))) := by
  have hm : ((.inr gaps[j], .int (xs[j]'(by omega))) : L2.Key × D) ∈ zipK gaps xs := by
    unfold zipK
    refine List.mem_map.mpr ⟨(gaps[j], xs[j]'(by omega)), ?_, rfl⟩
    refine List.mem_iff_getElem.mpr ⟨j, by simp; omega, by simp⟩
  exact getA_self (zip_good nd).1 _ hm
theorem zip_ok {gaps : List Str} {xs : List Int} (nd : gaps.Nodup) (hl : xs.length = gaps.length) : Ok gaps (zipK gaps xs) := by
  refine ⟨zip_good nd, fun g hg => ?_⟩
  obtain ⟨j, hj, rfl⟩ := List.getElem_of_mem hg
  exact ⟨_, zip_get nd hl j hj⟩
theorem AL_AV {gaps : List Str} {xs vs : List Int} {f : Str → Int} (nd : gaps.Nodup) (hl : xs.length = gaps.length) : AL gaps vs (fOf (zipK gaps xs)) f ↔ AV vs gaps.length (fun j => xs.getD j 0) (fun j => f (gaps.getD j "")) := by
  have e : ∀ (j : Nat) (hj : j < gaps.length), fOf (zipK gaps xs) gaps[j] = xs.getD j 0 := fun j hj => by
    unfold fOf
    rw [zip_get nd hl j hj, List.getD_eq_getElem?_getD, List.getElem?_eq_getElem (by omega)]
    rfl
  have e2 : ∀ (j : Nat) (hj : j < gaps.length), gaps.getD j "" = gaps[j] := fun j hj => by
    rw [List.getD_eq_getElem?_getD, List.getElem?_eq_getElem hj]
    rfl
  constructor
  · intro h
    refine ⟨fun j hj w hw => ?_, fun j hj l hl => ?_⟩
    · have := (h _ (List.getElem_mem hj)).1 w hw
      rw [e j hj] at this
      simp only [e2 j hj]; exact this
    · have := (h _ (List.getElem_mem hj)).2 _ (List.getElem_mem hl)
      rw [e j hj, e l hl] at this
      simp only [e2 j hj, e2 l hl]; exact this
  · rintro ⟨h1, h2⟩ a ha
    obtain ⟨j, hj, rfl⟩ := List.getElem_of_mem ha
    refine ⟨fun w hw => ?_, fun b hb => ?_⟩
    · have := h1 j hj w hw
      simp only [e2 j hj] at this
      rw [e j hj]; exact this
    · obtain ⟨l, hl, rfl⟩ := List.getElem_of_mem hb
      have := h2 j hj l hl
      simp only [e2 j hj, e2 l hl] at this
      rw [e j hj, e l hl]; exact this
theorem AL_trans {gaps : List Str} {vs : List Int} {f g h : Str → Int} (a : AL gaps vs f g) (b : AL gaps vs g h) : AL gaps vs f h :=
  fun x hx => ⟨fun v hv => ((a x hx).1 v hv).trans ((b x hx).1 v hv), fun y hy => ((a x hx).2 y hy).trans ((b x hx).2 y hy)⟩
/-- the place of the kind -/
theorem kind_of {gaps : List Str} {vs new : List Int} (nd : gaps.Nodup) (nv : vs.Nodup) (fr : Fresh vs gaps.length new) (f : Str → Int) : ∃ k0, k0 < ((kk (sortI vs) new gaps.length).map fun p => zipK gaps p.1).length ∧
    ∀ (k : Nat) (h : k < ((kk (sortI vs) new gaps.length).map fun p => zipK gaps p.1).length), AL gaps vs (fOf (((kk (sortI vs) new gaps.length).map fun p => zipK gaps p.1)[k])) f ↔ k = k0 := by
  have fr' : Fresh vs new.length new := ⟨rfl, fr.nodup, fr.out⟩
  have h := (kk_one (sort_mem vs) (sort_nodup nv) fr' (fun j => f (gaps.getD j "")) gaps.length (by rw [fr.len]; exact Nat.le_refl _)).idx
  obtain ⟨k0, h0, h1⟩ := h
  refine ⟨k0, by rw [List.length_map]; exact h0, fun k hk => ?_⟩
  rw [List.getElem_map]
  rw [List.length_map] at hk
  have hs := (kk_shape (sortI vs) new gaps.length _ (List.getElem_mem hk)).1
  rw [AL_AV nd hs]
  exact h1 k hk
theorem law_run {Φ : CT} (io : ∀ j, Φ.io j = []) (ns : List Int) (a b d e : Str) (gaps : List Str) (vs : List Int) (ts : List (List (L2.Key × D))) (one two : List (L2.Key × D)) (K1 K2 : Int) (kp1 : ¬ K1 < 0) (kp2 : ¬ K2 < 0)
    (a0 : Φ.call 4 [.scr ns, .int 0] = .ok ⟨.int (gd ns 0), false⟩ []) (a1 : Φ.call 4 [.scr ns, .int 1] = .ok ⟨.int (gd ns 1), false⟩ [])
    (c5 : Φ.call 5 [.int (gd ns 0)] = .ok ⟨.lst [.str a, .str b, .str d, .str e], true⟩ []) (c7 : Φ.call 7 [.scr ns] = .ok ⟨.lst (vs.map .int), true⟩ [])
    (hcut : cutD [D.str a, .str b, .str d, .str e] none (some (gd ns 1 % 4)) = gaps.map .str)
    (c2 : Φ.call 2 [.lst (gaps.map .str), .lst (vs.map .int)] = .ok ⟨.lst (ts.map D.dK), true⟩ [])
    (c8a : Φ.call 8 [.scr ns, .int 6, .lst [.str a, .str b, .str d, .str e], .lst (gaps.map .str), .lst (vs.map .int)] = .ok ⟨.dK one, true⟩ [])
    (c8b : Φ.call 8 [.scr ns, .int 10, .lst [.str a, .str b, .str d, .str e], .lst (gaps.map .str), .lst (vs.map .int)] = .ok ⟨.dK two, true⟩ [])
    (c10a : Φ.call 10 [.lst (gaps.map .str), .lst (vs.map .int), .lst (ts.map .dK), .dK one] = .ok ⟨.int K1, false⟩ []) (c10b : Φ.call 10 [.lst (gaps.map .str), .lst (vs.map .int), .lst (ts.map .dK), .dK two] = .ok ⟨.int K2, false⟩ [])
    (c3 : Φ.call 3 [.lst (gaps.map .str), .lst (vs.map .int), .dK one, .dK two] = .ok ⟨.bl (K1 == K2), false⟩ []) : runDef Φ fi11 [.scr ns] = .ok ⟨.bl true, false⟩ [] := by
  refine run_of rfl rfl (by decide) ?_
  have e0 : argsE [] [.scr ns] ++ List.replicate (fi11.nsl - fi11.nps) none = [some ⟨.scr ns, false⟩, none, none, none, none, none, none, none, none, none] := rfl
  rw [e0]
  show (exs Φ [] ir11 _).W _ _ _ _
  unfold ir11
  refine W_cons ?_
  simp [ex, ev, evs, evo, mkO, slot, R.bind, R.x, Opd.get, getsO, itR, itemsD, shares, noSlots, share, binD, cmpD, ixD, slD, R.opt, setV, intR, boolR, muD, preM, biD, lenD, callO, ioSlots, ioOk, putsO, flatD, lineD, isTy, isiOk, noCls, W_nx, W_rt, W_bk, W_ct, io, a0, c5]
  refine W_cons ?_
  simp [ex, ev, evs, evo, mkO, slot, R.bind, R.x, Opd.get, getsO, itR, itemsD, shares, noSlots, share, binD, cmpD, ixD, slD, R.opt, setV, intR, boolR, muD, preM, biD, lenD, callO, ioSlots, ioOk, putsO, flatD, lineD, isTy, isiOk, noCls, W_nx, W_rt, W_bk, W_ct, io, a1, hcut]
  refine W_cons ?_
  simp [ex, ev, evs, evo, mkO, slot, R.bind, R.x, Opd.get, getsO, itR, itemsD, shares, noSlots, share, binD, cmpD, ixD, slD, R.opt, setV, intR, boolR, muD, preM, biD, lenD, callO, ioSlots, ioOk, putsO, flatD, lineD, isTy, isiOk, noCls, W_nx, W_rt, W_bk, W_ct, io, c7]
  refine W_cons ?_
  simp [ex, ev, evs, evo, mkO, slot, R.bind, R.x, Opd.get, getsO, itR, itemsD, shares, noSlots, share, binD, cmpD, ixD, slD, R.opt, setV, intR, boolR, muD, preM, biD, lenD, callO, ioSlots, ioOk, putsO, flatD, lineD, isTy, isiOk, noCls, W_nx, W_rt, W_bk, W_ct, io, c2]
  refine W_cons ?_
  simp [ex, ev, evs, evo, mkO, slot, R.bind, R.x, Opd.get, getsO, itR, itemsD, shares, noSlots, share, binD, cmpD, ixD, slD, R.opt, setV, intR, boolR, muD, preM, biD, lenD, callO, ioSlots, ioOk, putsO, flatD, lineD, isTy, isiOk, noCls, W_nx, W_rt, W_bk, W_ct, io, c8a]
  refine W_cons ?_
  simp [ex, ev, evs, evo, mkO, slot, R.bind, R.x, Opd.get, getsO, itR, itemsD, shares, noSlots, share, binD, cmpD, ixD, slD, R.opt, setV, intR, boolR, muD, preM, biD, lenD, callO, ioSlots, ioOk, putsO, flatD, lineD, isTy, isiOk, noCls, W_nx, W_rt, W_bk, W_ct, io, c8b]
  refine W_cons ?_
  simp [ex, ev, evs, evo, mkO, slot, R.bind, R.x, Opd.get, getsO, itR, itemsD, shares, noSlots, share, binD, cmpD, ixD, slD, R.opt, setV, intR, boolR, muD, preM, biD, lenD, callO, ioSlots, ioOk, putsO, flatD, lineD, isTy, isiOk, noCls, W_nx, W_rt, W_bk, W_ct, io, c10a]
  refine W_cons ?_
  simp [ex, ev, evs, evo, mkO, slot, R.bind, R.x, Opd.get, getsO, itR, itemsD, shares, noSlots, share, binD, cmpD, ixD, slD, R.opt, setV, intR, boolR, muD, preM, biD, lenD, callO, ioSlots, ioOk, putsO, flatD, lineD, isTy, isiOk, noCls, W_nx, W_rt, W_bk, W_ct, io, c10b]
  refine W_cons ?_
  simp [ex, ev, evs, evo, mkO, slot, R.bind, R.x, Opd.get, getsO, itR, itemsD, shares, noSlots, share, binD, cmpD, ixD, slD, R.opt, setV, intR, boolR, muD, preM, biD, lenD, callO, ioSlots, ioOk, putsO, flatD, lineD, isTy, isiOk, noCls, W_nx, W_rt, W_bk, W_ct, kp1, kp2]
  refine W_nil ?_
  refine W_cons ?_
  simp [ex, ev, evs, evo, mkO, slot, R.bind, R.x, Opd.get, getsO, itR, itemsD, shares, noSlots, share, binD, cmpD, ixD, slD, R.opt, setV, intR, boolR, muD, preM, biD, lenD, callO, ioSlots, ioOk, putsO, flatD, lineD, isTy, isiOk, noCls, W_nx, W_rt, W_bk, W_ct, io, c3]
  refine W_cons ?_
  simp [ex, ev, evs, evo, mkO, slot, R.bind, R.x, Opd.get, getsO, itR, itemsD, shares, noSlots, share, binD, cmpD, ixD, slD, R.opt, setV, intR, boolR, muD, preM, biD, lenD, callO, ioSlots, ioOk, putsO, flatD, lineD, isTy, isiOk, noCls, W_nx, W_rt, W_bk, W_ct, eqD_int, eqD_bl]
theorem u60 (ds : List D) : (pg.ct 100 6).call 0 ds = runDef (pg.ct 100 5) fi0 ds := rfl
theorem u70 (ds : List D) : (pg.ct 100 7).call 0 ds = runDef (pg.ct 100 6) fi0 ds := rfl
theorem u61 (ds : List D) : (pg.ct 100 6).call 1 ds = runDef (pg.ct 100 5) fi1 ds := rfl
theorem u71 (ds : List D) : (pg.ct 100 7).call 1 ds = runDef (pg.ct 100 6) fi1 ds := rfl
theorem u62 (ds : List D) : (pg.ct 100 6).call 2 ds = runDef (pg.ct 100 5) fi2 ds := rfl
theorem u72 (ds : List D) : (pg.ct 100 7).call 2 ds = runDef (pg.ct 100 6) fi2 ds := rfl
theorem u63 (ds : List D) : (pg.ct 100 6).call 3 ds = runDef (pg.ct 100 5) fi3 ds := rfl
theorem u73 (ds : List D) : (pg.ct 100 7).call 3 ds = runDef (pg.ct 100 6) fi3 ds := rfl
theorem u64 (ds : List D) : (pg.ct 100 6).call 4 ds = runDef (pg.ct 100 5) fi4 ds := rfl
theorem u74 (ds : List D) : (pg.ct 100 7).call 4 ds = runDef (pg.ct 100 6) fi4 ds := rfl
theorem u65 (ds : List D) : (pg.ct 100 6).call 5 ds = runDef (pg.ct 100 5) fi5 ds := rfl
theorem u75 (ds : List D) : (pg.ct 100 7).call 5 ds = runDef (pg.ct 100 6) fi5 ds := rfl
theorem u66 (ds : List D) : (pg.ct 100 6).call 6 ds = runDef (pg.ct 100 5) fi6 ds := rfl
theorem u76 (ds : List D) : (pg.ct 100 7).call 6 ds = runDef (pg.ct 100 6) fi6 ds := rfl
theorem u67 (ds : List D) : (pg.ct 100 6).call 7 ds = runDef (pg.ct 100 5) fi7 ds := rfl
theorem u77 (ds : List D) : (pg.ct 100 7).call 7 ds = runDef (pg.ct 100 6) fi7 ds := rfl
theorem u68 (ds : List D) : (pg.ct 100 6).call 8 ds = runDef (pg.ct 100 5) fi8 ds := rfl
theorem u78 (ds : List D) : (pg.ct 100 7).call 8 ds = runDef (pg.ct 100 6) fi8 ds := rfl
theorem u69 (ds : List D) : (pg.ct 100 6).call 9 ds = runDef (pg.ct 100 5) fi9 ds := rfl
theorem u79 (ds : List D) : (pg.ct 100 7).call 9 ds = runDef (pg.ct 100 6) fi9 ds := rfl
theorem u610 (ds : List D) : (pg.ct 100 6).call 10 ds = runDef (pg.ct 100 5) fi10 ds := rfl
theorem u710 (ds : List D) : (pg.ct 100 7).call 10 ds = runDef (pg.ct 100 6) fi10 ds := rfl
theorem u8 (ds : List D) : (pg.ct 100 8).call 11 ds = runDef (pg.ct 100 7) fi11 ds := rfl
theorem call_law (ns : List Int) (hl : ns.length ≤ 63) : (pg.ct 100 8).call 11 [.scr ns] = .ok ⟨.bl true, false⟩ [] := by
  rw [u8]
  -- the parts
  have io : ∀ j, (pg.ct 100 7).io j = [] := fun j => by
    show pg.io j = []
    unfold Pg.io pg
    match j with
    | 0 | 1 | 2 | 3 | 4 | 5 | 6 | 7 | 8 | 9 | 10 | 11 => rfl
    | n + 12 => rfl
  have io6 : ∀ j, (pg.ct 100 6).io j = [] := io
  have c4 : ∀ k : Int, 0 ≤ k → (pg.ct 100 7).call 4 [.scr ns, .int k] = .ok ⟨.int (gd ns k), false⟩ [] := fun k h => (u74 _).trans (at_run (Φ := pg.ct 100 6) ns k h)
  have d4 : ∀ k : Int, 0 ≤ k → (pg.ct 100 6).call 4 [.scr ns, .int k] = .ok ⟨.int (gd ns k), false⟩ [] := fun k h => (u64 _).trans (at_run (Φ := pg.ct 100 5) ns k h)
  obtain ⟨lv, d6⟩ : ∃ lv : Int → Int, ∀ c, (pg.ct 100 6).call 6 [.int c] = .ok ⟨.int (lv c), false⟩ [] := ⟨fun c => Classical.choose (value_run (Φ := pg.ct 100 5) c), fun c => (u66 _).trans (Classical.choose_spec (value_run (Φ := pg.ct 100 5) c))⟩
  obtain ⟨a, b, d, e, nd4, c5⟩ := names_run (Φ := pg.ct 100 6) (gd ns 0)
  have c5 : (pg.ct 100 7).call 5 [.int (gd ns 0)] = .ok ⟨.lst [.str a, .str b, .str d, .str e], true⟩ [] := (u75 _).trans c5
  obtain ⟨vs, vl, vn, c7⟩ := values_run (Φ := pg.ct 100 6) ns (io6 4) (io6 6) d4 lv d6
  have c7 : (pg.ct 100 7).call 7 [.scr ns] = .ok ⟨.lst (vs.map .int), true⟩ [] := (u77 _).trans c7
  have q0 : 0 ≤ gd ns 1 % 4 := Int.emod_nonneg _ (by decide)
  have q1 : gd ns 1 % 4 < 4 := Int.emod_lt_of_pos _ (by decide)
  obtain ⟨gaps, hgaps⟩ : ∃ gaps : List Str, gaps = [a, b, d, e].take (gd ns 1 % 4).toNat := ⟨_, rfl⟩
  have gl : gaps.length ≤ 3 := by rw [hgaps, List.length_take]; omega
  have gn : gaps.Nodup := by rw [hgaps]; exact List.Nodup.sublist (List.take_sublist _ _) nd4
  have hcut : cutD [D.str a, .str b, .str d, .str e] none (some (gd ns 1 % 4)) = gaps.map .str := by
    have := cut_take [D.str a, .str b, .str d, .str e] (gd ns 1 % 4).toNat
    rw [Int.toNat_of_nonneg q0] at this
    rw [this, hgaps, List.map_take]
    rfl
  have hbd : bnd (vs.length : Int) gaps.length ≤ 1000 := bnd33 ⟨vs.length, by omega⟩ ⟨gaps.length, by omega⟩
  obtain ⟨new, fr, f1⟩ := fresh_run (Φ := pg.ct 100 5) vs gaps.length (by omega) (by show gaps.length + vs.length < 100; omega)
  rw [← u61] at f1
  have f0 : (pg.ct 100 6).call 0 [.int gaps.length, .int vs.length] = .ok ⟨.int (bnd vs.length gaps.length), false⟩ [] := by
    obtain ⟨G, hG⟩ : ∃ G : Int, (gaps.length : Int) = G := ⟨_, rfl⟩
    obtain ⟨V, hV⟩ : ∃ V : Int, (vs.length : Int) = V := ⟨_, rfl⟩
    have h := bound_run (Φ := pg.ct 100 5) G V (big_of (by omega) (by omega)) (fun i hi => small_of (by omega) (by omega))
    have hg : G.toNat = gaps.length := by omega
    rw [hG, hV, u60, h, hg]
  have c2 : (pg.ct 100 7).call 2 [.lst (gaps.map .str), .lst (vs.map .int)] = .ok ⟨.lst ((kk (sortI vs) new gaps.length).map fun p => .dK (zipK gaps p.1)), true⟩ [] :=
    (u72 _).trans <| kinds_run (Φ := pg.ct 100 6) gaps vs new gn (by omega) (by omega) fr.len hbd (io6 0) (io6 1) f0 f1
  obtain ⟨ts, hts⟩ : ∃ ts, ts = (kk (sortI vs) new gaps.length).map fun p => zipK gaps p.1 := ⟨_, rfl⟩
  have hts2 : ((kk (sortI vs) new gaps.length).map fun p => D.dK (zipK gaps p.1)) = ts.map D.dK := by rw [hts, List.map_map]; rfl
  rw [hts2] at c2
  have tok : ∀ t ∈ ts, Ok gaps t := fun t ht => by
    rw [hts] at ht
    obtain ⟨p, hp, rfl⟩ := List.mem_map.mp ht
    exact zip_ok gn (kk_shape _ _ _ p hp).1
  have tl : ts.length ≤ 1000 := by
    have h1 := kk_len (sortI vs) new gaps.length
    have h2 : (sortI vs).length = vs.length := (sortI_perm vs).length_eq
    rw [h2] at h1
    rw [hts, List.length_map]
    omega
  obtain ⟨one, o1, o2, _, c8a⟩ := filling_run (Φ := pg.ct 100 6) ns 6 (by decide) a b d e gaps gn gl vs (io6 4) (io6 6) d4 lv d6
  obtain ⟨two, w1, w2, _, c8b⟩ := filling_run (Φ := pg.ct 100 6) ns 10 (by decide) a b d e gaps gn gl vs (io6 4) (io6 6) d4 lv d6
  have c8a : (pg.ct 100 7).call 8 [.scr ns, .int 6, .lst [.str a, .str b, .str d, .str e], .lst (gaps.map .str), .lst (vs.map .int)] = .ok ⟨.dK one, true⟩ [] := (u78 _).trans c8a
  have c8b : (pg.ct 100 7).call 8 [.scr ns, .int 10, .lst [.str a, .str b, .str d, .str e], .lst (gaps.map .str), .lst (vs.map .int)] = .ok ⟨.dK two, true⟩ [] := (u78 _).trans c8b
  have ok1 : Ok gaps one := ⟨o1, o2⟩
  have ok2 : Ok gaps two := ⟨w1, w2⟩
  have h3 : ∀ x y, Ok gaps x → Ok gaps y → (pg.ct 100 6).call 3 [.lst (gaps.map .str), .lst (vs.map .int), .dK x, .dK y] = .ok ⟨.bl (decide (AL gaps vs (fOf x) (fOf y))), false⟩ [] := fun x y hx hy => (u63 _).trans (alike_run (Φ := pg.ct 100 5) gaps vs x y _ _ hx.has hy.has)
  have h9 : ∀ x y, Ok gaps x → Ok gaps y → (pg.ct 100 6).call 9 [.lst (gaps.map .str), .lst (vs.map .int), .dK x, .dK y] = .ok ⟨.bl (decide (AL gaps vs (fOf x) (fOf y))), false⟩ [] := fun x y hx hy => (u69 _).trans (lalike_run (Φ := pg.ct 100 5) gaps vs x y _ _ hx.has hy.has)
  obtain ⟨k1, k1l, k1u⟩ := kind_of gn vn fr (fOf one)
  obtain ⟨k2, k2l, k2u⟩ := kind_of gn vn fr (fOf two)
  simp only [← hts] at k1l k1u k2l k2u
  have c10a : (pg.ct 100 7).call 10 [.lst (gaps.map .str), .lst (vs.map .int), .lst (ts.map .dK), .dK one] = .ok ⟨.int k1, false⟩ [] := (u710 _).trans <| only_run (Φ := pg.ct 100 6) gaps vs ts one tok ok1 tl k1 k1l k1u (io6 3) (io6 9) h3 h9
  have c10b : (pg.ct 100 7).call 10 [.lst (gaps.map .str), .lst (vs.map .int), .lst (ts.map .dK), .dK two] = .ok ⟨.int k2, false⟩ [] := (u710 _).trans <| only_run (Φ := pg.ct 100 6) gaps vs ts two tok ok2 tl k2 k2l k2u (io6 3) (io6 9) h3 h9
  have c3 : (pg.ct 100 7).call 3 [.lst (gaps.map .str), .lst (vs.map .int), .dK one, .dK two] = .ok ⟨.bl (decide (AL gaps vs (fOf one) (fOf two))), false⟩ [] := (u73 _).trans (alike_run (Φ := pg.ct 100 6) gaps vs one two _ _ ok1.has ok2.has)
  have fin : decide (AL gaps vs (fOf one) (fOf two)) = ((k1 : Int) == (k2 : Int)) := by
    have e : ((k1 : Int) == (k2 : Int)) = decide (k1 = k2) := by
      by_cases h : k1 = k2
      · subst h; simp
      · rw [decide_eq_false h]
        simp only [beq_eq_false_iff_ne]
        omega
    rw [e, decide_eq_decide]
    constructor
    · intro h
      exact (k2u k1 k1l).mp (AL_trans ((k1u k1 k1l).mpr rfl) h)
    · intro h
      have h1 := (k1u k1 k1l).mpr rfl
      have h2 := (k2u k1 k1l).mpr h
      exact AL_trans (AL_symm.mp h1) h2
  rw [fin] at c3
  have a0 := c4 0 (by decide)
  have a1 := c4 1 (by decide)
  exact law_run io ns a b d e gaps vs ts one two (k1 : Int) (k2 : Int) (by omega) (by omega) a0 a1 c5 c7 hcut c2 c8a c8b c10a c10b c3
end K16
namespace K16
open PySem PySem.Spec PyProof.Rows L2 MT
def nm0 (K : PySem.W.Frag) : Nm := ⟨K, fun _ => 0, fun _ => ""⟩
structure FX (K : PySem.W.Frag) (mg : Str → Option Value) : Prop where
  n_bool : mg "bool" = none
  n_dict : mg "dict" = none
  n_enumerate : mg "enumerate" = none
  n_isinstance : mg "isinstance" = none
  n_len : mg "len" = none
  n_list : mg "list" = none
  n_max : mg "max" = none
  n_range : mg "range" = none
  n_sorted : mg "sorted" = none
  i_MOST : ∃ t, mg "MOST" = some (.int 1000 t)
  f0 : ∃ f fd, FunD K "bound" "bound" (defArgs (top 5)) (defBody (top 5)) (defScope (top 5)) [] [] f fd ∧ mg "bound" = some (.ref f)
  f1 : ∃ f fd, FunD K "fresh" "fresh" (defArgs (top 6)) (defBody (top 6)) (defScope (top 6)) [] [] f fd ∧ mg "fresh" = some (.ref f)
  f2 : ∃ f fd, FunD K "kinds" "kinds" (defArgs (top 7)) (defBody (top 7)) (defScope (top 7)) [] [] f fd ∧ mg "kinds" = some (.ref f)
  f3 : ∃ f fd, FunD K "alike" "alike" (defArgs (top 8)) (defBody (top 8)) (defScope (top 8)) [] [] f fd ∧ mg "alike" = some (.ref f)
  f4 : ∃ f fd, FunD K "_law_at" "_law_at" (defArgs (top 10)) (defBody (top 10)) (defScope (top 10)) [] [] f fd ∧ mg "_law_at" = some (.ref f)
  f5 : ∃ f fd, FunD K "_law_names" "_law_names" (defArgs (top 11)) (defBody (top 11)) (defScope (top 11)) [] [] f fd ∧ mg "_law_names" = some (.ref f)
  f6 : ∃ f fd, FunD K "_law_value" "_law_value" (defArgs (top 12)) (defBody (top 12)) (defScope (top 12)) [] [] f fd ∧ mg "_law_value" = some (.ref f)
  f7 : ∃ f fd, FunD K "_law_values" "_law_values" (defArgs (top 13)) (defBody (top 13)) (defScope (top 13)) [] [] f fd ∧ mg "_law_values" = some (.ref f)
  f8 : ∃ f fd, FunD K "_law_filling" "_law_filling" (defArgs (top 14)) (defBody (top 14)) (defScope (top 14)) [] [] f fd ∧ mg "_law_filling" = some (.ref f)
  f9 : ∃ f fd, FunD K "_law_alike" "_law_alike" (defArgs (top 15)) (defBody (top 15)) (defScope (top 15)) [] [] f fd ∧ mg "_law_alike" = some (.ref f)
  f10 : ∃ f fd, FunD K "_law_only" "_law_only" (defArgs (top 16)) (defBody (top 16)) (defScope (top 16)) [] [] f fd ∧ mg "_law_only" = some (.ref f)
  f11 : ∃ f fd, FunD K "law" "law" (defArgs (top 17)) (defBody (top 17)) (defScope (top 17)) [] [] f fd ∧ mg "law" = some (.ref f)
theorem bi0 {K : PySem.W.Frag} {f : Addr} {fd : FuncData} (F : FunD K "bound" "bound" (defArgs (top 5)) (defBody (top 5)) (defScope (top 5)) [] [] f fd) : Binds K fd ["gaps", "values"] [] := F.bindsN fun _ _ _ _ _ _ us hl => match us, hl with | [_, _], _ => rfl
theorem ok0 {P : Program} {w : World} {K : PySem.W.Frag} {mg : Str → Option Value} {base : Heap} {k wf : Nat} {f : Addr} {fd : FuncData} (F : FunD K "bound" "bound" (defArgs (top 5)) (defBody (top 5)) (defScope (top 5)) [] [] f fd) (G : GF P w (nm0 K) mg base k (pg.ct wf k)) :
    FnOk P w K mg base (L2.CX P w) (k + 1) f fd ["gaps", "values"] (spD (nm0 K) (pg.ct wf (k + 1)) 2 0) :=
  def_ok (nm := nm0 K) (Φ := pg.ct wf k) (Φ' := pg.ct wf (k + 1)) (fi := fi0) (N := N0) F sc0 (fun ds => rfl) rfl rfl rfl fun cdv A outer s H E hr tk hp => body0 G cdv A outer s H E hr tk hp
theorem bi1 {K : PySem.W.Frag} {f : Addr} {fd : FuncData} (F : FunD K "fresh" "fresh" (defArgs (top 6)) (defBody (top 6)) (defScope (top 6)) [] [] f fd) : Binds K fd ["values", "many"] [] := F.bindsN fun _ _ _ _ _ _ us hl => match us, hl with | [_, _], _ => rfl
theorem ok1 {P : Program} {w : World} {K : PySem.W.Frag} {mg : Str → Option Value} {base : Heap} {k wf : Nat} {f : Addr} {fd : FuncData} (F : FunD K "fresh" "fresh" (defArgs (top 6)) (defBody (top 6)) (defScope (top 6)) [] [] f fd) (G : GF P w (nm0 K) mg base k (pg.ct wf k)) :
    FnOk P w K mg base (L2.CX P w) (k + 1) f fd ["values", "many"] (spD (nm0 K) (pg.ct wf (k + 1)) 2 1) :=
  def_ok (nm := nm0 K) (Φ := pg.ct wf k) (Φ' := pg.ct wf (k + 1)) (fi := fi1) (N := N1) F sc1 (fun ds => rfl) rfl rfl rfl fun cdv A outer s H E hr tk hp => body1 G cdv A outer s H E hr tk hp
theorem bi2 {K : PySem.W.Frag} {f : Addr} {fd : FuncData} (F : FunD K "kinds" "kinds" (defArgs (top 7)) (defBody (top 7)) (defScope (top 7)) [] [] f fd) : Binds K fd ["gaps", "values"] [] := F.bindsN fun _ _ _ _ _ _ us hl => match us, hl with | [_, _], _ => rfl
theorem ok2 {P : Program} {w : World} {K : PySem.W.Frag} {mg : Str → Option Value} {base : Heap} {k wf : Nat} {f : Addr} {fd : FuncData} (F : FunD K "kinds" "kinds" (defArgs (top 7)) (defBody (top 7)) (defScope (top 7)) [] [] f fd) (G : GF P w (nm0 K) mg base k (pg.ct wf k)) :
    FnOk P w K mg base (L2.CX P w) (k + 1) f fd ["gaps", "values"] (spD (nm0 K) (pg.ct wf (k + 1)) 2 2) :=
  def_ok (nm := nm0 K) (Φ := pg.ct wf k) (Φ' := pg.ct wf (k + 1)) (fi := fi2) (N := N2) F sc2 (fun ds => rfl) rfl rfl rfl fun cdv A outer s H E hr tk hp => body2 G cdv A outer s H E hr tk hp
theorem bi3 {K : PySem.W.Frag} {f : Addr} {fd : FuncData} (F : FunD K "alike" "alike" (defArgs (top 8)) (defBody (top 8)) (defScope (top 8)) [] [] f fd) : Binds K fd ["gaps", "values", "one", "other"] [] := F.bindsN fun _ _ _ _ _ _ us hl => match us, hl with | [_, _, _, _], _ => rfl
theorem ok3 {P : Program} {w : World} {K : PySem.W.Frag} {mg : Str → Option Value} {base : Heap} {k wf : Nat} {f : Addr} {fd : FuncData} (F : FunD K "alike" "alike" (defArgs (top 8)) (defBody (top 8)) (defScope (top 8)) [] [] f fd) (G : GF P w (nm0 K) mg base k (pg.ct wf k)) :
    FnOk P w K mg base (L2.CX P w) (k + 1) f fd ["gaps", "values", "one", "other"] (spD (nm0 K) (pg.ct wf (k + 1)) 4 3) :=
  def_ok (nm := nm0 K) (Φ := pg.ct wf k) (Φ' := pg.ct wf (k + 1)) (fi := fi3) (N := N3) F sc3 (fun ds => rfl) rfl rfl rfl fun cdv A outer s H E hr tk hp => body3 G cdv A outer s H E hr tk hp
theorem bi4 {K : PySem.W.Frag} {f : Addr} {fd : FuncData} (F : FunD K "_law_at" "_law_at" (defArgs (top 10)) (defBody (top 10)) (defScope (top 10)) [] [] f fd) : Binds K fd ["_law_script", "_law_k"] [] := F.bindsN fun _ _ _ _ _ _ us hl => match us, hl with | [_, _], _ => rfl
theorem ok4 {P : Program} {w : World} {K : PySem.W.Frag} {mg : Str → Option Value} {base : Heap} {k wf : Nat} {f : Addr} {fd : FuncData} (F : FunD K "_law_at" "_law_at" (defArgs (top 10)) (defBody (top 10)) (defScope (top 10)) [] [] f fd) (G : GF P w (nm0 K) mg base k (pg.ct wf k)) :
    FnOk P w K mg base (L2.CX P w) (k + 1) f fd ["_law_script", "_law_k"] (spD (nm0 K) (pg.ct wf (k + 1)) 2 4) :=
  def_ok (nm := nm0 K) (Φ := pg.ct wf k) (Φ' := pg.ct wf (k + 1)) (fi := fi4) (N := N4) F sc4 (fun ds => rfl) rfl rfl rfl fun cdv A outer s H E hr tk hp => body4 G cdv A outer s H E hr tk hp
theorem bi5 {K : PySem.W.Frag} {f : Addr} {fd : FuncData} (F : FunD K "_law_names" "_law_names" (defArgs (top 11)) (defBody (top 11)) (defScope (top 11)) [] [] f fd) : Binds K fd ["_law_cell"] [] := F.bindsN fun _ _ _ _ _ _ us hl => match us, hl with | [_], _ => rfl
theorem ok5 {P : Program} {w : World} {K : PySem.W.Frag} {mg : Str → Option Value} {base : Heap} {k wf : Nat} {f : Addr} {fd : FuncData} (F : FunD K "_law_names" "_law_names" (defArgs (top 11)) (defBody (top 11)) (defScope (top 11)) [] [] f fd) (G : GF P w (nm0 K) mg base k (pg.ct wf k)) :
    FnOk P w K mg base (L2.CX P w) (k + 1) f fd ["_law_cell"] (spD (nm0 K) (pg.ct wf (k + 1)) 1 5) :=
  def_ok (nm := nm0 K) (Φ := pg.ct wf k) (Φ' := pg.ct wf (k + 1)) (fi := fi5) (N := N5) F sc5 (fun ds => rfl) rfl rfl rfl fun cdv A outer s H E hr tk hp => body5 G cdv A outer s H E hr tk hp
theorem bi6 {K : PySem.W.Frag} {f : Addr} {fd : FuncData} (F : FunD K "_law_value" "_law_value" (defArgs (top 12)) (defBody (top 12)) (defScope (top 12)) [] [] f fd) : Binds K fd ["_law_cell"] [] := F.bindsN fun _ _ _ _ _ _ us hl => match us, hl with | [_], _ => rfl
theorem ok6 {P : Program} {w : World} {K : PySem.W.Frag} {mg : Str → Option Value} {base : Heap} {k wf : Nat} {f : Addr} {fd : FuncData} (F : FunD K "_law_value" "_law_value" (defArgs (top 12)) (defBody (top 12)) (defScope (top 12)) [] [] f fd) (G : GF P w (nm0 K) mg base k (pg.ct wf k)) :
    FnOk P w K mg base (L2.CX P w) (k + 1) f fd ["_law_cell"] (spD (nm0 K) (pg.ct wf (k + 1)) 1 6) :=
  def_ok (nm := nm0 K) (Φ := pg.ct wf k) (Φ' := pg.ct wf (k + 1)) (fi := fi6) (N := N6) F sc6 (fun ds => rfl) rfl rfl rfl fun cdv A outer s H E hr tk hp => body6 G cdv A outer s H E hr tk hp
theorem bi7 {K : PySem.W.Frag} {f : Addr} {fd : FuncData} (F : FunD K "_law_values" "_law_values" (defArgs (top 13)) (defBody (top 13)) (defScope (top 13)) [] [] f fd) : Binds K fd ["_law_script"] [] := F.bindsN fun _ _ _ _ _ _ us hl => match us, hl with | [_], _ => rfl
theorem ok7 {P : Program} {w : World} {K : PySem.W.Frag} {mg : Str → Option Value} {base : Heap} {k wf : Nat} {f : Addr} {fd : FuncData} (F : FunD K "_law_values" "_law_values" (defArgs (top 13)) (defBody (top 13)) (defScope (top 13)) [] [] f fd) (G : GF P w (nm0 K) mg base k (pg.ct wf k)) :
    FnOk P w K mg base (L2.CX P w) (k + 1) f fd ["_law_script"] (spD (nm0 K) (pg.ct wf (k + 1)) 1 7) :=
  def_ok (nm := nm0 K) (Φ := pg.ct wf k) (Φ' := pg.ct wf (k + 1)) (fi := fi7) (N := N7) F sc7 (fun ds => rfl) rfl rfl rfl fun cdv A outer s H E hr tk hp => body7 G cdv A outer s H E hr tk hp
theorem bi8 {K : PySem.W.Frag} {f : Addr} {fd : FuncData} (F : FunD K "_law_filling" "_law_filling" (defArgs (top 14)) (defBody (top 14)) (defScope (top 14)) [] [] f fd) : Binds K fd ["_law_script", "_law_start", "_law_names_here", "_law_gaps", "_law_values_here"] [] := F.bindsN fun _ _ _ _ _ _ us hl => match us, hl with | [_, _, _, _, _], _ => rfl
theorem ok8 {P : Program} {w : World} {K : PySem.W.Frag} {mg : Str → Option Value} {base : Heap} {k wf : Nat} {f : Addr} {fd : FuncData} (F : FunD K "_law_filling" "_law_filling" (defArgs (top 14)) (defBody (top 14)) (defScope (top 14)) [] [] f fd) (G : GF P w (nm0 K) mg base k (pg.ct wf k)) :
    FnOk P w K mg base (L2.CX P w) (k + 1) f fd ["_law_script", "_law_start", "_law_names_here", "_law_gaps", "_law_values_here"] (spD (nm0 K) (pg.ct wf (k + 1)) 5 8) :=
  def_ok (nm := nm0 K) (Φ := pg.ct wf k) (Φ' := pg.ct wf (k + 1)) (fi := fi8) (N := N8) F sc8 (fun ds => rfl) rfl rfl rfl fun cdv A outer s H E hr tk hp => body8 G cdv A outer s H E hr tk hp
theorem bi9 {K : PySem.W.Frag} {f : Addr} {fd : FuncData} (F : FunD K "_law_alike" "_law_alike" (defArgs (top 15)) (defBody (top 15)) (defScope (top 15)) [] [] f fd) : Binds K fd ["_law_gaps", "_law_values_here", "_law_one", "_law_other"] [] := F.bindsN fun _ _ _ _ _ _ us hl => match us, hl with | [_, _, _, _], _ => rfl
theorem ok9 {P : Program} {w : World} {K : PySem.W.Frag} {mg : Str → Option Value} {base : Heap} {k wf : Nat} {f : Addr} {fd : FuncData} (F : FunD K "_law_alike" "_law_alike" (defArgs (top 15)) (defBody (top 15)) (defScope (top 15)) [] [] f fd) (G : GF P w (nm0 K) mg base k (pg.ct wf k)) :
    FnOk P w K mg base (L2.CX P w) (k + 1) f fd ["_law_gaps", "_law_values_here", "_law_one", "_law_other"] (spD (nm0 K) (pg.ct wf (k + 1)) 4 9) :=
  def_ok (nm := nm0 K) (Φ := pg.ct wf k) (Φ' := pg.ct wf (k + 1)) (fi := fi9) (N := N9) F sc9 (fun ds => rfl) rfl rfl rfl fun cdv A outer s H E hr tk hp => body9 G cdv A outer s H E hr tk hp
theorem bi10 {K : PySem.W.Frag} {f : Addr} {fd : FuncData} (F : FunD K "_law_only" "_law_only" (defArgs (top 16)) (defBody (top 16)) (defScope (top 16)) [] [] f fd) : Binds K fd ["_law_gaps", "_law_values_here", "_law_told", "_law_filling_here"] [] := F.bindsN fun _ _ _ _ _ _ us hl => match us, hl with | [_, _, _, _], _ => rfl
theorem ok10 {P : Program} {w : World} {K : PySem.W.Frag} {mg : Str → Option Value} {base : Heap} {k wf : Nat} {f : Addr} {fd : FuncData} (F : FunD K "_law_only" "_law_only" (defArgs (top 16)) (defBody (top 16)) (defScope (top 16)) [] [] f fd) (G : GF P w (nm0 K) mg base k (pg.ct wf k)) :
    FnOk P w K mg base (L2.CX P w) (k + 1) f fd ["_law_gaps", "_law_values_here", "_law_told", "_law_filling_here"] (spD (nm0 K) (pg.ct wf (k + 1)) 4 10) :=
  def_ok (nm := nm0 K) (Φ := pg.ct wf k) (Φ' := pg.ct wf (k + 1)) (fi := fi10) (N := N10) F sc10 (fun ds => rfl) rfl rfl rfl fun cdv A outer s H E hr tk hp => body10 G cdv A outer s H E hr tk hp
theorem bi11 {K : PySem.W.Frag} {f : Addr} {fd : FuncData} (F : FunD K "law" "law" (defArgs (top 17)) (defBody (top 17)) (defScope (top 17)) [] [] f fd) : Binds K fd ["_law_script"] [] := F.bindsN fun _ _ _ _ _ _ us hl => match us, hl with | [_], _ => rfl
theorem ok11 {P : Program} {w : World} {K : PySem.W.Frag} {mg : Str → Option Value} {base : Heap} {k wf : Nat} {f : Addr} {fd : FuncData} (F : FunD K "law" "law" (defArgs (top 17)) (defBody (top 17)) (defScope (top 17)) [] [] f fd) (G : GF P w (nm0 K) mg base k (pg.ct wf k)) :
    FnOk P w K mg base (L2.CX P w) (k + 1) f fd ["_law_script"] (spD (nm0 K) (pg.ct wf (k + 1)) 1 11) :=
  def_ok (nm := nm0 K) (Φ := pg.ct wf k) (Φ' := pg.ct wf (k + 1)) (fi := fi11) (N := N11) F sc11 (fun ds => rfl) rfl rfl rfl fun cdv A outer s H E hr tk hp => body11 G cdv A outer s H E hr tk hp
theorem gf {P : Program} {w : World} {K : PySem.W.Frag} {mg : Str → Option Value} {base : Heap} {wf : Nat} (X : FX K mg) : ∀ n : Nat, GF P w (nm0 K) mg base n (pg.ct wf n)
  | 0 => { n_bool := X.n_bool, n_dict := X.n_dict, n_enumerate := X.n_enumerate, n_isinstance := X.n_isinstance, n_len := X.n_len, n_list := X.n_list, n_max := X.n_max, n_range := X.n_range, n_sorted := X.n_sorted, i_MOST := X.i_MOST, c_bound := (let ⟨_, _, F, m⟩ := X.f0; cal_stuck (fun _ => rfl) rfl m F.kp (bi0 F)), c_fresh := (let ⟨_, _, F, m⟩ := X.f1; cal_stuck (fun _ => rfl) rfl m F.kp (bi1 F)), c_kinds := (let ⟨_, _, F, m⟩ := X.f2; cal_stuck (fun _ => rfl) rfl m F.kp (bi2 F)), c_alike := (let ⟨_, _, F, m⟩ := X.f3; cal_stuck (fun _ => rfl) rfl m F.kp (bi3 F)), c__law_at := (let ⟨_, _, F, m⟩ := X.f4; cal_stuck (fun _ => rfl) rfl m F.kp (bi4 F)), c__law_names := (let ⟨_, _, F, m⟩ := X.f5; cal_stuck (fun _ => rfl) rfl m F.kp (bi5 F)), c__law_value := (let ⟨_, _, F, m⟩ := X.f6; cal_stuck (fun _ => rfl) rfl m F.kp (bi6 F)), c__law_values := (let ⟨_, _, F, m⟩ := X.f7; cal_stuck (fun _ => rfl) rfl m F.kp (bi7 F)), c__law_filling := (let ⟨_, _, F, m⟩ := X.f8; cal_stuck (fun _ => rfl) rfl m F.kp (bi8 F)), c__law_alike := (let ⟨_, _, F, m⟩ := X.f9; cal_stuck (fun _ => rfl) rfl m F.kp (bi9 F)), c__law_only := (let ⟨_, _, F, m⟩ := X.f10; cal_stuck (fun _ => rfl) rfl m F.kp (bi10 F)) }
  | n + 1 => have G := gf X n
    { n_bool := X.n_bool, n_dict := X.n_dict, n_enumerate := X.n_enumerate, n_isinstance := X.n_isinstance, n_len := X.n_len, n_list := X.n_list, n_max := X.n_max, n_range := X.n_range, n_sorted := X.n_sorted, i_MOST := X.i_MOST, c_bound := (let ⟨_, _, F, m⟩ := X.f0; ⟨_, _, _, ok0 F G, m, F.kp, bi0 F⟩), c_fresh := (let ⟨_, _, F, m⟩ := X.f1; ⟨_, _, _, ok1 F G, m, F.kp, bi1 F⟩), c_kinds := (let ⟨_, _, F, m⟩ := X.f2; ⟨_, _, _, ok2 F G, m, F.kp, bi2 F⟩), c_alike := (let ⟨_, _, F, m⟩ := X.f3; ⟨_, _, _, ok3 F G, m, F.kp, bi3 F⟩), c__law_at := (let ⟨_, _, F, m⟩ := X.f4; ⟨_, _, _, ok4 F G, m, F.kp, bi4 F⟩), c__law_names := (let ⟨_, _, F, m⟩ := X.f5; ⟨_, _, _, ok5 F G, m, F.kp, bi5 F⟩), c__law_value := (let ⟨_, _, F, m⟩ := X.f6; ⟨_, _, _, ok6 F G, m, F.kp, bi6 F⟩), c__law_values := (let ⟨_, _, F, m⟩ := X.f7; ⟨_, _, _, ok7 F G, m, F.kp, bi7 F⟩), c__law_filling := (let ⟨_, _, F, m⟩ := X.f8; ⟨_, _, _, ok8 F G, m, F.kp, bi8 F⟩), c__law_alike := (let ⟨_, _, F, m⟩ := X.f9; ⟨_, _, _, ok9 F G, m, F.kp, bi9 F⟩), c__law_only := (let ⟨_, _, F, m⟩ := X.f10; ⟨_, _, _, ok10 F G, m, F.kp, bi10 F⟩) }
def mkD (x : Str) (i : Nat) : He.DefD := ⟨(x, none), x, x, defArgs (top i), defBody (top i), defScope (top i), [], []⟩
def fn : List He.DefD := [mkD "bound" 5, mkD "fresh" 6, mkD "kinds" 7, mkD "alike" 8, mkD "_law_at" 10, mkD "_law_names" 11, mkD "_law_value" 12, mkD "_law_values" 13, mkD "_law_filling" 14, mkD "_law_alike" 15, mkD "_law_only" 16, mkD "law" 17]
def fa : List He.Fa := [.glo "bound", .glo "fresh", .glo "kinds", .glo "alike", .glo "_law_at", .glo "_law_names", .glo "_law_value", .glo "_law_values", .glo "_law_filling", .glo "_law_alike", .glo "_law_only", .glo "law", .free "bool", .free "dict", .free "enumerate", .free "isinstance", .free "len", .free "list", .free "max", .free "range", .free "sorted", .int "MOST" 1000]
abbrev R : PySem.W.OpenRow := PySem.W.OpenLaw.row PySem.Challenge.rw_maybetables_k16_each_filling_of_one_kind
abbrev hk : PySem.W.Hook := He.hookD 4 fa fn
def ob (s : PySem.W.SharedT) : He.AlD := He.obsDG 4 fa fn (HandSHeadRun.getT s)
theorem ob_eq (s : PySem.W.SharedT) : ob s = hk.obs s.abs := He.obsDG_eq (HandSHeadRun.getT_eq s)
def loose : List Str := (["MaybeError", "TooMany", "MOST", "bound", "fresh", "kinds", "alike", "_law_at", "_law_names", "_law_value", "_law_values", "_law_filling", "_law_alike", "_law_only"] : List Str)
theorem run (w : World) : HandSHeadRun.RunEq R (PySem.W.view R.prog [17]) hk ob 3000 loose w := by
  intro os
  kernel_rfl
theorem fx {K : PySem.W.Frag} {h : Heap} {mg : Str → Option Value} (X : K.In h) (G : h.Ns mainGlobals mg) (c : He.SaysD fa fn K) : FX K mg where
  n_bool := He.free_ok X G (c.fact 12 (f := .free "bool") rfl)
  n_dict := He.free_ok X G (c.fact 13 (f := .free "dict") rfl)
  n_enumerate := He.free_ok X G (c.fact 14 (f := .free "enumerate") rfl)
  n_isinstance := He.free_ok X G (c.fact 15 (f := .free "isinstance") rfl)
  n_len := He.free_ok X G (c.fact 16 (f := .free "len") rfl)
  n_list := He.free_ok X G (c.fact 17 (f := .free "list") rfl)
  n_max := He.free_ok X G (c.fact 18 (f := .free "max") rfl)
  n_range := He.free_ok X G (c.fact 19 (f := .free "range") rfl)
  n_sorted := He.free_ok X G (c.fact 20 (f := .free "sorted") rfl)
  i_MOST := He.int_ok X G (c.fact 21 (f := .int "MOST" 1000) rfl)
  f0 := (let ⟨fd, F⟩ := c.def_ 0 (d := mkD "bound" 5) rfl; ⟨_, fd, F, He.glo_ok X G (c.fact 0 (f := .glo "bound") rfl)⟩)
  f1 := (let ⟨fd, F⟩ := c.def_ 1 (d := mkD "fresh" 6) rfl; ⟨_, fd, F, He.glo_ok X G (c.fact 1 (f := .glo "fresh") rfl)⟩)
  f2 := (let ⟨fd, F⟩ := c.def_ 2 (d := mkD "kinds" 7) rfl; ⟨_, fd, F, He.glo_ok X G (c.fact 2 (f := .glo "kinds") rfl)⟩)
  f3 := (let ⟨fd, F⟩ := c.def_ 3 (d := mkD "alike" 8) rfl; ⟨_, fd, F, He.glo_ok X G (c.fact 3 (f := .glo "alike") rfl)⟩)
  f4 := (let ⟨fd, F⟩ := c.def_ 4 (d := mkD "_law_at" 10) rfl; ⟨_, fd, F, He.glo_ok X G (c.fact 4 (f := .glo "_law_at") rfl)⟩)
  f5 := (let ⟨fd, F⟩ := c.def_ 5 (d := mkD "_law_names" 11) rfl; ⟨_, fd, F, He.glo_ok X G (c.fact 5 (f := .glo "_law_names") rfl)⟩)
  f6 := (let ⟨fd, F⟩ := c.def_ 6 (d := mkD "_law_value" 12) rfl; ⟨_, fd, F, He.glo_ok X G (c.fact 6 (f := .glo "_law_value") rfl)⟩)
  f7 := (let ⟨fd, F⟩ := c.def_ 7 (d := mkD "_law_values" 13) rfl; ⟨_, fd, F, He.glo_ok X G (c.fact 7 (f := .glo "_law_values") rfl)⟩)
  f8 := (let ⟨fd, F⟩ := c.def_ 8 (d := mkD "_law_filling" 14) rfl; ⟨_, fd, F, He.glo_ok X G (c.fact 8 (f := .glo "_law_filling") rfl)⟩)
  f9 := (let ⟨fd, F⟩ := c.def_ 9 (d := mkD "_law_alike" 15) rfl; ⟨_, fd, F, He.glo_ok X G (c.fact 9 (f := .glo "_law_alike") rfl)⟩)
  f10 := (let ⟨fd, F⟩ := c.def_ 10 (d := mkD "_law_only" 16) rfl; ⟨_, fd, F, He.glo_ok X G (c.fact 10 (f := .glo "_law_only") rfl)⟩)
  f11 := (let ⟨fd, F⟩ := c.def_ 11 (d := mkD "law" 17) rfl; ⟨_, fd, F, He.glo_ok X G (c.fact 11 (f := .glo "law") rfl)⟩)
end K16
open PySem PySem.W PySem.Calls PyProof.Rows
theorem PySem.Challenge.cw_maybetables_k16_each_filling_of_one_kind_holds : PySem.Challenge.rw_maybetables_k16_each_filling_of_one_kind.Holds := by
  w_on; o_law
  refine HandSHeadRun.head_any (r := OpenLaw.row PySem.Challenge.rw_maybetables_k16_each_filling_of_one_kind) (q := view (OpenLaw.row PySem.Challenge.rw_maybetables_k16_each_filling_of_one_kind).prog [17]) (H := K16.hk) (ob := K16.ob) (M := 3000) (loose := K16.loose) (d := HandSHeadRun.topDef (OpenLaw.row PySem.Challenge.rw_maybetables_k16_each_filling_of_one_kind).prog 17) (kwd := []) K16.ob_eq
    (by kernel_rfl) (fun s => by kernel_rfl) K16.run (by kernel_rfl) (by kernel_rfl) (by kernel_rfl) (by rfl) (by first | assumption | decide +kernel) (by decide +kernel) ⟨rfl, rfl, rfl, rfl, rfl, by decide +kernel⟩ ?hw ?hc
  case hw => w_witness2
  case hc =>
    refine L2.walk_ofE (l := PySem.Challenge.rw_maybetables_k16_each_filling_of_one_kind) (n := 63) (k := 8) (x := "_law_script") (CX := MT.CXa (PySem.Challenge.rw_maybetables_k16_each_filling_of_one_kind).prog) rfl (by decide) (by kernel_rfl) ⟨rfl, by decide, by decide⟩ ?F (fun _ _ _ _ z => MT.cxa_none z)
    intro w mg fa h Y G hmg0
    obtain ⟨K, KX, c⟩ := Y
    have hmg : mg ("law" : PySem.Str) = some (.ref fa) := by
      have e : (HandSHeadRun.topDef (OpenLaw.row PySem.Challenge.rw_maybetables_k16_each_filling_of_one_kind).prog 17).name = ("law" : PySem.Str) := by kernel_rfl
      rw [← e]
      exact hmg0
    have F0 := K16.fx KX G c
    obtain ⟨f, fd, Fd, hm⟩ := F0.f11
    cases hmg.symm.trans hm
    have b := L2.FunD.bindsA (ps := ["_law_script"]) Fd fun _ _ _ _ _ _ us hl => match us, hl with | [_], _ => rfl
    exact ⟨K, fd, MT.spD (K16.nm0 K) (K16.pg.ct 100 8) 1 11, KX, fun s u => b s [u] rfl, fun H a ns hl hO hS => MT.law_sp rfl hO hS (K16.call_law ns hl), fun base _ _ => MT.fn_any (K16.ok11 Fd (K16.gf F0 7))⟩
