import PyProof.Rows.All
import Wide.All
import OpenK.AllK
import Wide.FinOn
import KE.KStateDown
import Lean
import HandS.Head0
import HandS.Head1
import HandS.Head2
import HandS.HeadEnd
import HandS.ForMost
import HandS.ForExc
import HandS.HeadHook2
import HandS.NoneIn
import HandS.Iter
import HandS.OwnEq
import HandS.TupAny
import HandS.ClsMeth
import HandS.Wide
import HandS.CallSlots
import HandS.Star
import PySem.Str
import HandS.Text
import HandS.RaiseMore
import KE.KExcSuper
import HandS.ExcInit
import HandS.ExcField
import HandS.FStr
import KE.KCallOwn
import HandS.TryMany
import PySem.Challenge.RW_truthfees_k12_texts_of_fractions
import KE.KIntText
section
set_option Elab.async false
set_option linter.all false
set_option maxRecDepth 100000
/-! == of lists and tuples, whatever the answer. -/
namespace TfE
open PySem PySem.SeqAt
open AutoSeq1 (wpAny_loadPart')
open MeetsSeq MeetsSeq2 MeetsSeq3 SeqRoads2
section
variable {prog : Program} {w : World} {A : Around} {R : Result → Shared → Prop}
/-- at each turn the two lists are read anew: N items each; the i-th two are compared: I goes on, J where they differ -/
def ListI (prog : Program) (w : World) (A : Around) (E : Value → Shared → Prop) (l b : Addr) (N : Nat) (I : Nat → Shared → Prop) (J : Shared → Prop) : Prop :=
  ∀ i s, I i s → ∃ (items items2 : Array Value) (n n2 : Nat), s.heap.get? l = some { cls := .type "list", data := .seq items n } ∧ s.heap.get? b = some { cls := .type "list", data := .seq items2 n2 } ∧ items.size = N ∧ items2.size = N ∧
    ∀ (h1 : i < items.size) (h2 : i < items2.size), wpAny (model prog w) A.in1 (eqBool items[i] items2[i]) (fun r s' => if r = true then I (i + 1) s' else J s') E s
def AtJ (l b : Addr) (N : Nat) (J : Shared → Prop) : Prop := ∀ s, J s → ∃ (items items2 : Array Value) (n n2 : Nat), s.heap.get? l = some { cls := .type "list", data := .seq items n } ∧ s.heap.get? b = some { cls := .type "list", data := .seq items2 n2 } ∧ items.size = N ∧ items2.size = N
theorem eq_loop (l b : Addr) (N : Nat) (I : Nat → Shared → Prop) (J : Shared → Prop) (hl : ListI prog w A (fun e s' => R (.error e) s') l b N I J)
    (fin : ∀ s, I N s → R (.ok (.ret (.bool true))) s) (stop : ∀ s, J s → R (.ok (.ret (.bool false))) s) (hJ : AtJ l b N J) (k : Nat) :
    ∀ i : Nat, N - i = k → i ≤ N → ∀ s, I i s →
      wpAny (model prog w) A.in1 (Builtin.«list.__eq__.loop» ⟨[.ref l, .ref b, rawInt i, rawInt 2], []⟩) (GQ.FinOf prog w A R) (fun e s' => R (.error e) s') s := by
  induction k with
  | zero =>
    intro i hk hi s h
    obtain ⟨items, items2, n, n2, hl1, hb1, hs1, hs2, _⟩ := hl _ _ h
    have hi' : i = N := by omega
    have hR : R (.ok (.ret (.bool true))) s := fin s (hi' ▸ h)
    obtain ⟨hp, g, d, tk, os⟩ := s
    wp_walk using wpAny_loadPart' hl1, wpAny_loadPart' hb1
    have hi1 : items[((i : Nat) : Int).toNat]? = none := by simp; omega
    have hi2 : items2[((i : Nat) : Int).toNat]? = none := by simp; omega
    rw [hi1, hi2]
    wp_walk using wpAny_loadPart' hl1, wpAny_loadPart' hb1
    show R (.ok (.ret (.bool (items.size == items2.size)))) _
    rw [hs1, hs2]
    simpa using hR
  | succ k ih =>
    intro i hk hi s h
    obtain ⟨items, items2, n, n2, hl1, hb1, hs1, hs2, turn⟩ := hl _ _ h
    have hlt : i < items.size := by omega
    have hlt2 : i < items2.size := by omega
    have ht := turn hlt hlt2
    obtain ⟨hp, g, d, tk, os⟩ := s
    wp_walk using wpAny_loadPart' hl1, wpAny_loadPart' hb1
    have hi1 : items[((i : Nat) : Int).toNat]? = some items[i] := by simp [hlt]
    have hi2 : items2[((i : Nat) : Int).toNat]? = some items2[i] := by simp [hlt2]
    have hc : ((i : Int) + 1) = ((i + 1 : Nat) : Int) := by omega
    rw [hi1, hi2]
    refine wpAny_bind (wpAny_mono ht (fun r s2 h2 => ?_) fun _ _ x => x)
    cases r with
    | true =>
      have h2 : I (i + 1) s2 := by simpa using h2
      have hrec := ih (i + 1) (by omega) (by omega) s2 h2
      obtain ⟨hp2, g2, d2, tk2, os2⟩ := s2
      wp_walk
      rw [hc]
      exact ⟨plainId_quiet plain_eq_loop _, codeAny_builtin entry_eq_loop (by
        rw [Around.under_plainId plain_eq_loop _]
        exact hrec)⟩
    | false =>
      have h2 : J s2 := by simpa using h2
      have hR := stop s2 h2
      obtain ⟨jt, jt2, m, m2, hl2, hb2, ht1, ht2⟩ := hJ s2 h2
      obtain ⟨hp2, g2, d2, tk2, os2⟩ := s2
      have hj1 : jt[((i : Nat) : Int).toNat]? = some (jt[i]'(by omega)) := by simp
      have hj2 : jt2[((i : Nat) : Int).toNat]? = some (jt2[i]'(by omega)) := by simp
      wp_walk using wpAny_loadPart' hl2, wpAny_loadPart' hb2
      rw [hj1, hj2]
      wp_walk
      exact hR
theorem list_eq (l b : Addr) (N : Nat) (I : Nat → Shared → Prop) (J : Shared → Prop) (hl : ListI prog w A (fun e s' => R (.error e) s') l b N I J)
    (fin : ∀ s, I N s → R (.ok (.ret (.bool true))) s) (stop : ∀ s, J s → R (.ok (.ret (.bool false))) s) (hJ : AtJ l b N J) {s : Shared} (h : I 0 s) :
    wpAny (model prog w) A.in1 (Builtin.«list.__eq__» ⟨[.ref l, .ref b], []⟩) (GQ.FinOf prog w A R) (fun e s' => R (.error e) s') s := by
  obtain ⟨items, items2, n, n2, hl1, hb1, hs1, hs2, _⟩ := hl _ _ h
  have hrec := eq_loop (A := A) (R := R) l b N I J hl fin stop hJ _ 0 rfl (Nat.zero_le _) s h
  obtain ⟨hp, g, d, tk, os⟩ := s
  have f3 := AutoSeq1.sub_list_list
  have hne : ¬ (items.size != items2.size) = true := by simp [hs1, hs2]
  wp_walk using wpAny_loadPart' hl1, wpAny_loadPart' hb1
  exact ⟨plainId_quiet plain_eq_loop _, codeAny_builtin entry_eq_loop (by
    rw [Around.under_plainId plain_eq_loop _]
    exact hrec)⟩
theorem list_ne (l b : Addr) (items items2 : Array Value) (n n2 : Nat) {s : Shared} (hl1 : s.heap.get? l = some { cls := .type "list", data := .seq items n }) (hb1 : s.heap.get? b = some { cls := .type "list", data := .seq items2 n2 }) (hs : items.size ≠ items2.size)
    (fin : R (.ok (.ret (.bool false))) s) : wpAny (model prog w) A.in1 (Builtin.«list.__eq__» ⟨[.ref l, .ref b], []⟩) (GQ.FinOf prog w A R) (fun e s' => R (.error e) s') s := by
  obtain ⟨hp, g, d, tk, os⟩ := s
  have f3 := AutoSeq1.sub_list_list
  have hne : (items.size != items2.size) = true := by simpa using hs
  wp_walk using wpAny_loadPart' hl1, wpAny_loadPart' hb1
  exact fin
theorem tuple_eq (l b : Addr) (items items2 : Array Value) (n n2 : Nat) (dd dd2 : Option Addr) (sl sl2 : Array (Option Value)) (I : Nat → Shared → Prop) (J : Shared → Prop)
    (turn : ∀ i (h1 : i < items.size) (h2 : i < items2.size) s, I i s → wpAny (model prog w) A.in1 (eqBool items[i] items2[i]) (fun r s' => if r = true then I (i + 1) s' else J s') (fun e s' => R (.error e) s') s)
    (fin : ∀ i s, I i s → (i = items.size ∨ i = items2.size) → R (.ok (.ret (.bool (items.size == items2.size)))) s) (stop : ∀ s, J s → R (.ok (.ret (.bool false))) s) {s : Shared} (hl1 : s.heap.get? l = some { cls := .type "tuple", dict := dd, data := .seq items n, slots := sl }) (hb1 : s.heap.get? b = some { cls := .type "tuple", dict := dd2, data := .seq items2 n2, slots := sl2 }) (h : I 0 s) :
    wpAny (model prog w) A.in1 (Builtin.«tuple.__eq__» ⟨[.ref l, .ref b], []⟩) (GQ.FinOf prog w A R) (fun e s' => R (.error e) s') s := by
  have f2 := AutoSeq1.sub_tuple_tuple
  have hZ : (items.toList.zip items2.toList).length = min items.size items2.size := by simp
  have h0 := h
  obtain ⟨hp, g, d, tk, os⟩ := s
  wp_walk using wpAny_loadPart' hl1, wpAny_loadPart' hb1, wpAny_forIn_list _ (fun rest b s' => b.1 = none ∧ ∃ i, rest = (items.toList.zip items2.toList).drop i ∧ i ≤ min items.size items2.size ∧ I i s') _
  case turn =>
    rintro ⟨y, x⟩ rest b s' ⟨hb', i, hz, hi, hI⟩
    have hlt : i < (items.toList.zip items2.toList).length := by
      rcases Nat.lt_or_ge i (items.toList.zip items2.toList).length with h' | h'
      · exact h'
      · rw [List.drop_of_length_le h'] at hz; cases hz
    have h1 : i < items.size := by omega
    have h2 : i < items2.size := by omega
    rw [List.drop_eq_getElem_cons hlt] at hz
    injection hz with hyx hrest
    have hy : y = items[i] := by have := congrArg Prod.fst hyx; simpa using this
    have hx : x = items2[i] := by have := congrArg Prod.snd hyx; simpa using this
    subst hy hx
    refine wpAny_bind (wpAny_mono (turn i h1 h2 s' hI) (fun r s2 q2 => ?_) fun _ _ x => x)
    cases r with
    | true =>
      have q2 : I (i + 1) s2 := by simpa using q2
      wp_walk
      exact ⟨rfl, i + 1, hrest, by omega, q2⟩
    | false =>
      have q2 : J s2 := by simpa using q2
      have hR := stop s2 q2
      wp_walk
      exact hR
  case fin =>
    rintro ⟨b1, b2⟩ s' ⟨hb', i, hz, hi, hI⟩
    simp only at hb'
    subst hb'
    have hge : min items.size items2.size ≤ i := by
      rcases Nat.lt_or_ge i (items.toList.zip items2.toList).length with h' | h'
      · rw [List.drop_eq_getElem_cons h'] at hz; cases hz
      · omega
    have hi' : i = items.size ∨ i = items2.size := by omega
    have hR := fin i s' hI hi'
    wp_walk
    simpa [Builtin.Tuple.tupleCompareSizes] using hR
  case h =>
    exact ⟨rfl, 0, rfl, Nat.zero_le _, h0⟩
end
end TfE
end
section
set_option Elab.async false
set_option linter.all false
set_option maxRecDepth 100000
/-! != of lists and tuples, in. -/
namespace TfE
open PySem PySem.SeqAt
open AutoSeq1 (wpAny_loadPart')
open MeetsSeq MeetsSeq2 MeetsSeq3 SeqRoads2
section
variable {prog : Program} {w : World} {A : Around} {R : Result → Shared → Prop}
theorem ne_loop (l b : Addr) (N : Nat) (I : Nat → Shared → Prop) (J : Shared → Prop) (hl : ListI prog w A (fun e s' => R (.error e) s') l b N I J)
    (fin : ∀ s, I N s → R (.ok (.ret (.bool false))) s) (stop : ∀ s, J s → R (.ok (.ret (.bool true))) s) (hJ : AtJ l b N J) (k : Nat) :
    ∀ i : Nat, N - i = k → i ≤ N → ∀ s, I i s →
      wpAny (model prog w) A.in1 (Builtin.«list.__eq__.loop» ⟨[.ref l, .ref b, rawInt i, rawInt 3], []⟩) (GQ.FinOf prog w A R) (fun e s' => R (.error e) s') s := by
  induction k with
  | zero =>
    intro i hk hi s h
    obtain ⟨items, items2, n, n2, hl1, hb1, hs1, hs2, _⟩ := hl _ _ h
    have hi' : i = N := by omega
    have hR : R (.ok (.ret (.bool false))) s := fin s (hi' ▸ h)
    obtain ⟨hp, g, d, tk, os⟩ := s
    wp_walk using wpAny_loadPart' hl1, wpAny_loadPart' hb1
    have hi1 : items[((i : Nat) : Int).toNat]? = none := by simp; omega
    have hi2 : items2[((i : Nat) : Int).toNat]? = none := by simp; omega
    rw [hi1, hi2]
    wp_walk using wpAny_loadPart' hl1, wpAny_loadPart' hb1
    show R (.ok (.ret (.bool (items.size != items2.size)))) _
    rw [hs1, hs2]
    simpa using hR
  | succ k ih =>
    intro i hk hi s h
    obtain ⟨items, items2, n, n2, hl1, hb1, hs1, hs2, turn⟩ := hl _ _ h
    have hlt : i < items.size := by omega
    have hlt2 : i < items2.size := by omega
    have ht := turn hlt hlt2
    obtain ⟨hp, g, d, tk, os⟩ := s
    wp_walk using wpAny_loadPart' hl1, wpAny_loadPart' hb1
    have hi1 : items[((i : Nat) : Int).toNat]? = some items[i] := by simp [hlt]
    have hi2 : items2[((i : Nat) : Int).toNat]? = some items2[i] := by simp [hlt2]
    have hc : ((i : Int) + 1) = ((i + 1 : Nat) : Int) := by omega
    rw [hi1, hi2]
    refine wpAny_bind (wpAny_mono ht (fun r s2 h2 => ?_) fun _ _ x => x)
    cases r with
    | true =>
      have h2 : I (i + 1) s2 := by simpa using h2
      have hrec := ih (i + 1) (by omega) (by omega) s2 h2
      obtain ⟨hp2, g2, d2, tk2, os2⟩ := s2
      wp_walk
      rw [hc]
      exact ⟨plainId_quiet plain_eq_loop _, codeAny_builtin entry_eq_loop (by
        rw [Around.under_plainId plain_eq_loop _]
        exact hrec)⟩
    | false =>
      have h2 : J s2 := by simpa using h2
      have hR := stop s2 h2
      obtain ⟨jt, jt2, m, m2, hl2, hb2, ht1, ht2⟩ := hJ s2 h2
      obtain ⟨hp2, g2, d2, tk2, os2⟩ := s2
      have hj1 : jt[((i : Nat) : Int).toNat]? = some (jt[i]'(by omega)) := by simp
      have hj2 : jt2[((i : Nat) : Int).toNat]? = some (jt2[i]'(by omega)) := by simp
      wp_walk using wpAny_loadPart' hl2, wpAny_loadPart' hb2
      rw [hj1, hj2]
      wp_walk
      exact hR
theorem list_neq (l b : Addr) (N : Nat) (I : Nat → Shared → Prop) (J : Shared → Prop) (hl : ListI prog w A (fun e s' => R (.error e) s') l b N I J)
    (fin : ∀ s, I N s → R (.ok (.ret (.bool false))) s) (stop : ∀ s, J s → R (.ok (.ret (.bool true))) s) (hJ : AtJ l b N J) {s : Shared} (h : I 0 s) :
    wpAny (model prog w) A.in1 (Builtin.«list.__ne__» ⟨[.ref l, .ref b], []⟩) (GQ.FinOf prog w A R) (fun e s' => R (.error e) s') s := by
  obtain ⟨items, items2, n, n2, hl1, hb1, hs1, hs2, _⟩ := hl _ _ h
  have hrec := ne_loop (A := A) (R := R) l b N I J hl fin stop hJ _ 0 rfl (Nat.zero_le _) s h
  obtain ⟨hp, g, d, tk, os⟩ := s
  have f3 := AutoSeq1.sub_list_list
  have hne : ¬ (items.size != items2.size) = true := by simp [hs1, hs2]
  wp_walk using wpAny_loadPart' hl1, wpAny_loadPart' hb1
  exact ⟨plainId_quiet plain_eq_loop _, codeAny_builtin entry_eq_loop (by
    rw [Around.under_plainId plain_eq_loop _]
    exact hrec)⟩
theorem list_nne (l b : Addr) (items items2 : Array Value) (n n2 : Nat) {s : Shared} (hl1 : s.heap.get? l = some { cls := .type "list", data := .seq items n }) (hb1 : s.heap.get? b = some { cls := .type "list", data := .seq items2 n2 }) (hs : items.size ≠ items2.size)
    (fin : R (.ok (.ret (.bool true))) s) : wpAny (model prog w) A.in1 (Builtin.«list.__ne__» ⟨[.ref l, .ref b], []⟩) (GQ.FinOf prog w A R) (fun e s' => R (.error e) s') s := by
  obtain ⟨hp, g, d, tk, os⟩ := s
  have f3 := AutoSeq1.sub_list_list
  have hne : (items.size != items2.size) = true := by simpa using hs
  wp_walk using wpAny_loadPart' hl1, wpAny_loadPart' hb1
  exact fin
theorem tuple_neq (l b : Addr) (items items2 : Array Value) (n n2 : Nat) (dd dd2 : Option Addr) (sl sl2 : Array (Option Value)) (I : Nat → Shared → Prop) (J : Shared → Prop)
    (turn : ∀ i (h1 : i < items.size) (h2 : i < items2.size) s, I i s → wpAny (model prog w) A.in1 (eqBool items[i] items2[i]) (fun r s' => if r = true then I (i + 1) s' else J s') (fun e s' => R (.error e) s') s)
    (fin : ∀ i s, I i s → (i = items.size ∨ i = items2.size) → R (.ok (.ret (.bool (items.size != items2.size)))) s) (stop : ∀ s, J s → R (.ok (.ret (.bool true))) s) {s : Shared} (hl1 : s.heap.get? l = some { cls := .type "tuple", dict := dd, data := .seq items n, slots := sl }) (hb1 : s.heap.get? b = some { cls := .type "tuple", dict := dd2, data := .seq items2 n2, slots := sl2 }) (h : I 0 s) :
    wpAny (model prog w) A.in1 (Builtin.«tuple.__ne__» ⟨[.ref l, .ref b], []⟩) (GQ.FinOf prog w A R) (fun e s' => R (.error e) s') s := by
  have f2 := AutoSeq1.sub_tuple_tuple
  have hZ : (items.toList.zip items2.toList).length = min items.size items2.size := by simp
  have h0 := h
  obtain ⟨hp, g, d, tk, os⟩ := s
  wp_walk using wpAny_loadPart' hl1, wpAny_loadPart' hb1, wpAny_forIn_list _ (fun rest b s' => b.1 = none ∧ ∃ i, rest = (items.toList.zip items2.toList).drop i ∧ i ≤ min items.size items2.size ∧ I i s') _
  case turn =>
    rintro ⟨y, x⟩ rest b s' ⟨hb', i, hz, hi, hI⟩
    have hlt : i < (items.toList.zip items2.toList).length := by
      rcases Nat.lt_or_ge i (items.toList.zip items2.toList).length with h' | h'
      · exact h'
      · rw [List.drop_of_length_le h'] at hz; cases hz
    have h1 : i < items.size := by omega
    have h2 : i < items2.size := by omega
    rw [List.drop_eq_getElem_cons hlt] at hz
    injection hz with hyx hrest
    have hy : y = items[i] := by have := congrArg Prod.fst hyx; simpa using this
    have hx : x = items2[i] := by have := congrArg Prod.snd hyx; simpa using this
    subst hy hx
    refine wpAny_bind (wpAny_mono (turn i h1 h2 s' hI) (fun r s2 q2 => ?_) fun _ _ x => x)
    cases r with
    | true =>
      have q2 : I (i + 1) s2 := by simpa using q2
      wp_walk
      exact ⟨rfl, i + 1, hrest, by omega, q2⟩
    | false =>
      have q2 : J s2 := by simpa using q2
      have hR := stop s2 q2
      wp_walk
      exact hR
  case fin =>
    rintro ⟨b1, b2⟩ s' ⟨hb', i, hz, hi, hI⟩
    simp only at hb'
    subst hb'
    have hge : min items.size items2.size ≤ i := by
      rcases Nat.lt_or_ge i (items.toList.zip items2.toList).length with h' | h'
      · rw [List.drop_eq_getElem_cons h'] at hz; cases hz
      · omega
    have hi' : i = items.size ∨ i = items2.size := by omega
    have hR := fin i s' hI hi'
    wp_walk
    simpa [Builtin.Tuple.tupleCompareSizes] using hR
  case h =>
    exact ⟨rfl, 0, rfl, Nat.zero_le _, h0⟩
theorem in_loop (l : Addr) (x : Value) (N : Nat) (I : Nat → Shared → Prop) (J : Shared → Prop)
    (hl : ∀ i s, I i s → ∃ (items : Array Value) (n : Nat), s.heap.get? l = some { cls := .type "list", data := .seq items n } ∧ items.size = N ∧ ∀ (h1 : i < items.size), wpAny (model prog w) A.in1 (eqBool items[i] x) (fun r s' => if r = true then J s' else I (i + 1) s') (fun e s' => R (.error e) s') s)
    (fin : ∀ s, I N s → R (.ok (.ret (.bool false))) s) (stop : ∀ s, J s → R (.ok (.ret (.bool true))) s) (k : Nat) :
    ∀ i : Nat, N - i = k → i ≤ N → ∀ s, I i s →
      wpAny (model prog w) A.in1 (Builtin.«list.__contains__.loop» ⟨[.ref l, x, rawInt i], []⟩) (GQ.FinOf prog w A R) (fun e s' => R (.error e) s') s := by
  induction k with
  | zero =>
    intro i hk hi s h
    obtain ⟨items, n, hl1, hs1, _⟩ := hl _ _ h
    have hi' : i = N := by omega
    have hR : R (.ok (.ret (.bool false))) s := fin s (hi' ▸ h)
    obtain ⟨hp, g, d, tk, os⟩ := s
    wp_walk using wpAny_loadPart' hl1
    have hi1 : items[((i : Nat) : Int).toNat]? = none := by simp; omega
    rw [hi1]
    wp_walk
    exact hR
  | succ k ih =>
    intro i hk hi s h
    obtain ⟨items, n, hl1, hs1, turn⟩ := hl _ _ h
    have hlt : i < items.size := by omega
    have ht := turn hlt
    obtain ⟨hp, g, d, tk, os⟩ := s
    wp_walk using wpAny_loadPart' hl1
    have hi1 : items[((i : Nat) : Int).toNat]? = some items[i] := by simp [hlt]
    have hc : ((i : Int) + 1) = ((i + 1 : Nat) : Int) := by omega
    rw [hi1]
    refine wpAny_bind (wpAny_mono ht (fun r s2 h2 => ?_) fun _ _ x => x)
    cases r with
    | false =>
      have h2 : I (i + 1) s2 := by simpa using h2
      have hrec := ih (i + 1) (by omega) (by omega) s2 h2
      obtain ⟨hp2, g2, d2, tk2, os2⟩ := s2
      wp_walk
      rw [hc]
      exact ⟨plainId_quiet plain_contains_loop _, codeAny_builtin entry_contains_loop (by
        rw [Around.under_plainId plain_contains_loop _]
        exact hrec)⟩
    | true =>
      have h2 : J s2 := by simpa using h2
      have hR := stop s2 h2
      obtain ⟨hp2, g2, d2, tk2, os2⟩ := s2
      wp_walk
      exact hR
theorem list_in (l : Addr) (x : Value) (N : Nat) (I : Nat → Shared → Prop) (J : Shared → Prop)
    (hl : ∀ i s, I i s → ∃ (items : Array Value) (n : Nat), s.heap.get? l = some { cls := .type "list", data := .seq items n } ∧ items.size = N ∧ ∀ (h1 : i < items.size), wpAny (model prog w) A.in1 (eqBool items[i] x) (fun r s' => if r = true then J s' else I (i + 1) s') (fun e s' => R (.error e) s') s)
    (fin : ∀ s, I N s → R (.ok (.ret (.bool false))) s) (stop : ∀ s, J s → R (.ok (.ret (.bool true))) s) {s : Shared} (h : I 0 s) :
    wpAny (model prog w) A.in1 (Builtin.«list.__contains__» ⟨[.ref l, x], []⟩) (GQ.FinOf prog w A R) (fun e s' => R (.error e) s') s := by
  obtain ⟨items, n, hl1, hs1, _⟩ := hl _ _ h
  have hrec := in_loop (A := A) (R := R) l x N I J hl fin stop _ 0 rfl (Nat.zero_le _) s h
  obtain ⟨hp, g, d, tk, os⟩ := s
  wp_walk using wpAny_loadPart' hl1
  exact ⟨plainId_quiet plain_contains_loop _, codeAny_builtin entry_contains_loop (by
    rw [Around.under_plainId plain_contains_loop _]
    exact hrec)⟩
end
end TfE
end
section
set_option Elab.async false
set_option linter.all false
/-! The evaluator: values, syntax, runs. Plain Lean. -/
namespace Tf
abbrev Str := PySem.Str

/-- immutable data -/
inductive D where
  | non | bl (b : Bool) | int (i : Int) | str (s : Str)
  | tup (xs : List D) | lst (xs : List D)
  | ins (c : Nat) (fs : List (Nat × D))
  | dcI (kvs : List (Int × D)) | dcT (kvs : List (List Int × D))
  | cls (c : Nat)
  /-- the law's script: a list of ints that is only read -/
  | scr (ns : List Int)
/-- a thing that one place alone owns and may change -/
inductive O where
  | d (x : D) | lst (xs : List O)
  | ins (c : Nat) (fs : List (Nat × O))
  | dcI (kvs : List (Int × O)) | dcT (kvs : List (List Int × O))

mutual
def O.frz : O → D
  | .d x => x
  | .lst xs => .lst (O.frzL xs)
  | .ins c fs => .ins c (O.frzF fs)
  | .dcI kvs => .dcI (O.frzI kvs)
  | .dcT kvs => .dcT (O.frzT kvs)
def O.frzL : List O → List D
  | [] => []
  | x :: xs => x.frz :: O.frzL xs
def O.frzF : List (Nat × O) → List (Nat × D)
  | [] => []
  | (k, x) :: xs => (k, x.frz) :: O.frzF xs
def O.frzI : List (Int × O) → List (Int × D)
  | [] => []
  | (k, x) :: xs => (k, x.frz) :: O.frzI xs
def O.frzT : List (List Int × O) → List (List Int × D)
  | [] => []
  | (k, x) :: xs => (k, x.frz) :: O.frzT xs
end

/-- a slot: owned here; lent by the caller (handed back at the end) -/
inductive Sl where
  | own (o : O) | lent (o : O)
abbrev Fr := List (Option Sl)
/-- an expression's value: data; what is borrowed, to be looked at at once; a new thing of one's own -/
inductive Val where
  | d (x : D) | b (i : Nat) (o : O) | o (o : O)
/-- an exception: its class, what it was made of -/
structure Xv where
  c : Nat
  ds : List D
inductive Res (α : Type) where
  | ok (a : α) (σ : Fr) | exc (x : Xv) (σ : Fr) | bad
/-- a call's end: the answer, what was lent -/
inductive CR where
  | ret (v : Val) (ls : List O) | exc (x : Xv) (ls : List O) | bad

def Res.bind {α β : Type} (r : Res α) (f : α → Fr → Res β) : Res β := match r with
  | .ok a σ => f a σ
  | .exc x σ => .exc x σ
  | .bad => .bad
def Res.map {α β : Type} (r : Res α) (f : α → β) : Res β := r.bind fun a σ => .ok (f a) σ
def opt {α β : Type} (o : Option α) (f : α → Res β) : Res β := match o with
  | some a => f a
  | none => .bad

inductive Bop where | add | sub | mul | fdiv | mod | pow | band | bor deriving DecidableEq
inductive Cop where | eq | ne | lt | le | gt | ge | is_ | isnot | in_ | notin deriving DecidableEq
inductive Mode where | val | lend deriving DecidableEq
/-- how an expression is asked: for data to keep, for a look, for its truth -/
inductive Md where | val | pk | tst deriving DecidableEq
/-- built-in functions and types, called -/
inductive Bi where | len | abs | int | bool | str | list | tuple | sum | min | max | all | any | sorted deriving DecidableEq
/-- a class asked of by isinstance -/
inductive Cs where | own (c : Nat) | int | bool | str | list | tuple deriving DecidableEq
/-- methods of built-in types that read -/
inductive Bm where | index | count | join | split | items | values | get deriving DecidableEq
/-- .. that write -/
inductive Bw where | append | extend | pop | clear deriving DecidableEq
/-- a target of names -/
inductive Tg where | var (i : Nat) | tup (ts : List Tg)

mutual
inductive E where
  | cst (d : D) | var (i : Nat) | glo (x : Nat) | clsv (c : Nat) | never
  | fld (a : E) (f : Nat) | idx (a i : E) | slc (a : E) (lo hi : Eo)
  | tup (es : Es) | lst (own : Bool) (es : Es)
  | neg (a : E) | sto (a : E) | fmt (a : E) (s : Str) (b : E) | mxm (mx : Bool) (a b : E) | rev (a : E) | bin (op : Bop) (a b : E) | cmp (op : Cop) (a b : E) | chn (p q : Cop) (a b c : E)
  | not (a : E) | and (a b : E) | or (a b : E) | ife (c a b : E)
  | call (f : Nat) (as : Es) | make (c : Nat) (as : Es) | callv (a : E) (as : Es)
  | meth (a : E) (m : Nat) (as : Es) | methL (i : Nat) (m : Nat) (as : Es) | cmeth (a : E) (m : Nat) (as : Es)
  | bi (b : Bi) (a : E) | boo (a : E) | isin (a : E) (c : Cs) | bm (a : E) (m : Bm) (b : E)
  | comp (own : Bool) (elt : E) (tg : Tg) (it : It) (cs : Es) (vs : List Nat)
  | comp2 (own : Bool) (elt : E) (tg : Tg) (it : It) (cs : Es) (tg2 : Tg) (it2 : It) (cs2 : Es) (vs vs2 : List Nat)
inductive Eo where | none | some (e : E)
inductive Es where | nil | cons (star : Bool) (e : E) (r : Es)
inductive It where | seq (e : E) | rng (as : Es) | enum (e : E) | zip (a b : E)
end
mutual
inductive S where
  | asg (i : Nat) (e : E) | asgT (ts : List Tg) (e : E) | par (i j : Nat) (a b : E)
  | sfld (a : Nat) (f : Nat) (e : E) | sidx (a : Nat) (i : E) (e : E)
  | bw (a : Nat) (m : Bw) (as : Es)
  | expr (e : E) | ret (e : E) | retN | ife (c : E) (a b : Ss) | whl (c : E) (b : Ss)
  | for_ (tg : Tg) (it : It) (b : Ss)
  | raise (c : Nat) (as : Es) | brk | cont | pass | never
  | tryc (b : Ss) (hs : Hs)
inductive Ss where | nil | cons (s : S) (r : Ss)
/-- except clauses: the class, the slot of the name, the suite -/
inductive Hs where | nil | cons (c : Nat) (i : Nat) (h : H) (r : Hs)
/-- an except suite: return of an expression -/
inductive H where | ret (e : HE)
inductive HE where | cst (d : D) | exf (k : Nat) | var (i : Nat) | lst (es : HEs) | eq (a b : HE) | and (a b : HE) | not (a : HE) | isin (a : HE) (c : Cs)
inductive HEs where | nil | cons (e : HE) (r : HEs)
end

structure DefI where
  np : Nat
  star : Bool
  modes : List Mode
  ns : Nat
  own : Bool
  body : Ss
structure ClsI where
  frz : Bool
  init : Nat
  meths : List (Nat × Nat)
  cms : List (Nat × Nat)
  /-- of an exception class: how many arguments -/
  exn : Option Nat
structure Prog where
  defs : List DefI
  clss : List ClsI
  glos : List D
def Prog.meth (G : Prog) (c m : Nat) : Option Nat := (G.clss[c]?).bind fun C => C.meths.lookup m
def Prog.cmeth (G : Prog) (c m : Nat) : Option Nat := (G.clss[c]?).bind fun C => C.cms.lookup m
/-! method names, fixed numbers -/
def m_eq := 0
def m_add := 1
def m_sub := 2
def m_mul := 3
def m_neg := 4
def m_bool := 5
def m_len := 6
def m_iter := 7
def m_call := 8
def m_and := 9
def m_or := 10
def m_str := 11

/-! ### data -/
def D.ints : List D → Option (List Int)
  | [] => some []
  | .int i :: r => (D.ints r).map (i :: ·)
  | _ => none
def D.bls : List D → Option (List Bool)
  | [] => some []
  | .bl i :: r => (D.bls r).map (i :: ·)
  | _ => none
def maxI : List Int → Int
  | [] => 0
  | a :: r => r.foldl (fun m b => if m < b then b else m) a
def minI : List Int → Int
  | [] => 0
  | a :: r => r.foldl (fun m b => if b < m then b else m) a
/-- a product that the model takes at once -/
def mulOk (i j : Int) : Bool := decide (i.natAbs < 18446744073709551616) || decide (j.natAbs < 18446744073709551616) || decide (i.natAbs.log2 + j.natAbs.log2 < 1000000)
def lineN : Nat := 16777216
def binI : Bop → Int → Int → Option Int
  | .add, i, j => some (i + j)
  | .sub, i, j => some (i - j)
  | .mul, i, j => if mulOk i j = true then some (i * j) else none
  | .fdiv, i, j => if j ≠ 0 ∧ j.natAbs.log2 < 9000 then some (i.fdiv j) else none
  | .mod, i, j => if 0 < j then some (i % j) else none
  | .pow, i, j => if 0 ≤ j ∧ j ≤ 1000000 ∧ i.natAbs < 18446744073709551616 then some (i ^ j.toNat) else none
  | _, _, _ => none
/-- a text's signs, each a text -/
def signs (s : Str) : List D := s.cps.toList.map fun c => D.str ⟨#[c]⟩
/-- operators of built-in types -/
def binD : Bop → D → D → Option D
  | op, .int i, .int j => (binI op i j).map .int
  | .add, .lst xs, .lst ys => if xs.length + ys.length ≤ lineN then some (.lst (xs ++ ys)) else none
  | .add, .tup xs, .tup ys => if xs.length + ys.length ≤ lineN then some (.tup (xs ++ ys)) else none
  | .add, .str a, .str b => if a.length + b.length ≤ lineN then some (.str (a ++ b)) else none
  | .mul, .lst xs, .int n => if n < 9223372036854775808 ∧ -9223372036854775808 ≤ n ∧ xs.length * n.toNat ≤ lineN then some (.lst ((List.replicate n.toNat xs).flatten)) else none
  | _, _, _ => none
/-- a place in a list, from the end if below 0 -/
def place (n : Nat) (i : Int) : Option Nat :=
  if 0 ≤ i then (if i < n then some i.toNat else none) else (if 0 ≤ i + n then some (i + n).toNat else none)
/-- the ends of a slice -/
def cutAt (n : Nat) (d : Nat) : Option Int → Nat
  | none => d
  | some i => if 0 ≤ i then min i.toNat n else (i + n).toNat
def cutL {α : Type} (xs : List α) (lo hi : Option Int) : List α := (xs.take (cutAt xs.length xs.length hi)).drop (cutAt xs.length 0 lo)
def itemsD : D → Option (List D)
  | .lst xs => some xs
  | .tup xs => some xs
  | .scr ns => some (ns.map D.int)
  | _ => none
/-- what a for walks -/
def iterD : D → Option (List D)
  | .str s => some (signs s)
  | x => itemsD x
def truthD : D → Option Bool
  | .non => some false
  | .bl b => some b
  | .int i => some (i != 0)
  | .lst xs => some (!xs.isEmpty)
  | .tup xs => some (!xs.isEmpty)
  | _ => none
/-- truth of a value that is looked at -/
def truthV : Val → Option Bool
  | .d x => truthD x
  | .b _ (.lst xs) => some (!xs.isEmpty)
  | .b _ (.dcI kvs) => some (!kvs.isEmpty)
  | .o (.lst xs) => some (!xs.isEmpty)
  | _ => none
def D.keyI : D → Option Int
  | .int i => some i
  | _ => none
def D.keyT : D → Option (List Int)
  | .tup xs => D.ints xs
  | _ => none
def selD : D → D → Option D
  | .lst xs, .int i => (place xs.length i).bind fun k => xs[k]?
  | .tup xs, .int i => (place xs.length i).bind fun k => xs[k]?
  | .scr ns, .int i => (place ns.length i).bind fun k => (ns[k]?).map D.int
  | .str z, .int i => if z.length ≤ lineN then ((place z.cps.toList.length i).bind fun k => (z.cps.toList)[k]?).map fun c => D.str ⟨#[c]⟩ else none
  | _, _ => none
/-- a part of a borrowed thing -/
def Val.ofO (i : Nat) (x : O) : Val := match x with
  | .d y => .d y
  | x => .b i x
def selO (r : Nat) : O → D → Option Val
  | .lst xs, .int i => ((place xs.length i).bind fun k => xs[k]?).map (Val.ofO r)
  | _, _ => none
def selV : Val → D → Option Val
  | .d x, k => (selD x k).map .d
  | .b r o, k => selO r o k
  | .o _, _ => none
def fldV : Val → Nat → Option Val
  | .d (.ins _ fs), f => (fs.lookup f).map .d
  | .b r (.ins _ fs), f => (fs.lookup f).map (Val.ofO r)
  | _, _ => none
def allD : List O → Option (List D)
  | [] => some []
  | .d x :: r => (allD r).map (x :: ·)
  | _ => none
/-- the items of a list or tuple that is looked at -/
def itemsV : Val → Option (List D)
  | .d x => itemsD x
  | .b _ (.lst xs) => allD xs
  | _ => none
def lenV : Val → Option Nat
  | .d (.lst xs) => some xs.length
  | .d (.tup xs) => some xs.length
  | .d (.scr ns) => some ns.length
  | .d (.str z) => if z.length ≤ lineN then some z.length else none
  | .b _ (.lst xs) => some xs.length
  | _ => none

/-- to data -/
def toD : Val → Option D
  | .d x => some x
  | .o o => some o.frz
  | .b _ _ => none

/-! ### equality -/
abbrev Call := Nat → List Sl → CR
def owned (x : D) : Sl := .own (.d x)
def ansB : CR → Option Bool
  | .ret (.d (.bl b)) [] => some b
  | _ => none
def eqL (rec : D → D → Option Bool) : List D → List D → Option Bool
  | [], _ => some true
  | x :: xs, ys => match ys with
    | [] => some true
    | y :: ys => match rec x y with
      | some true => eqL rec xs ys
      | some false => some false
      | none => none
/-- what an own == may be asked of -/
def eqTo : D → Bool
  | .dcI _ => false
  | .dcT _ => false
  | .cls _ => false
  | _ => true
/-- x == y, items by rec -/
def eqA (G : Prog) (cl : Call) (rec : D → D → Option Bool) (x y : D) : Option Bool := match x with
  | .non => (match y with
    | .non => some true
    | .bl _ => some false
    | .int _ => some false
    | .str _ => some false
    | _ => none)
  | .bl a => (match y with
    | .bl b => some (a == b)
    | .non => some false
    | .str _ => some false
    | _ => none)
  | .int a => (match y with
    | .int b => some (a == b)
    | .non => some false
    | .str _ => some false
    | _ => none)
  | .str a => (match y with
    | .str b => some (a == b)
    | .non => some false
    | .bl _ => some false
    | .int _ => some false
    | _ => none)
  | .lst xs => (match y with
    | .lst ys => if xs.length = ys.length then eqL rec xs ys else some false
    | _ => none)
  | .tup xs => (match y with
    | .tup ys => (eqL rec xs ys).map fun b => b && decide (xs.length = ys.length)
    | _ => none)
  | .ins c fs => (match G.meth c m_eq, eqTo y with
    | some f, true => ansB (cl f [owned (.ins c fs), owned y])
    | _, _ => none)
  | _ => none
def eqD (G : Prog) (cl : Call) : Nat → D → D → Option Bool
  | 0 => eqA G cl fun _ _ => none
  | d + 1 => eqA G cl (eqD G cl d)
/-- so deep == goes -/
def eqN : Nat := 5
def scalD : D → Bool
  | .non => true
  | .bl _ => true
  | .int _ => true
  | .str _ => true
  | _ => false
def isLstV : Val → Bool
  | .d (.lst _) => true
  | .b _ (.lst _) => true
  | _ => false
def isNon : D → Bool
  | .non => true
  | _ => false
/-- what != is asked of -/
def neTo : D → Bool
  | .ins _ _ => false
  | _ => true
def memD (G : Prog) (cl : Call) (x : D) : List D → Option Bool
  | [] => some false
  | y :: ys => match eqD G cl eqN y x with
    | some true => some true
    | some false => memD G cl x ys
    | none => none
def cmpD (G : Prog) (cl : Call) : Cop → D → D → Option Bool
  | .eq, x, y => eqD G cl eqN x y
  | .ne, x, y => if neTo x then (eqD G cl eqN x y).map not else none
  | .lt, .int i, .int j => some (decide (i < j))
  | .le, .int i, .int j => some (decide (i ≤ j))
  | .gt, .int i, .int j => some (decide (j < i))
  | .ge, .int i, .int j => some (decide (j ≤ i))
  | .is_, x, .non => some (isNon x)
  | .isnot, x, .non => some (!isNon x)
  | _, _, _ => none
/-- a sign in a text -/
def memS : D → Str → Option Bool
  | .str y, z => (match y.cps.toList with
    | [c] => some (decide (c ∈ z.cps.toList))
    | _ => none)
  | _, _ => none
/-- the right side of in is only looked at -/
def memO (G : Prog) (cl : Call) (x : D) (v : Val) : Option Bool := (itemsV v).bind fun ys => if (scalD x && ys.all scalD) || isLstV v then memD G cl x ys else none
def txtV : Val → Option Str
  | .d (.str z) => some z
  | _ => none
def memV (G : Prog) (cl : Call) (x : D) (v : Val) : Option Bool := match txtV v with
  | some z => memS x z
  | none => memO G cl x v
def cmpV (G : Prog) (cl : Call) (op : Cop) (x : D) (v : Val) : Option Bool := match op with
  | .in_ => memV G cl x v
  | .notin => (memV G cl x v).map not
  | op => (toD v).bind fun y => cmpD G cl op x y
def isinD : D → Cs → Option Bool
  | .ins c _, .own k => some (c == k)
  | .ins _ _, _ => some false
  | .cls _, _ => none
  | .dcI _, _ => none
  | .dcT _, _ => none
  | .scr _, .list => some true
  | .scr _, _ => some false
  | _, .own _ => some false
  | .int _, .int => some true
  | .bl _, .int => some true
  | .bl _, .bool => some true
  | .str _, .str => some true
  | .lst _, .list => some true
  | .tup _, .tuple => some true
  | _, _ => some false

/-! ### calls -/
def Fr.get (σ : Fr) (i : Nat) : Option Sl := (σ[i]?).join
def Fr.put (σ : Fr) (i : Nat) (s : Option Sl) : Fr := σ.set i s
/-- what was lent comes back -/
def giveBack : Fr → List (Option (Nat × Bool)) → List O → Option Fr
  | σ, [], [] => some σ
  | σ, none :: bk, _ :: os => giveBack σ bk os
  | σ, some (i, l) :: bk, o :: os => giveBack (σ.put i (some (if l then .lent o else .own o))) bk os
  | _, _, _ => none
def after (r : CR) (bk : List (Option (Nat × Bool))) (σ : Fr) : Res Val := match r with
  | .ret v ls => opt (giveBack σ bk ls) fun σ => .ok v σ
  | .exc x ls => opt (giveBack σ bk ls) fun σ => .exc x σ
  | .bad => .bad
/-- what stands in a slot, to be lent -/
def lentAt (σ : Fr) (i : Nat) : Option (O × Bool) := match Fr.get σ i with
  | some (.own o) => some (o, false)
  | some (.lent o) => some (o, true)
  | none => none
def classO : O → Option Nat
  | .d (.ins c _) => some c
  | .ins c _ => some c
  | _ => none
def slD : Sl → Option D
  | .own (.d x) => some x
  | _ => none
def slDs : List Sl → Option (List D)
  | [] => some []
  | s :: r => (slD s).bind fun x => (slDs r).map (x :: ·)
/-- arguments beyond the last parameter of a def with a star -/
def packed (D : DefI) (ss : List Sl) : Option (List Sl) := match D.star with
  | false => some ss
  | true => (slDs (ss.drop (D.np - 1))).map fun r => ss.take (D.np - 1) ++ [owned (.tup r)]
def lentsOf : Fr → List Mode → Option (List O)
  | _, [] => some []
  | some (.lent o) :: σ, .lend :: ms => (lentsOf σ ms).map (o :: ·)
  | _ :: σ, .val :: ms => lentsOf σ ms
  | _, _ => none

def fin (md : Md) (v : Val) (σ : Fr) : Res Val := match md with
  | .val => (match v with
    | .b _ _ => .bad
    | v => .ok v σ)
  | .pk => .ok v σ
  | .tst => opt (truthV v) fun b => .ok (.d (.bl b)) σ
def bl (b : Bool) : Val := .d (.bl b)
/-- a thing that is no data, at a name: kept as data it is frozen -/
def getBig (md : Md) (i : Nat) (o : O) (σ' σ : Fr) : Res Val := match md with
  | .val => .ok (.d o.frz) σ'
  | .pk => .ok (.b i o) σ
  | .tst => fin .tst (.b i o) σ
def getO (md : Md) (i : Nat) (o : O) (mk : O → Sl) (σ : Fr) : Res Val := match o with
  | .d x => fin md (.d x) σ
  | o => getBig md i o (σ.put i (some (mk (.d o.frz)))) σ
/-- a name -/
def getVar (md : Md) (i : Nat) (σ : Fr) : Res Val := match σ.get i with
  | some (.own o) => getO md i o .own σ
  | some (.lent o) => getO md i o .lent σ
  | none => .bad
/-- with the root's slot hidden -/
def hidden {α : Type} (i : Nat) (σ : Fr) (f : Fr → Res α) : Res α := match σ[i]? with
    | some (some s) => (match f (σ.put i none) with
      | .ok a σ' => .ok a (σ'.put i (some s))
      | .exc x σ' => .exc x (σ'.put i (some s))
      | .bad => .bad)
    | _ => .bad
def asg (tg : Tg) (v : D) (σ : Fr) : Option Fr := match tg with
  | .var i => (match σ[i]? with
    | some (some (.lent _)) => none
    | some _ => some (σ.put i (some (owned v)))
    | none => none)
  | .tup ts => (itemsD v).bind fun xs => asgs ts xs σ
where asgs (ts : List Tg) (xs : List D) (σ : Fr) : Option Fr := match ts, xs with
  | [], [] => some σ
  | t :: ts, x :: xs => (asg t x σ).bind fun σ => asgs ts xs σ
  | _, _ => none
def rngOf : List D → Option (List D)
  | [.int n] => if -4611686018427387904 ≤ n ∧ n < 4611686018427387904 then some ((List.range n.toNat).map fun (k : Nat) => D.int k) else none
  | [.int a, .int b] => if -4611686018427387904 ≤ a ∧ a < 4611686018427387904 ∧ -4611686018427387904 ≤ b ∧ b < 4611686018427387904 then some ((List.range (b - a).toNat).map fun (k : Nat) => D.int (a + k)) else none
  | _ => none
def enumL (k : Nat) : List D → List D
  | [] => []
  | x :: xs => .tup [.int k, x] :: enumL (k + 1) xs
/-- texts -/
def D.strs : List D → Option (List Str)
  | [] => some []
  | .str i :: r => (D.strs r).map (i :: ·)
  | _ => none
/-- a method of a text, with one argument -/
def bmV : Bm → Str → D → Option D
  | .split, a, .str b => if 0 < b.length ∧ a.length + 2 ≤ lineN then some (.lst ((PySem.Txt.split a b).map D.str)) else none
  | .join, a, .lst xs => (D.strs xs).bind fun ys => if (ys.map (·.length)).sum + ys.length * a.length ≤ lineN then some (.str (PySem.Txt.join a ys)) else none
  | _, _, _ => none
/-- in an f-string -/
def fmtD : D → Option Str
  | .int i => if i.natAbs.log2 < 1920 then some (PySem.Str.ofString (toString i)) else none
  | .str z => if z.length ≤ lineN then some z else none
  | _ => none
def fmtA (x : D) (s : Str) : Option Str := (fmtD x).bind fun a => if a.length ≤ lineN ∧ (a ++ s).length ≤ lineN then some (a ++ s) else none
def fmtB (p : Str) (y : D) : Option D := (fmtD y).bind fun b => if (p ++ b).length ≤ lineN then some (.str (p ++ b)) else none
def mxV (mx : Bool) : D → D → Option D
  | .int i, .int j => some (.int (if mx then (if j > i then j else i) else (if j < i then j else i)))
  | _, _ => none
def revV : D → Option D
  | .lst xs => some (.lst xs.reverse)
  | _ => none
/-- the items of a list that is looked at -/
def lstItems (v : Val) : Option (List D) := match v with
  | .d (.lst xs) => some xs
  | .d (.scr ns) => some (ns.map D.int)
  | .b _ (.lst os) => allD os
  | _ => none
def biV (b : Bi) (v : Val) : Option D := match b with
  | .len => (lenV v).map fun (n : Nat) => D.int n
  | .abs => (match v with
    | .d (.int i) => some (.int (if i < 0 then -i else i))
    | _ => none)
  | .int => (match v with
    | .d (.int i) => some (.int i)
    | .d (.bl b) => some (.int (if b then 1 else 0))
    | .d (.str z) => if z.length ≤ 640 then (PySem.intText? z).map .int else none
    | _ => none)
  | .str => (match v with
    | .d (.int i) => if i.natAbs.log2 < 1920 then some (.str (PySem.Str.ofString (toString i))) else none
    | .d (.str z) => some (.str z)
    | _ => none)
  | .bool => (match v with
    | .d (.int i) => some (.bl (i != 0))
    | .d (.bl b) => some (.bl b)
    | _ => none)
  | .list => (itemsV v).map .lst
  | .tuple => (itemsV v).map .tup
  | .sum => (lstItems v).bind fun xs => (D.ints xs).map fun ns => D.int ns.sum
  | .min => (lstItems v).bind fun xs => (D.ints xs).bind fun ns => if ns.isEmpty then none else some (D.int (minI ns))
  | .max => (lstItems v).bind fun xs => (D.ints xs).bind fun ns => if ns.isEmpty then none else some (D.int (maxI ns))
  | .all => (lstItems v).bind fun xs => (D.bls xs).map fun bs => D.bl (bs.all id)
  | .any => (lstItems v).bind fun xs => (D.bls xs).map fun bs => D.bl (bs.any id)
  | _ => none
/-- the first list's things at the places p, the second's elsewhere -/
def mixL {α : Type} (p : Nat → Bool) : Nat → List α → List α → List α
  | i, a :: as, b :: bs => (if p i then a else b) :: mixL p (i + 1) as bs
  | _, _, _ => []
/-- the slots of a block's own names, as they were -/
def restored (σ0 : Fr) (vs : List Nat) (σ : Fr) : Fr := mixL (fun i => vs.contains i) 0 σ0 σ
def wiped (vs : List Nat) (σ : Fr) : Fr := mixL (fun i => vs.contains i) 0 (List.replicate σ.length none) σ

/-! ### expressions -/
def opm : Bop → Option Nat
  | .add => some m_add
  | .sub => some m_sub
  | .mul => some m_mul
  | .band => some m_and
  | .bor => some m_or
  | _ => none
/-- a method of data, without lending -/
def ownCall (G : Prog) (cl : Call) (x : D) (m : Nat) (ys : List D) (σ : Fr) : Res Val := match x with
  | .ins c _ => opt (G.meth c m) fun f => after (cl f (owned x :: ys.map owned)) [] σ
  | _ => .bad
def binV (G : Prog) (cl : Call) (op : Bop) (x y : D) (σ : Fr) : Res Val := match x with
  | .ins c _ => (match y with
    | .ins c' _ => if c = c' then opt (opm op) fun m => ownCall G cl x m [y] σ else .bad
    | _ => .bad)
  | _ => opt (binD op x y) fun z => .ok (.d z) σ
def negV (G : Prog) (cl : Call) (x : D) (σ : Fr) : Res Val := match x with
  | .int i => .ok (.d (.int (-i))) σ
  | x => ownCall G cl x m_neg [] σ
/-- bool(x) -/
def booV (G : Prog) (cl : Call) (x : D) (σ : Fr) : Res Val := match x with
  | .ins c fs => (ownCall G cl (.ins c fs) m_bool [] σ).bind fun r σ => match r with
    | .d (.bl b) => .ok (.d (.bl b)) σ
    | _ => .bad
  | x => opt (biV .bool (.d x)) fun y => .ok (.d y) σ
/-- str(x) -/
def stoV (G : Prog) (cl : Call) (x : D) (σ : Fr) : Res Val := match x with
  | .ins c fs => (ownCall G cl (.ins c fs) m_str [] σ).bind fun r σ => match r with
    | .d (.str b) => .ok (.d (.str b)) σ
    | _ => .bad
  | x => opt (biV .str (.d x)) fun y => .ok (.d y) σ
/-- a new instance: its __init__ over the slots ss, what was lent bk -/
def makeV (G : Prog) (cl : Call) (c : Nat) (ss : List Sl) (bk : List (Option (Nat × Bool))) (σ : Fr) : Res Val := match G.clss[c]? with
  | none => .bad
  | some C => (match cl C.init (.lent (.ins c []) :: ss) with
    | .ret (.d .non) (o :: ls) => opt (giveBack σ bk ls) fun σ => .ok (if C.frz then .d o.frz else .o o) σ
    | .exc x (_ :: ls) => opt (giveBack σ bk ls) fun σ => .exc x σ
    | _ => .bad)
def modesOf (G : Prog) (f : Nat) : List Mode := match G.defs[f]? with
  | some D => D.modes
  | none => []
def asO : Val → Option O
  | .d x => some (.d x)
  | .o o => some o
  | .b _ _ => none
/-- a new list: one's own, or data -/
def lstV (own : Bool) (os : List O) : Val := match own with
  | true => .o (.lst os)
  | false => .d (.lst (O.frzL os))
/-- the turns of a comprehension -/
def compLoop (turn : D → Fr → Res (Option O)) : List D → Fr → Res (List O)
  | [], σ => .ok [] σ
  | x :: xs, σ => (turn x σ).bind fun r σ => (compLoop turn xs σ).map fun vs => match r with
    | some v => v :: vs
    | none => vs
def compLoop2 (turn : D → Fr → Res (List O)) : List D → Fr → Res (List O)
  | [], σ => .ok [] σ
  | x :: xs, σ => (turn x σ).bind fun r σ => (compLoop2 turn xs σ).map fun vs => r ++ vs
def slcV (v : Val) (lo hi : Option Int) : Option Val := match v with
  | .d (.lst xs) => some (.d (.lst (cutL xs lo hi)))
  | .d (.tup xs) => some (.d (.tup (cutL xs lo hi)))
  | .d (.scr ns) => some (.d (.lst ((cutL ns lo hi).map D.int)))
  | .d (.str z) => if z.length ≤ lineN then some (.d (.str (L2.cutS z lo hi))) else none
  | .b _ (.lst xs) => (allD xs).map fun xs => .d (.lst (cutL xs lo hi))
  | _ => none
/-- no exception comes out of a comprehension's block -/
def Res.nox {α : Type} : Res α → Res α
  | .exc _ _ => .bad
  | r => r
def retOk (v : Val) (σ : Fr) : Res Val := .ok v σ

mutual
def ev (G : Prog) (cl : Call) (md : Md) : E → Fr → Res Val
  | .cst d, σ => fin md (.d d) σ
  | .var i, σ => getVar md i σ
  | .glo x, σ => opt G.glos[x]? fun d => fin md (.d d) σ
  | .clsv c, σ => fin md (.d (.cls c)) σ
  | .never, _ => .bad
  | .fld a f, σ => ((ev G cl .pk a σ).bind fun v σ => opt (fldV v f) fun v => .ok v σ).bind (fin md)
  | .idx a i, σ => ((ev G cl .pk a σ).bind fun v σ => match v with
    | .b r _ => (hidden r σ fun σ => ev G cl .val i σ).bind fun k σ => opt ((toD k).bind fun k => selV v k) fun v => .ok v σ
    | .o _ => .bad
    | .d _ => (ev G cl .val i σ).bind fun k σ => opt ((toD k).bind fun k => selV v k) fun v => .ok v σ).bind (fin md)
  | .slc a lo hi, σ => ((ev G cl .pk a σ).bind fun v σ => match v with
    | .b r _ => (hidden r σ fun σ => (evO G cl lo σ).bind fun l σ => (evO G cl hi σ).map fun h => (l, h)).bind fun lh σ => opt (slcV v lh.1 lh.2) fun v => .ok v σ
    | .o _ => .bad
    | .d _ => ((evO G cl lo σ).bind fun l σ => (evO G cl hi σ).map fun h => (l, h)).bind fun lh σ => opt (slcV v lh.1 lh.2) fun v => .ok v σ).bind (fin md)
  | .tup es, σ => ((evs G cl es σ).bind fun os σ => if os.length ≤ lineN then .ok (.d (.tup (O.frzL os))) σ else .bad).bind (fin md)
  | .lst own es, σ => ((evs G cl es σ).bind fun os σ => if os.length ≤ lineN then .ok (lstV own os) σ else .bad).bind (fin md)
  | .neg a, σ => ((ev G cl .val a σ).bind fun v σ => opt (toD v) fun x => negV G cl x σ).bind (fin md)
  | .bin op a b, σ => ((ev G cl .val a σ).bind fun v σ => opt (toD v) fun x => (ev G cl .val b σ).bind fun u σ => opt (toD u) fun y => binV G cl op x y σ).bind (fin md)
  | .cmp op a b, σ => ((ev G cl .val a σ).bind fun v σ => opt (toD v) fun x => (ev G cl .pk b σ).bind fun u σ => opt (cmpV G cl op x u) fun c => .ok (bl c) σ).bind (fin md)
  | .chn p q a b c, σ => ((ev G cl .val a σ).bind fun v σ => opt (toD v) fun x => (ev G cl .val b σ).bind fun u σ => opt (toD u) fun y => opt (cmpD G cl p x y) fun k => match k with
    | false => .ok (bl false) σ
    | true => (ev G cl .val c σ).bind fun w σ => opt (toD w) fun z => opt (cmpD G cl q y z) fun k => .ok (bl k) σ).bind (fin md)
  | .not a, σ => ((ev G cl md a σ).bind fun v σ => opt (truthV v) fun b => .ok (bl (!b)) σ)
  | .and a b, σ => (ev G cl md a σ).bind fun v σ => match v with
    | .d (.bl true) => ev G cl md b σ
    | .d (.bl false) => fin md (bl false) σ
    | _ => .bad
  | .or a b, σ => (ev G cl md a σ).bind fun v σ => match v with
    | .d (.bl true) => fin md (bl true) σ
    | .d (.bl false) => ev G cl md b σ
    | _ => .bad
  | .ife c a b, σ => (ev G cl .tst c σ).bind fun v σ => match v with
    | .d (.bl true) => ev G cl md a σ
    | .d (.bl false) => ev G cl md b σ
    | _ => .bad
  | .call f as, σ => ((evAs G cl (modesOf G f) as σ).bind fun p σ => after (cl f p.1) p.2 σ).bind (fin md)
  | .make c as, σ => (opt G.clss[c]? fun C => (evAs G cl (modesOf G C.init).tail as σ).bind fun p σ => makeV G cl c p.1 p.2 σ).bind (fin md)
  | .callv a as, σ => ((ev G cl .val a σ).bind fun v σ => match v with
    | .d (.cls c) => opt G.clss[c]? fun C => (evAs G cl (modesOf G C.init).tail as σ).bind fun p σ => makeV G cl c p.1 p.2 σ
    | _ => .bad).bind (fin md)
  | .meth a m as, σ => ((ev G cl .val a σ).bind fun v σ => opt (toD v) fun x => match x with
    | .ins c fs => opt (G.meth c m) fun f => (match (modesOf G f).head? with
      | some .val => (evAs G cl (modesOf G f).tail as σ).bind fun p σ => after (cl f (owned (.ins c fs) :: p.1)) p.2 σ
      | _ => .bad)
    | _ => .bad).bind (fin md)
  | .methL i m as, σ => (match lentAt σ i with
    | some (o, l) => opt ((classO o).bind fun c => G.meth c m) fun f => (match (modesOf G f).head? with
      | some .lend => (evAs G cl (modesOf G f).tail as (σ.put i none)).bind fun p σ => after (cl f (.lent o :: p.1)) (some (i, l) :: p.2) σ
      | _ => .bad)
    | none => .bad).bind (fin md)
  | .cmeth a m as, σ => ((ev G cl .val a σ).bind fun v σ => match v with
    | .d (.cls c) => opt (G.cmeth c m) fun f => (evAs G cl (modesOf G f).tail as σ).bind fun p σ => after (cl f (owned (.cls c) :: p.1)) p.2 σ
    | _ => .bad).bind (fin md)
  | .bi b a, σ => ((ev G cl .pk a σ).bind fun v σ => opt (biV b v) fun x => .ok (.d x) σ).bind (fin md)
  | .boo a, σ => ((ev G cl .val a σ).bind fun v σ => opt (toD v) fun x => booV G cl x σ).bind (fin md)
  | .isin a c, σ => ((ev G cl .val a σ).bind fun v σ => opt (toD v) fun x => opt (isinD x c) fun b => .ok (bl b) σ).bind (fin md)
  | .sto a, σ => ((ev G cl .val a σ).bind fun v σ => opt (toD v) fun x => stoV G cl x σ).bind (fin md)
  | .fmt a s b, σ => ((ev G cl .val a σ).bind fun v σ => opt (toD v) fun x => opt (fmtA x s) fun p => (ev G cl .val b σ).bind fun u σ => opt (toD u) fun y => opt (fmtB p y) fun z => .ok (.d z) σ).bind (fin md)
  | .mxm mx a b, σ => ((ev G cl .val a σ).bind fun v σ => opt (toD v) fun x => (ev G cl .val b σ).bind fun u σ => opt (toD u) fun y => opt (mxV mx x y) fun z => .ok (.d z) σ).bind (fin md)
  | .rev a, σ => ((ev G cl .val a σ).bind fun v σ => opt (toD v) fun x => opt (revV x) fun z => .ok (.d z) σ).bind (fin md)
  | .bm a m b, σ => ((ev G cl .val a σ).bind fun v σ => opt (txtV v) fun x => (ev G cl .val b σ).bind fun u σ => opt (toD u) fun y => opt (bmV m x y) fun z => .ok (.d z) σ).bind (fin md)
  | .comp own elt tg it cs vs, σ => ((evIt G cl it σ).bind fun xs σ => (compLoop (fun x σ' => opt (asg tg x (wiped vs σ')) fun σ' => (evCs G cl cs σ').bind fun ok σ' => match ok with
      | true => (ev G cl .val elt σ').bind fun v σ' => opt (asO v) fun o => .ok (some o) σ'
      | false => .ok none σ') xs (wiped vs σ)).nox.bind fun r σ' => if r.length ≤ lineN then .ok (lstV own r) (restored σ vs σ') else .bad).bind (fin md)
  | .comp2 own elt tg it cs tg2 it2 cs2 vs vs2, σ => ((evIt G cl it σ).bind fun xs σ => (compLoop2 (fun x σ' => opt (asg tg x (wiped vs σ')) fun σ' => (evCs G cl cs σ').bind fun ok σ' => match ok with
      | true => (evIt G cl it2 σ').bind fun ys σ' => compLoop (fun y σ' => opt (asg tg2 y (wiped vs2 σ')) fun σ' => (evCs G cl cs2 σ').bind fun ok σ' => match ok with
          | true => (ev G cl .val elt σ').bind fun v σ' => opt (asO v) fun o => .ok (some o) σ'
          | false => .ok none σ') ys σ'
      | false => .ok [] σ') xs (wiped vs σ)).nox.bind fun r σ' => if r.length ≤ lineN then .ok (lstV own r) (restored σ vs σ') else .bad).bind (fin md)
def evO (G : Prog) (cl : Call) : Eo → Fr → Res (Option Int)
  | .none, σ => .ok none σ
  | .some e, σ => (ev G cl .val e σ).bind fun v σ => match v with
    | .d (.int i) => .ok (some i) σ
    | _ => .bad
/-- the items of a display -/
def evs (G : Prog) (cl : Call) : Es → Fr → Res (List O)
  | .nil, σ => .ok [] σ
  | .cons star e r, σ => match star with
    | false => (ev G cl .val e σ).bind fun v σ => opt (asO v) fun o => (evs G cl r σ).map fun os => o :: os
    | true => (ev G cl .pk e σ).bind fun v σ => opt (itemsV v) fun xs => (evs G cl r σ).map fun os => xs.map O.d ++ os
/-- all tests of a comprehension -/
def evCs (G : Prog) (cl : Call) : Es → Fr → Res Bool
  | .nil, σ => .ok true σ
  | .cons _ e .nil, σ => (ev G cl .tst e σ).bind fun v σ => match v with
    | .d (.bl b) => .ok b σ
    | _ => .bad
  | .cons _ _ (.cons _ _ _), _ => .bad
def evAs (G : Prog) (cl : Call) (ms : List Mode) : Es → Fr → Res (List Sl × List (Option (Nat × Bool)))
  | .nil, σ => .ok ([], []) σ
  | .cons star e r, σ => match star with
    | true => (ev G cl .pk e σ).bind fun v σ => opt (itemsV v) fun xs => (evAs G cl [] r σ).map fun p => (xs.map owned ++ p.1, p.2)
    | false => match ms with
      | .lend :: ms => (match e with
        | .var i => opt (lentAt σ i) fun ol => (evAs G cl ms r (σ.put i none)).map fun p => (.lent ol.1 :: p.1, some (i, ol.2) :: p.2)
        | _ => .bad)
      | .val :: ms => (ev G cl .val e σ).bind fun v σ => opt (toD v) fun x => (evAs G cl ms r σ).map fun p => (owned x :: p.1, p.2)
      | [] => (ev G cl .val e σ).bind fun v σ => opt (toD v) fun x => (evAs G cl [] r σ).map fun p => (owned x :: p.1, p.2)
/-- what is walked -/
def evIt (G : Prog) (cl : Call) : It → Fr → Res (List D)
  | .seq e, σ => (ev G cl .val e σ).bind fun v σ => opt ((toD v).bind iterD) fun xs => .ok xs σ
  | .rng as, σ => (evs G cl as σ).bind fun os σ => opt (rngOf (O.frzL os)) fun xs => .ok xs σ
  | .enum e, σ => (ev G cl .val e σ).bind fun v σ => opt ((toD v).bind itemsD) fun xs => .ok (enumL 0 xs) σ
  | .zip a b, σ => (ev G cl .val a σ).bind fun v σ => opt ((toD v).bind itemsD) fun xs => (ev G cl .val b σ).bind fun u σ => opt ((toD u).bind itemsD) fun ys => .ok ((xs.zip ys).map fun p => .tup [p.1, p.2]) σ
end

/-! ### statements -/
inductive RS where
  | next (σ : Fr) | ret (v : Val) (σ : Fr) | brk (σ : Fr) | cont (σ : Fr) | exc (x : Xv) (σ : Fr) | bad
def Res.st {α : Type} (r : Res α) (f : α → Fr → RS) : RS := match r with
  | .ok a σ => f a σ
  | .exc x σ => .exc x σ
  | .bad => .bad
def optS {α : Type} (o : Option α) (f : α → RS) : RS := match o with
  | some a => f a
  | none => .bad
def asgV (i : Nat) (v : Val) (σ : Fr) : Option Fr := match σ[i]? with
  | some (some (.lent _)) => none
  | some _ => (asO v).map fun o => σ.put i (some (.own o))
  | none => none
def setPl {α : Type} (k : Int) (v : α) : List (Int × α) → List (Int × α)
  | [] => [(k, v)]
  | (j, u) :: r => if j = k then (j, v) :: r else (j, u) :: setPl k v r
def setPT {α : Type} (k : List Int) (v : α) : List (List Int × α) → List (List Int × α)
  | [] => [(k, v)]
  | (j, u) :: r => if j = k then (j, v) :: r else (j, u) :: setPT k v r
def putN {α : Type} (k : Nat) (v : α) : List (Nat × α) → List (Nat × α)
  | [] => [(k, v)]
  | (j, u) :: r => if j = k then (j, v) :: r else (j, u) :: putN k v r
/-- o[k] = v -/
def setO (o : O) (k : D) (v : O) : Option O := match o, k with
  | .lst xs, .int i => (place xs.length i).map fun j => .lst (xs.set j v)
  | _, _ => none
def setF (o : O) (f : Nat) (v : O) : Option O := match o with
  | .ins c fs => if fs.length < 1000 then some (.ins c (putN f v fs)) else none
  | _ => none
/-- the thing in a slot is changed -/
def chg (σ : Fr) (a : Nat) (f : O → Option O) : Option Fr := match σ.get a with
  | some (.own o) => (f o).map fun o => σ.put a (some (.own o))
  | some (.lent o) => (f o).map fun o => σ.put a (some (.lent o))
  | _ => none
def bwO (m : Bw) (o : O) (vs : List O) : Option O := match m, o, vs with
  | .append, .lst xs, [x] => if xs.length < lineN then some (.lst (xs ++ [x])) else none
  | _, _, _ => none
def forLoop (turn : D → Fr → RS) : List D → Fr → RS
  | [], σ => .next σ
  | x :: xs, σ => match turn x σ with
    | .next σ => forLoop turn xs σ
    | .cont σ => forLoop turn xs σ
    | .brk σ => .next σ
    | r => r
def whlLoop (test : Fr → Res Val) (body : Fr → RS) : Nat → Fr → RS
  | 0, _ => .bad
  | n + 1, σ => (test σ).st fun v σ => match v with
    | .d (.bl false) => .next σ
    | .d (.bl true) => (match body σ with
      | .next σ => whlLoop test body n σ
      | .cont σ => whlLoop test body n σ
      | .brk σ => .next σ
      | r => r)
    | _ => .bad
mutual
/-- an expression of an except suite -/
def evH (x : Xv) (σ : Fr) : HE → Option D
  | .cst d => some d
  | .exf k => x.ds[k]?
  | .var i => (match σ.get i with
    | some (.own (.d y)) => some y
    | _ => none)
  | .lst es => (evHs x σ es).map .lst
  | .eq a b => (evH x σ a).bind fun y => (evH x σ b).bind fun z => (match y, z with
    | .int i, .int j => some (.bl (i == j))
    | _, _ => none)
  | .and a b => (evH x σ a).bind fun y => (match y with
    | .bl true => evH x σ b
    | .bl false => some (.bl false)
    | _ => none)
  | .not a => (evH x σ a).bind fun y => (match y with
    | .bl b => some (.bl (!b))
    | _ => none)
  | .isin a c => (evH x σ a).bind fun y => (isinD y c).map .bl
def evHs (x : Xv) (σ : Fr) : HEs → Option (List D)
  | .nil => some []
  | .cons e r => (evH x σ e).bind fun y => (evHs x σ r).map (y :: ·)
end
/-- the clause that takes the exception -/
def handle (x : Xv) (σ : Fr) : Hs → RS
  | .nil => .exc x σ
  | .cons c i h r => if x.c = c then (match h with
      | .ret e => optS (evH x (σ.put i none) e) fun y => .ret (.d y) (σ.put i none))
    else handle x σ r
mutual
def exS (G : Prog) (cl : Call) (w : Nat) : S → Fr → RS
  | .asg i e, σ => (ev G cl .val e σ).st fun v σ => optS (asgV i v σ) .next
  | .asgT ts e, σ => (ev G cl .val e σ).st fun v σ => optS ((toD v).bind fun x => asg (.tup ts) x σ) .next
  | .par i j a b, σ => (evs G cl (.cons false a (.cons false b .nil)) σ).st fun os σ => match os with
    | [o1, o2] => optS ((asgV i (.o o1) σ).bind fun σ => asgV j (.o o2) σ) .next
    | _ => .bad
  | .sfld a f e, σ => (ev G cl .val e σ).st fun v σ => optS ((asO v).bind fun o => chg σ a fun z => setF z f o) .next
  | .sidx a i e, σ => (ev G cl .val e σ).st fun v σ => optS (asO v) fun o => optS (lentAt σ a) fun _ => (ev G cl .val i σ).st fun k σ => optS ((toD k).bind fun k => chg σ a fun z => setO z k o) .next
  | .bw a m as, σ => match lentAt σ a with
    | some (.lst _, _) => (evs G cl as σ).st fun vs σ => optS (chg σ a fun z => bwO m z vs) .next
    | _ => .bad
  | .expr e, σ => (ev G cl .val e σ).st fun _ σ => .next σ
  | .ret e, σ => (ev G cl .val e σ).st fun v σ => .ret v σ
  | .retN, σ => .ret (.d .non) σ
  | .ife c a b, σ => (ev G cl .tst c σ).st fun v σ => match v with
    | .d (.bl true) => exSs G cl w a σ
    | .d (.bl false) => exSs G cl w b σ
    | _ => .bad
  | .whl c b, σ => whlLoop (fun σ => ev G cl .tst c σ) (fun σ => exSs G cl w b σ) w σ
  | .for_ tg it b, σ => (evIt G cl it σ).st fun xs σ => forLoop (fun x σ => optS (asg tg x σ) fun σ => exSs G cl w b σ) xs σ
  | .raise c as, σ => (evs G cl as σ).st fun os σ => .exc ⟨c, O.frzL os⟩ σ
  | .brk, σ => .brk σ
  | .cont, σ => .cont σ
  | .pass, σ => .next σ
  | .never, _ => .bad
  | .tryc b hs, σ => match exSs G cl w b σ with
    | .exc x σ => handle x σ hs
    | r => r
def exSs (G : Prog) (cl : Call) (w : Nat) : Ss → Fr → RS
  | .nil, σ => .next σ
  | .cons s r, σ => match exS G cl w s σ with
    | .next σ => exSs G cl w r σ
    | z => z
end
/-- a lent slot for each lent parameter, and for no other -/
def modesOk : List Sl → List Mode → Bool
  | [], [] => true
  | .lent _ :: ss, .lend :: ms => modesOk ss ms
  | .own _ :: ss, .val :: ms => modesOk ss ms
  | _, _ => false
def retV (own : Bool) (v : Val) : Option Val := match own with
  | true => (match v with
    | .b _ _ => none
    | v => some v)
  | false => (toD v).map .d
def finish (D : DefI) (r : RS) : CR := match r with
  | .next σ => (match lentsOf σ D.modes with
    | some ls => .ret (.d .non) ls
    | none => .bad)
  | .ret v σ => (match retV D.own v, lentsOf σ D.modes with
    | some v, some ls => .ret v ls
    | _, _ => .bad)
  | .exc x σ => (match lentsOf σ D.modes with
    | some ls => .exc x ls
    | none => .bad)
  | _ => .bad
/-- a def, called: to a depth of n calls, w turns of a while -/
def callD (G : Prog) (w : Nat) : Nat → Call
  | 0, _, _ => .bad
  | n + 1, f, ss => match G.defs[f]? with
    | none => .bad
    | some D => (match packed D ss with
      | none => .bad
      | some ss => if ss.length = D.np ∧ modesOk ss D.modes = true then finish D (exSs G (callD G w n) w D.body (ss.map some ++ List.replicate (D.ns - D.np) none)) else .bad)
end Tf
end
section
set_option Elab.async false
set_option linter.all false
set_option maxRecDepth 100000
/-! Soundness of the evaluator over the hand layer, part 0: how data stands in the abstract heap. -/
namespace Tf
open PySem PySem.Spec PyProof.Rows L2

/-- where the text's things stand -/
structure Tb where
  cA : Nat → Addr
  fN : Nat → PySem.Str
  /-- so many classes, fields -/
  nc : Nat
  nf : Nat

theorem Le.refl' {H : Hp} : L2.Same H H := L2.Same.refl H

mutual
/-- data at a value, by what is frozen -/
def RD (T : Tb) (F : Hp) : D → V → Prop
  | .non, v => v = .non
  | .bl b, v => v = .bl b
  | .int i, v => v = .int i
  | .str s, v => v = .str s
  | .tup xs, v => ∃ a vs, v = .ref a ∧ F a = some (.tup vs) ∧ RDs T F xs vs
  | .lst xs, v => ∃ a vs, v = .ref a ∧ F a = some (.lst vs) ∧ RDs T F xs vs
  | .ins c fs, v => ∃ a dx gs, c < T.nc ∧ v = .ref a ∧ F a = some (.ins (T.cA c) dx gs) ∧ RDf T F fs gs
  | .dcI kvs, v => ∃ a ws, v = .ref a ∧ F a = some (.dK ws) ∧ RDi T F kvs ws
  | .dcT kvs, v => ∃ a ws, v = .ref a ∧ F a = some (.dT ws) ∧ RDt T F kvs ws
  | .cls c, v => c < T.nc ∧ v = .ref (T.cA c)
  | .scr ns, v => ∃ a ob, v = .ref a ∧ F a = some (.frz ob (.lst (ns.map V.int)))
def RDs (T : Tb) (F : Hp) : List D → List V → Prop
  | [], vs => vs = []
  | x :: xs, vs => ∃ v r, vs = v :: r ∧ RD T F x v ∧ RDs T F xs r
def RDf (T : Tb) (F : Hp) : List (Nat × D) → List (PySem.Str × V) → Prop
  | [], vs => vs = []
  | (k, x) :: xs, vs => ∃ v r, k < T.nf ∧ vs = (T.fN k, v) :: r ∧ RD T F x v ∧ RDf T F xs r
def RDi (T : Tb) (F : Hp) : List (Int × D) → List (Key × V) → Prop
  | [], vs => vs = []
  | (k, x) :: xs, vs => ∃ v r, vs = (.inl k, v) :: r ∧ RD T F x v ∧ RDi T F xs r
def RDt (T : Tb) (F : Hp) : List (List Int × D) → List (List Key × V) → Prop
  | [], vs => vs = []
  | (k, x) :: xs, vs => ∃ v r, vs = (k.map Sum.inl, v) :: r ∧ RD T F x v ∧ RDt T F xs r
end

mutual
theorem RD.mono {T : Tb} {F F' : Hp} (h : Same F F') : ∀ {x : D} {v : V}, RD T F x v → RD T F' x v
  | .non, _, r => r
  | .bl _, _, r => r
  | .int _, _, r => r
  | .str _, _, r => r
  | .tup xs, _, r => by
    obtain ⟨a, vs, e, e2, r⟩ := r
    exact ⟨a, vs, e, h _ _ e2, RDs.mono h r⟩
  | .lst xs, _, r => by
    obtain ⟨a, vs, e, e2, r⟩ := r
    exact ⟨a, vs, e, h _ _ e2, RDs.mono h r⟩
  | .ins c fs, _, r => by
    obtain ⟨a, dx, gs, hc, e, e2, r⟩ := r
    exact ⟨a, dx, gs, hc, e, h _ _ e2, RDf.mono h r⟩
  | .dcI kvs, _, r => by
    obtain ⟨a, ws, e, e2, r⟩ := r
    exact ⟨a, ws, e, h _ _ e2, RDi.mono h r⟩
  | .dcT kvs, _, r => by
    obtain ⟨a, ws, e, e2, r⟩ := r
    exact ⟨a, ws, e, h _ _ e2, RDt.mono h r⟩
  | .cls _, _, r => r
  | .scr _, _, r => by
    obtain ⟨a, ob, e, e2⟩ := r
    exact ⟨a, ob, e, h _ _ e2⟩
theorem RDs.mono {T : Tb} {F F' : Hp} (h : Same F F') : ∀ {xs : List D} {vs : List V}, RDs T F xs vs → RDs T F' xs vs
  | [], _, r => r
  | x :: xs, _, r => by
    obtain ⟨v, s, e, r1, r2⟩ := r
    exact ⟨v, s, e, RD.mono h r1, RDs.mono h r2⟩
theorem RDf.mono {T : Tb} {F F' : Hp} (h : Same F F') : ∀ {xs : List (Nat × D)} {vs : List (PySem.Str × V)}, RDf T F xs vs → RDf T F' xs vs
  | [], _, r => r
  | (k, x) :: xs, _, r => by
    obtain ⟨v, s, hk, e, r1, r2⟩ := r
    exact ⟨v, s, hk, e, RD.mono h r1, RDf.mono h r2⟩
theorem RDi.mono {T : Tb} {F F' : Hp} (h : Same F F') : ∀ {xs : List (Int × D)} {vs : List (Key × V)}, RDi T F xs vs → RDi T F' xs vs
  | [], _, r => r
  | (k, x) :: xs, _, r => by
    obtain ⟨v, s, e, r1, r2⟩ := r
    exact ⟨v, s, e, RD.mono h r1, RDi.mono h r2⟩
theorem RDt.mono {T : Tb} {F F' : Hp} (h : Same F F') : ∀ {xs : List (List Int × D)} {vs : List (List Key × V)}, RDt T F xs vs → RDt T F' xs vs
  | [], _, r => r
  | (k, x) :: xs, _, r => by
    obtain ⟨v, s, e, r1, r2⟩ := r
    exact ⟨v, s, e, RD.mono h r1, RDt.mono h r2⟩
end

/-! ### owned things: their footprint A -/
mutual
def RO (T : Tb) (F H : Hp) : O → V → List Addr → Prop
  | .d x, v, A => A = [] ∧ RD T F x v
  | .lst os, v, A => ∃ a vs B, v = .ref a ∧ A = a :: B ∧ H a = some (.lst vs) ∧ ROs T F H os vs B
  | .ins c fs, v, A => ∃ a dx gs B, c < T.nc ∧ v = .ref a ∧ A = a :: B ∧ H a = some (.ins (T.cA c) dx gs) ∧ ROf T F H fs gs B
  | .dcI kvs, v, A => ∃ a ws B, v = .ref a ∧ A = a :: B ∧ H a = some (.dK ws) ∧ ROi T F H kvs ws B
  | .dcT kvs, v, A => ∃ a ws B, v = .ref a ∧ A = a :: B ∧ H a = some (.dT ws) ∧ ROt T F H kvs ws B
def ROs (T : Tb) (F H : Hp) : List O → List V → List Addr → Prop
  | [], vs, A => vs = [] ∧ A = []
  | x :: xs, vs, A => ∃ v r A1 A2, vs = v :: r ∧ A = A1 ++ A2 ∧ RO T F H x v A1 ∧ ROs T F H xs r A2
def ROf (T : Tb) (F H : Hp) : List (Nat × O) → List (PySem.Str × V) → List Addr → Prop
  | [], vs, A => vs = [] ∧ A = []
  | (k, x) :: xs, vs, A => ∃ v r A1 A2, k < T.nf ∧ vs = (T.fN k, v) :: r ∧ A = A1 ++ A2 ∧ RO T F H x v A1 ∧ ROf T F H xs r A2
def ROi (T : Tb) (F H : Hp) : List (Int × O) → List (Key × V) → List Addr → Prop
  | [], vs, A => vs = [] ∧ A = []
  | (k, x) :: xs, vs, A => ∃ v r A1 A2, vs = (.inl k, v) :: r ∧ A = A1 ++ A2 ∧ RO T F H x v A1 ∧ ROi T F H xs r A2
def ROt (T : Tb) (F H : Hp) : List (List Int × O) → List (List Key × V) → List Addr → Prop
  | [], vs, A => vs = [] ∧ A = []
  | (k, x) :: xs, vs, A => ∃ v r A1 A2, vs = (k.map Sum.inl, v) :: r ∧ A = A1 ++ A2 ∧ RO T F H x v A1 ∧ ROt T F H xs r A2
end
/-- H' stands as H at the places A -/
def AtA (H H' : Hp) (A : List Addr) : Prop := ∀ a, a ∈ A → ∀ o, H a = some o → H' a = some o
theorem AtA.left {H H' : Hp} {A B : List Addr} (h : AtA H H' (A ++ B)) : AtA H H' A := fun a m => h a (List.mem_append_left _ m)
theorem AtA.right {H H' : Hp} {A B : List Addr} (h : AtA H H' (A ++ B)) : AtA H H' B := fun a m => h a (List.mem_append_right _ m)
theorem AtA.tail {H H' : Hp} {a : Addr} {B : List Addr} (h : AtA H H' (a :: B)) : AtA H H' B := fun b m => h b (List.mem_cons_of_mem _ m)
theorem AtA.head {H H' : Hp} {a : Addr} {B : List Addr} (h : AtA H H' (a :: B)) {o : HO} (e : H a = some o) : H' a = some o := h a List.mem_cons_self o e
mutual
theorem RO.mono {T : Tb} {F F' H H' : Hp} (h : Same F F') : ∀ {x : O} {v : V} {A : List Addr}, AtA H H' A → RO T F H x v A → RO T F' H' x v A
  | .d x, _, _, _, r => ⟨r.1, RD.mono h r.2⟩
  | .lst os, _, _, k, r => by
    obtain ⟨a, vs, B, e, eA, e2, r⟩ := r
    subst eA
    exact ⟨a, vs, B, e, rfl, k.head e2, ROs.mono h k.tail r⟩
  | .ins c fs, _, _, k, r => by
    obtain ⟨a, dx, gs, B, hc, e, eA, e2, r⟩ := r
    subst eA
    exact ⟨a, dx, gs, B, hc, e, rfl, k.head e2, ROf.mono h k.tail r⟩
  | .dcI kvs, _, _, k, r => by
    obtain ⟨a, ws, B, e, eA, e2, r⟩ := r
    subst eA
    exact ⟨a, ws, B, e, rfl, k.head e2, ROi.mono h k.tail r⟩
  | .dcT kvs, _, _, k, r => by
    obtain ⟨a, ws, B, e, eA, e2, r⟩ := r
    subst eA
    exact ⟨a, ws, B, e, rfl, k.head e2, ROt.mono h k.tail r⟩
theorem ROs.mono {T : Tb} {F F' H H' : Hp} (h : Same F F') : ∀ {xs : List O} {vs : List V} {A : List Addr}, AtA H H' A → ROs T F H xs vs A → ROs T F' H' xs vs A
  | [], _, _, _, r => r
  | x :: xs, _, _, k, r => by
    obtain ⟨v, s, A1, A2, e, eA, r1, r2⟩ := r
    subst eA
    exact ⟨v, s, A1, A2, e, rfl, RO.mono h k.left r1, ROs.mono h k.right r2⟩
theorem ROf.mono {T : Tb} {F F' H H' : Hp} (h : Same F F') : ∀ {xs : List (Nat × O)} {vs : List (PySem.Str × V)} {A : List Addr}, AtA H H' A → ROf T F H xs vs A → ROf T F' H' xs vs A
  | [], _, _, _, r => r
  | (_, x) :: xs, _, _, k, r => by
    obtain ⟨v, s, A1, A2, hk, e, eA, r1, r2⟩ := r
    subst eA
    exact ⟨v, s, A1, A2, hk, e, rfl, RO.mono h k.left r1, ROf.mono h k.right r2⟩
theorem ROi.mono {T : Tb} {F F' H H' : Hp} (h : Same F F') : ∀ {xs : List (Int × O)} {vs : List (Key × V)} {A : List Addr}, AtA H H' A → ROi T F H xs vs A → ROi T F' H' xs vs A
  | [], _, _, _, r => r
  | (_, x) :: xs, _, _, k, r => by
    obtain ⟨v, s, A1, A2, e, eA, r1, r2⟩ := r
    subst eA
    exact ⟨v, s, A1, A2, e, rfl, RO.mono h k.left r1, ROi.mono h k.right r2⟩
theorem ROt.mono {T : Tb} {F F' H H' : Hp} (h : Same F F') : ∀ {xs : List (List Int × O)} {vs : List (List Key × V)} {A : List Addr}, AtA H H' A → ROt T F H xs vs A → ROt T F' H' xs vs A
  | [], _, _, _, r => r
  | (_, x) :: xs, _, _, k, r => by
    obtain ⟨v, s, A1, A2, e, eA, r1, r2⟩ := r
    subst eA
    exact ⟨v, s, A1, A2, e, rfl, RO.mono h k.left r1, ROt.mono h k.right r2⟩
end
mutual
theorem RO.there {T : Tb} {F H : Hp} : ∀ {x : O} {v : V} {A : List Addr}, RO T F H x v A → ∀ a ∈ A, ∃ q, H a = some q
  | .d x, _, _, r, a, m => by rw [r.1] at m; cases m
  | .lst os, _, _, r, a, m => by
    obtain ⟨b, vs, B, e, eA, e2, r⟩ := r
    subst eA
    rcases List.mem_cons.mp m with rfl | m
    · exact ⟨_, e2⟩
    · exact ROs.there r a m
  | .ins c fs, _, _, r, a, m => by
    obtain ⟨b, dx, gs, B, hc, e, eA, e2, r⟩ := r
    subst eA
    rcases List.mem_cons.mp m with rfl | m
    · exact ⟨_, e2⟩
    · exact ROf.there r a m
  | .dcI kvs, _, _, r, a, m => by
    obtain ⟨b, ws, B, e, eA, e2, r⟩ := r
    subst eA
    rcases List.mem_cons.mp m with rfl | m
    · exact ⟨_, e2⟩
    · exact ROi.there r a m
  | .dcT kvs, _, _, r, a, m => by
    obtain ⟨b, ws, B, e, eA, e2, r⟩ := r
    subst eA
    rcases List.mem_cons.mp m with rfl | m
    · exact ⟨_, e2⟩
    · exact ROt.there r a m
theorem ROs.there {T : Tb} {F H : Hp} : ∀ {xs : List O} {vs : List V} {A : List Addr}, ROs T F H xs vs A → ∀ a ∈ A, ∃ q, H a = some q
  | [], _, _, r, a, m => by rw [r.2] at m; cases m
  | x :: xs, _, _, r, a, m => by
    obtain ⟨v, s, A1, A2, e, eA, r1, r2⟩ := r
    subst eA
    exact (List.mem_append.mp m).elim (RO.there r1 a) (ROs.there r2 a)
theorem ROf.there {T : Tb} {F H : Hp} : ∀ {xs : List (Nat × O)} {vs : List (PySem.Str × V)} {A : List Addr}, ROf T F H xs vs A → ∀ a ∈ A, ∃ q, H a = some q
  | [], _, _, r, a, m => by rw [r.2] at m; cases m
  | (_, x) :: xs, _, _, r, a, m => by
    obtain ⟨v, s, A1, A2, hk, e, eA, r1, r2⟩ := r
    subst eA
    exact (List.mem_append.mp m).elim (RO.there r1 a) (ROf.there r2 a)
theorem ROi.there {T : Tb} {F H : Hp} : ∀ {xs : List (Int × O)} {vs : List (Key × V)} {A : List Addr}, ROi T F H xs vs A → ∀ a ∈ A, ∃ q, H a = some q
  | [], _, _, r, a, m => by rw [r.2] at m; cases m
  | (_, x) :: xs, _, _, r, a, m => by
    obtain ⟨v, s, A1, A2, e, eA, r1, r2⟩ := r
    subst eA
    exact (List.mem_append.mp m).elim (RO.there r1 a) (ROi.there r2 a)
theorem ROt.there {T : Tb} {F H : Hp} : ∀ {xs : List (List Int × O)} {vs : List (List Key × V)} {A : List Addr}, ROt T F H xs vs A → ∀ a ∈ A, ∃ q, H a = some q
  | [], _, _, r, a, m => by rw [r.2] at m; cases m
  | (_, x) :: xs, _, _, r, a, m => by
    obtain ⟨v, s, A1, A2, e, eA, r1, r2⟩ := r
    subst eA
    exact (List.mem_append.mp m).elim (RO.there r1 a) (ROt.there r2 a)
end
/-- F with what stands in H at the places A -/
def plus (F H : Hp) (A : List Addr) : Hp := fun a => if a ∈ A then H a else F a
theorem plus_in {F H : Hp} {A : List Addr} {a : Addr} (h : a ∈ A) : plus F H A a = H a := if_pos h
theorem plus_out {F H : Hp} {A : List Addr} {a : Addr} (h : a ∉ A) : plus F H A a = F a := if_neg h
theorem same_plus {F H : Hp} {A : List Addr} (h : ∀ a ∈ A, F a = none) : Same F (plus F H A) := fun a o e => by
  by_cases m : a ∈ A
  · rw [h a m] at e; cases e
  · rw [plus_out m]; exact e
theorem plus_same {F H : Hp} {A : List Addr} (h : Same F H) : Same (plus F H A) H := fun a o e => by
  by_cases m : a ∈ A
  · rw [plus_in m] at e; exact e
  · rw [plus_out m] at e; exact h a o e
theorem plus_none {F H : Hp} {A : List Addr} {a : Addr} (h : F a = none) (m : a ∉ A) : plus F H A a = none := by rw [plus_out m]; exact h
/-! frozen: what was owned is data -/
mutual
theorem RO.frz {T : Tb} {F H : Hp} : ∀ {x : O} {v : V} {A : List Addr}, RO T F H x v A → ∀ {F' : Hp}, Same F F' → AtA H F' A → RD T F' x.frz v
  | .d x, _, _, r, _, h, _ => RD.mono h r.2
  | .lst os, _, _, r, _, h, k => by
    obtain ⟨a, vs, B, e, eA, e2, r⟩ := r
    subst eA
    exact ⟨a, vs, e, k.head e2, ROs.frz r h k.tail⟩
  | .ins c fs, _, _, r, _, h, k => by
    obtain ⟨a, dx, gs, B, hc, e, eA, e2, r⟩ := r
    subst eA
    exact ⟨a, dx, gs, hc, e, k.head e2, ROf.frz r h k.tail⟩
  | .dcI kvs, _, _, r, _, h, k => by
    obtain ⟨a, ws, B, e, eA, e2, r⟩ := r
    subst eA
    exact ⟨a, ws, e, k.head e2, ROi.frz r h k.tail⟩
  | .dcT kvs, _, _, r, _, h, k => by
    obtain ⟨a, ws, B, e, eA, e2, r⟩ := r
    subst eA
    exact ⟨a, ws, e, k.head e2, ROt.frz r h k.tail⟩
theorem ROs.frz {T : Tb} {F H : Hp} : ∀ {xs : List O} {vs : List V} {A : List Addr}, ROs T F H xs vs A → ∀ {F' : Hp}, Same F F' → AtA H F' A → RDs T F' (O.frzL xs) vs
  | [], _, _, r, _, _, _ => r.1
  | x :: xs, _, _, r, _, h, k => by
    obtain ⟨v, s, A1, A2, e, eA, r1, r2⟩ := r
    subst eA
    exact ⟨v, s, e, RO.frz r1 h k.left, ROs.frz r2 h k.right⟩
theorem ROf.frz {T : Tb} {F H : Hp} : ∀ {xs : List (Nat × O)} {vs : List (PySem.Str × V)} {A : List Addr}, ROf T F H xs vs A → ∀ {F' : Hp}, Same F F' → AtA H F' A → RDf T F' (O.frzF xs) vs
  | [], _, _, r, _, _, _ => r.1
  | (_, x) :: xs, _, _, r, _, h, k => by
    obtain ⟨v, s, A1, A2, hk, e, eA, r1, r2⟩ := r
    subst eA
    exact ⟨v, s, hk, e, RO.frz r1 h k.left, ROf.frz r2 h k.right⟩
theorem ROi.frz {T : Tb} {F H : Hp} : ∀ {xs : List (Int × O)} {vs : List (Key × V)} {A : List Addr}, ROi T F H xs vs A → ∀ {F' : Hp}, Same F F' → AtA H F' A → RDi T F' (O.frzI xs) vs
  | [], _, _, r, _, _, _ => r.1
  | (_, x) :: xs, _, _, r, _, h, k => by
    obtain ⟨v, s, A1, A2, e, eA, r1, r2⟩ := r
    subst eA
    exact ⟨v, s, e, RO.frz r1 h k.left, ROi.frz r2 h k.right⟩
theorem ROt.frz {T : Tb} {F H : Hp} : ∀ {xs : List (List Int × O)} {vs : List (List Key × V)} {A : List Addr}, ROt T F H xs vs A → ∀ {F' : Hp}, Same F F' → AtA H F' A → RDt T F' (O.frzT xs) vs
  | [], _, _, r, _, _, _ => r.1
  | (_, x) :: xs, _, _, r, _, h, k => by
    obtain ⟨v, s, A1, A2, e, eA, r1, r2⟩ := r
    subst eA
    exact ⟨v, s, e, RO.frz r1 h k.left, ROt.frz r2 h k.right⟩
end

/-! ### slots -/
/-- the slots σ against their values, footprint A; P: what others own, read alone -/
def RSl (T : Tb) (F H : Hp) : Fr → L2.St → List Addr → Prop
  | [], s, A => s = [] ∧ A = []
  | none :: σ, s, A => ∃ x r, s = x :: r ∧ RSl T F H σ r A
  | some (.own o) :: σ, s, A => ∃ v r A1 A2, s = some v :: r ∧ A = A1 ++ A2 ∧ RO T F H o v A1 ∧ RSl T F H σ r A2
  | some (.lent o) :: σ, s, A => ∃ v r A1 A2, s = some v :: r ∧ A = A1 ++ A2 ∧ RO T F H o v A1 ∧ RSl T F H σ r A2
/-- one slot's own -/
def R1 (T : Tb) (F H : Hp) (s : Option Sl) (x : Option V) (A : List Addr) : Prop := match s with
  | none => A = []
  | some (.own o) => ∃ v, x = some v ∧ RO T F H o v A
  | some (.lent o) => ∃ v, x = some v ∧ RO T F H o v A
theorem RSl.cons_iff {T : Tb} {F H : Hp} {s : Option Sl} {σ : Fr} {z : L2.St} {A : List Addr} : RSl T F H (s :: σ) z A ↔ ∃ x r A1 A2, z = x :: r ∧ A = A1 ++ A2 ∧ R1 T F H s x A1 ∧ RSl T F H σ r A2 := by
  cases s with
  | none =>
    constructor
    · rintro ⟨x, r, e, h⟩
      exact ⟨x, r, [], A, e, rfl, rfl, h⟩
    · rintro ⟨x, r, A1, A2, e, eA, h1, h2⟩
      have h1' : A1 = [] := h1
      subst h1' eA
      exact ⟨x, r, e, h2⟩
  | some sl =>
    cases sl with
    | own o =>
      constructor
      · rintro ⟨v, r, A1, A2, e, eA, h1, h2⟩
        exact ⟨_, r, A1, A2, e, eA, ⟨v, rfl, h1⟩, h2⟩
      · rintro ⟨x, r, A1, A2, e, eA, ⟨v, ex, h1⟩, h2⟩
        subst ex
        exact ⟨v, r, A1, A2, e, eA, h1, h2⟩
    | lent o =>
      constructor
      · rintro ⟨v, r, A1, A2, e, eA, h1, h2⟩
        exact ⟨_, r, A1, A2, e, eA, ⟨v, rfl, h1⟩, h2⟩
      · rintro ⟨x, r, A1, A2, e, eA, ⟨v, ex, h1⟩, h2⟩
        subst ex
        exact ⟨v, r, A1, A2, e, eA, h1, h2⟩
theorem RSl.len {T : Tb} {F H : Hp} : ∀ {σ : Fr} {z : L2.St} {A : List Addr}, RSl T F H σ z A → σ.length = z.length
  | [], _, _, h => by
    obtain ⟨e, _⟩ := h
    subst e
    rfl
  | s :: σ, _, _, h => by
    obtain ⟨x, r, A1, A2, e, eA, h1, h2⟩ := RSl.cons_iff.mp h
    rw [e, List.length_cons, List.length_cons, RSl.len h2]
theorem R1.mono {T : Tb} {F F' H H' : Hp} {s : Option Sl} {x : Option V} {A : List Addr} (hF : Same F F') (hA : AtA H H' A) (h : R1 T F H s x A) : R1 T F' H' s x A := by
  cases s with
  | none => exact h
  | some sl =>
    cases sl with
    | own o => obtain ⟨v, e, r⟩ := h; exact ⟨v, e, RO.mono hF hA r⟩
    | lent o => obtain ⟨v, e, r⟩ := h; exact ⟨v, e, RO.mono hF hA r⟩
theorem RSl.mono {T : Tb} {F F' H H' : Hp} : ∀ {σ : Fr} {z : L2.St} {A : List Addr}, Same F F' → AtA H H' A → RSl T F H σ z A → RSl T F' H' σ z A
  | [], _, _, _, _, h => h
  | s :: σ, _, _, hF, hA, h => by
    obtain ⟨x, r, A1, A2, e, eA, h1, h2⟩ := RSl.cons_iff.mp h
    subst eA
    exact RSl.cons_iff.mpr ⟨x, r, A1, A2, e, rfl, R1.mono hF hA.left h1, RSl.mono hF hA.right h2⟩
/-! ### a slot taken out, a slot put in -/
theorem RSl.split {T : Tb} {F H : Hp} : ∀ {σ : Fr} {z : L2.St} {A : List Addr} {i : Nat} {s : Option Sl}, RSl T F H σ z A → σ[i]? = some s →
    ∃ x Ai C, z[i]? = some x ∧ R1 T F H s x Ai ∧ RSl T F H (σ.set i none) z C ∧ (Ai ++ C).Perm A
  | [], _, _, _, _, _, e => by simp at e
  | s0 :: σ, _, _, 0, s, h, e => by
    obtain ⟨x, r, A1, A2, ez, eA, h1, h2⟩ := RSl.cons_iff.mp h
    have e' : s0 = s := by simpa using e
    subst e' ez eA
    exact ⟨x, A1, A2, rfl, h1, RSl.cons_iff.mpr ⟨x, r, [], A2, rfl, rfl, rfl, h2⟩, .refl _⟩
  | s0 :: σ, _, _, i + 1, s, h, e => by
    obtain ⟨x, r, A1, A2, ez, eA, h1, h2⟩ := RSl.cons_iff.mp h
    subst ez eA
    obtain ⟨y, Ai, C, e1, k1, k2, pm⟩ := RSl.split (i := i) (s := s) h2 (by simpa using e)
    refine ⟨y, Ai, A1 ++ C, by simpa using e1, k1, RSl.cons_iff.mpr ⟨x, r, A1, C, rfl, rfl, h1, k2⟩, ?_⟩
    exact (List.perm_append_comm_assoc Ai A1 C).trans (List.Perm.append_left A1 pm)
theorem RSl.join {T : Tb} {F H : Hp} {s : Option Sl} {x : Option V} {Ai : List Addr} (k : R1 T F H s x Ai) : ∀ {σ : Fr} {z : L2.St} {C : List Addr} {i : Nat}, RSl T F H σ z C → σ[i]? = some none →
    ∃ A, RSl T F H (σ.set i s) (z.set i x) A ∧ (Ai ++ C).Perm A
  | [], _, _, _, _, e => by simp at e
  | s0 :: σ, _, _, 0, h, e => by
    obtain ⟨y, r, A1, A2, ez, eA, h1, h2⟩ := RSl.cons_iff.mp h
    have e' : s0 = none := by simpa using e
    subst e' ez eA
    have h1' : A1 = [] := h1
    subst h1'
    exact ⟨Ai ++ A2, RSl.cons_iff.mpr ⟨x, r, Ai, A2, rfl, rfl, k, h2⟩, .refl _⟩
  | s0 :: σ, _, _, i + 1, h, e => by
    obtain ⟨y, r, A1, A2, ez, eA, h1, h2⟩ := RSl.cons_iff.mp h
    subst ez eA
    obtain ⟨A, k2, pm⟩ := RSl.join k (i := i) h2 (by simpa using e)
    refine ⟨A1 ++ A, RSl.cons_iff.mpr ⟨y, _, A1, A, rfl, rfl, h1, k2⟩, ?_⟩
    exact (List.perm_append_comm_assoc Ai A1 A2).trans (List.Perm.append_left A1 pm)
/-- the value of a slot that is not there does not matter -/
theorem RSl.free {T : Tb} {F H : Hp} {x : Option V} : ∀ {σ : Fr} {z : L2.St} {C : List Addr} {i : Nat}, RSl T F H σ z C → σ[i]? = some none → RSl T F H σ (z.set i x) C
  | [], _, _, _, _, e => by simp at e
  | s0 :: σ, _, _, 0, h, e => by
    obtain ⟨y, r, A1, A2, ez, eA, h1, h2⟩ := RSl.cons_iff.mp h
    have e' : s0 = none := by simpa using e
    subst e' ez eA
    exact RSl.cons_iff.mpr ⟨x, r, A1, A2, rfl, rfl, h1, h2⟩
  | s0 :: σ, _, _, i + 1, h, e => by
    obtain ⟨y, r, A1, A2, ez, eA, h1, h2⟩ := RSl.cons_iff.mp h
    subst ez eA
    exact RSl.cons_iff.mpr ⟨y, _, A1, A2, rfl, rfl, h1, RSl.free (i := i) h2 (by simpa using e)⟩

/-! ### a state -/
/-- P: what others own; F: what is frozen; A: what the slots own -/
structure St0 (T : Tb) (P F H : Hp) (σ : Fr) (z : L2.St) (A : List Addr) : Prop where
  s : RSl T F H σ z A
  nd : A.Nodup
  nP : ∀ a ∈ A, P a = none
  nF : ∀ a ∈ A, F a = none
  pH : Same P H
  fH : Same F H
  pF : ∀ a q, P a = some q → F a = none
def Rel (T : Tb) (P F H : Hp) (σ : Fr) (z : L2.St) : Prop := ∃ A, St0 T P F H σ z A
/-- besides the slots a new thing of one's own -/
structure StO (T : Tb) (P F H : Hp) (σ : Fr) (z : L2.St) (A B : List Addr) (o : O) (u : V) : Prop where
  s : RSl T F H σ z A
  o : RO T F H o u B
  nd : (B ++ A).Nodup
  nP : ∀ a ∈ B ++ A, P a = none
  nF : ∀ a ∈ B ++ A, F a = none
  pH : Same P H
  fH : Same F H
  pF : ∀ a q, P a = some q → F a = none
/-- a part of what stands in the slot i: taken out -/
structure StB (T : Tb) (P F H : Hp) (σ : Fr) (z : L2.St) (i : Nat) (o : O) (u : V) (s : Sl) (x : Option V) (Ai C B : List Addr) : Prop where
  at_ : σ[i]? = some (some s)
  val : z[i]? = some x
  rs : RSl T F H (σ.set i none) z C
  r : R1 T F H (some s) x Ai
  o : RO T F H o u B
  sub : ∀ a ∈ B, a ∈ Ai
  nd : (Ai ++ C).Nodup
  nP : ∀ a ∈ Ai ++ C, P a = none
  nF : ∀ a ∈ Ai ++ C, F a = none
  pH : Same P H
  fH : Same F H
  pF : ∀ a q, P a = some q → F a = none
def RelV (T : Tb) (P F H : Hp) (σ : Fr) (z : L2.St) : Val → V → Prop
  | .d x, u => Rel T P F H σ z ∧ RD T F x u
  | .o o, u => ∃ A B, StO T P F H σ z A B o u
  | .b i o, u => ∃ s x Ai C B, StB T P F H σ z i o u s x Ai C B
theorem set_set_none {σ : Fr} {i : Nat} {s : Option Sl} (h : σ[i]? = some s) : (σ.set i none).set i s = σ := by
  rw [List.set_set]
  exact List.set_getElem?_eq h
where
  List.set_getElem?_eq {α : Type} {l : List α} {i : Nat} {a : α} (h : l[i]? = some a) : l.set i a = l := by
    apply List.ext_getElem?
    intro j
    by_cases e : i = j
    · subst e
      rw [List.getElem?_set_self (List.getElem?_eq_some_iff.mp h).1, h]
    · rw [List.getElem?_set_ne e]
theorem set_same {α : Type} {l : List α} {i : Nat} {a : α} (h : l[i]? = some a) : l.set i a = l := set_set_none.List.set_getElem?_eq h
theorem nodup_perm {A B : List Addr} (p : A.Perm B) (h : B.Nodup) : A.Nodup := p.nodup_iff.mpr h
/-- the state without the slot i -/
theorem St0.out {T : Tb} {P F H : Hp} {σ : Fr} {z : L2.St} {A : List Addr} {i : Nat} {s : Option Sl} (h : St0 T P F H σ z A) (e : σ[i]? = some s) :
    ∃ x Ai C, z[i]? = some x ∧ R1 T F H s x Ai ∧ RSl T F H (σ.set i none) z C ∧ (Ai ++ C).Nodup ∧ (∀ a ∈ Ai ++ C, P a = none) ∧ (∀ a ∈ Ai ++ C, F a = none) := by
  obtain ⟨x, Ai, C, e1, k1, k2, pm⟩ := h.s.split e
  exact ⟨x, Ai, C, e1, k1, k2, nodup_perm pm h.nd, fun a m => h.nP a (pm.mem_iff.mp m), fun a m => h.nF a (pm.mem_iff.mp m)⟩
/-- .. and with another thing in it -/
theorem St0.in_ {T : Tb} {P F H : Hp} {σ : Fr} {z : L2.St} {C Ai : List Addr} {i : Nat} {s : Option Sl} {x : Option V} (hs : RSl T F H σ z C) (e : σ[i]? = some none) (k : R1 T F H s x Ai)
    (nd : (Ai ++ C).Nodup) (nP : ∀ a ∈ Ai ++ C, P a = none) (nF : ∀ a ∈ Ai ++ C, F a = none) (pH : Same P H) (fH : Same F H) (pF : ∀ a q, P a = some q → F a = none) : Rel T P F H (σ.set i s) (z.set i x) := by
  obtain ⟨A, k2, pm⟩ := RSl.join k hs e
  exact ⟨A, k2, pm.nodup_iff.mp nd, fun a m => nP a (pm.mem_iff.mpr m), fun a m => nF a (pm.mem_iff.mpr m), pH, fH, pF⟩
theorem StB.rel {T : Tb} {P F H : Hp} {σ : Fr} {z : L2.St} {i : Nat} {o : O} {u : V} {s : Sl} {x : Option V} {Ai C B : List Addr} (h : StB T P F H σ z i o u s x Ai C B) : Rel T P F H σ z := by
  have lt : i < σ.length := (List.getElem?_eq_some_iff.mp h.at_).1
  have q := St0.in_ (i := i) h.rs (by rw [List.getElem?_set_self lt]) h.r h.nd h.nP h.nF h.pH h.fH h.pF
  rw [set_set_none h.at_, set_same h.val] at q
  exact q
theorem RelV.rel {T : Tb} {P F H : Hp} {σ : Fr} {z : L2.St} {v : Val} {u : V} (h : RelV T P F H σ z v u) : Rel T P F H σ z := by
  cases v with
  | d x => exact h.1
  | o o =>
    obtain ⟨A, B, k⟩ := h
    exact ⟨A, k.s, (List.nodup_append.mp k.nd).2.1, fun a m => k.nP a (List.mem_append_right _ m), fun a m => k.nF a (List.mem_append_right _ m), k.pH, k.fH, k.pF⟩
  | b i o =>
    obtain ⟨s, x, Ai, C, B, k⟩ := h
    exact k.rel
/-- a new thing is frozen -/
theorem StO.frz {T : Tb} {P F H : Hp} {σ : Fr} {z : L2.St} {A B : List Addr} {o : O} {u : V} (k : StO T P F H σ z A B o u) : ∃ F', Same F F' ∧ Rel T P F' H σ z ∧ RD T F' o.frz u := by
  have nB : ∀ a ∈ B, F a = none := fun a m => k.nF a (List.mem_append_left _ m)
  have sf : Same F (plus F H B) := same_plus nB
  have dj : ∀ a ∈ A, a ∉ B := fun a m m' => (List.nodup_append.mp k.nd).2.2 a m' a m rfl
  refine ⟨plus F H B, sf, ⟨A, k.s.mono sf (fun _ _ _ q => q), (List.nodup_append.mp k.nd).2.1, fun a m => k.nP a (List.mem_append_right _ m), fun a m => plus_none (k.nF a (List.mem_append_right _ m)) (dj a m), k.pH, plus_same k.fH, fun a q e => ?_⟩, ?_⟩
  · have na : a ∉ B := fun m => by rw [k.nP a (List.mem_append_left _ m)] at e; cases e
    exact plus_none (k.pF a q e) na
  · exact k.o.frz sf fun a m q e => by rw [plus_in m]; exact e
/-- as data -/
theorem RelV.toD {T : Tb} {P F H : Hp} {σ : Fr} {z : L2.St} {v : Val} {u : V} {x : D} (h : RelV T P F H σ z v u) (e : toD v = some x) : ∃ F', Same F F' ∧ Rel T P F' H σ z ∧ RD T F' x u := by
  cases v with
  | d y =>
    have e' : y = x := Option.some.inj e
    subst e'
    exact ⟨F, Same.refl _, h.1, h.2⟩
  | o o =>
    have e' : o.frz = x := Option.some.inj e
    subst e'
    obtain ⟨A, B, k⟩ := h
    exact k.frz
  | b i o => cases e
end Tf
end
section
set_option Elab.async false
set_option linter.all false
set_option maxRecDepth 100000
/-! Soundness, part 1: readings; names, constants, operators. -/
namespace Tf
open PySem PySem.Spec PyProof.Rows L2

/-- what is asked behind a run: z the slots' values, F0 what was frozen ahead of it -/
def Post (T : Tb) (RX : Hp → Hp → Xv → Value → Option Addr → Prop) (W : WX) (P : Hp) (z : L2.St) (F0 : Hp) (Q : VK) : Res Val → Prop
  | .ok v σ => ∀ F H u, Same F0 F → RelV T P F H σ z v u → Q u H
  | .exc x σ => ∀ F H cls d, Same F0 F → Rel T P F H σ z → RX F H x cls d → W cls d z H
  | .bad => False
/-- .. of a test -/
def PostT (T : Tb) (RX : Hp → Hp → Xv → Value → Option Addr → Prop) (W : WX) (P : Hp) (z : L2.St) (F0 : Hp) (Q : Bool → Hp → Prop) : Res Val → Prop
  | .ok v σ => ∃ b, v = .d (.bl b) ∧ ∀ F H, Same F0 F → Rel T P F H σ z → Q b H
  | .exc x σ => ∀ F H cls d, Same F0 F → Rel T P F H σ z → RX F H x cls d → W cls d z H
  | .bad => False
/-- .. of anything, by a relation of its own -/
def PostA {α β : Type} (T : Tb) (RX : Hp → Hp → Xv → Value → Option Addr → Prop) (W : WX) (P : Hp) (z : L2.St) (F0 : Hp) (Rl : Hp → Hp → Fr → α → β → Prop) (Q : β → Hp → Prop) : Res α → Prop
  | .ok v σ => ∀ F H u, Same F0 F → Rl F H σ v u → Q u H
  | .exc x σ => ∀ F H cls d, Same F0 F → Rel T P F H σ z → RX F H x cls d → W cls d z H
  | .bad => False
abbrev XR := Hp → Hp → Xv → Value → Option Addr → Prop
section
variable {T : Tb} {RX : XR} {W : WX}
theorem Post.later {P : Hp} {z : L2.St} {F0 F1 : Hp} {Q : VK} {r : Res Val} (h : Same F0 F1) (p : Post T RX W P z F0 Q r) : Post T RX W P z F1 Q r := by
  cases r with
  | ok v σ => exact fun F H u s k => p F H u (h.trans s) k
  | exc x σ => exact fun F H cls d s k q => p F H cls d (h.trans s) k q
  | bad => exact p
theorem PostT.later {P : Hp} {z : L2.St} {F0 F1 : Hp} {Q : Bool → Hp → Prop} {r : Res Val} (h : Same F0 F1) (p : PostT T RX W P z F0 Q r) : PostT T RX W P z F1 Q r := by
  cases r with
  | ok v σ =>
    obtain ⟨b, e, p⟩ := p
    exact ⟨b, e, fun F H s k => p F H (h.trans s) k⟩
  | exc x σ => exact fun F H cls d s k q => p F H cls d (h.trans s) k q
  | bad => exact p
theorem PostA.later {α β : Type} {P : Hp} {z : L2.St} {F0 F1 : Hp} {Rl : Hp → Hp → Fr → α → β → Prop} {Q : β → Hp → Prop} {r : Res α} (h : Same F0 F1) (p : PostA T RX W P z F0 Rl Q r) : PostA T RX W P z F1 Rl Q r := by
  cases r with
  | ok v σ => exact fun F H u s k => p F H u (h.trans s) k
  | exc x σ => exact fun F H cls d s k q => p F H cls d (h.trans s) k q
  | bad => exact p
/-- the readings -/
def R (T : Tb) (RX : XR) (W : WX) (m : Fr → Res Val) : TE := fun z H Q => ∃ P F σ, Rel T P F H σ z ∧ Post T RX W P z F Q (m σ)
def RT (T : Tb) (RX : XR) (W : WX) (m : Fr → Res Val) : TT := fun z H Q => ∃ P F σ, Rel T P F H σ z ∧ PostT T RX W P z F Q (m σ)
theorem impE {X : Cx} {e : Expr} {t t' : TE} (h : PE X e t) (k : ∀ z H Q, t' z H Q → t z H Q) : PE X e t' := ⟨fun pins s σ H Q I q => h.run pins s σ H Q I (k σ H Q q)⟩
theorem impT {X : Cx} {e : Expr} {t t' : TT} (h : PT X e t) (k : ∀ z H Q, t' z H Q → t z H Q) : PT X e t' := ⟨fun pins s σ H Q I q => h.run pins s σ H Q I (k σ H Q q)⟩
theorem impW {X : Cx} {e : Expr} {t t' : TT} (h : PW X e t) (k : ∀ z H Q, t' z H Q → t z H Q) : PW X e t' := ⟨fun wh pins s σ H Q I q => h.run wh pins s σ H Q I (k σ H Q q)⟩
theorem impA {X : Cx} {es : List Expr} {t t' : TA} (h : PA X es t) (k : ∀ z H Q, t' z H Q → t z H Q) : PA X es t' := ⟨fun pos pins s σ H Q I q => h.run pos pins s σ H Q I (k σ H Q q)⟩
theorem impSs {X : Cx} {e : List Stmt} {t t' : TS} (h : PSs X e t) (k : ∀ D z H, t' D z H → t D z H) : PSs X e t' := ⟨fun pins s σ H D I q => h.run pins s σ H D I (k D σ H q)⟩
theorem impS {X : Cx} {e : Stmt} {t t' : TS} (h : PS X e t) (k : ∀ D z H, t' D z H → t D z H) : PS X e t' := ⟨fun pins s σ H D I q => h.run pins s σ H D I (k D σ H q)⟩
/-- a run, then another one -/
theorem R.bind {m : Fr → Res Val} {f : Val → Fr → Res Val} {z : L2.St} {H : Hp} {Q : VK} {P F : Hp} {σ : Fr} (rel : Rel T P F H σ z) (h : Post T RX W P z F Q ((m σ).bind f)) :
    R T RX W m z H fun u H1 => ∃ F1 σ1 v, Same F F1 ∧ RelV T P F1 H1 σ1 z v u ∧ Post T RX W P z F1 Q (f v σ1) := by
  refine ⟨P, F, σ, rel, ?_⟩
  revert h
  generalize m σ = r
  intro h
  cases r with
  | ok v σ1 => exact fun F1 H1 u s k => ⟨F1, σ1, v, s, k, Post.later s h⟩
  | exc x σ1 => exact h
  | bad => exact h
theorem R.bindT {m : Fr → Res Val} {f : Val → Fr → Res Val} {z : L2.St} {H : Hp} {Q : Bool → Hp → Prop} {P F : Hp} {σ : Fr} (rel : Rel T P F H σ z) (h : PostT T RX W P z F Q ((m σ).bind f)) :
    R T RX W m z H fun u H1 => ∃ F1 σ1 v, Same F F1 ∧ RelV T P F1 H1 σ1 z v u ∧ PostT T RX W P z F1 Q (f v σ1) := by
  refine ⟨P, F, σ, rel, ?_⟩
  revert h
  generalize m σ = r
  intro h
  cases r with
  | ok v σ1 => exact fun F1 H1 u s k => ⟨F1, σ1, v, s, k, PostT.later s h⟩
  | exc x σ1 => exact h
  | bad => exact h
theorem RT.bind {m : Fr → Res Val} {f : Val → Fr → Res Val} {z : L2.St} {H : Hp} {Q : VK} {P F : Hp} {σ : Fr} (rel : Rel T P F H σ z)
    (hm : ∀ v σ1, m σ = .ok v σ1 → (∃ b, v = .d (.bl b)) ∨ f v σ1 = .bad) (h : Post T RX W P z F Q ((m σ).bind f)) :
    RT T RX W m z H fun b H1 => ∃ F1 σ1, Same F F1 ∧ Rel T P F1 H1 σ1 z ∧ Post T RX W P z F1 Q (f (.d (.bl b)) σ1) := by
  refine ⟨P, F, σ, rel, ?_⟩
  revert h hm
  generalize m σ = r
  intro hm h
  cases r with
  | ok v σ1 =>
    rcases hm v σ1 rfl with ⟨b, rfl⟩ | e
    · exact ⟨b, rfl, fun F1 H1 s k => ⟨F1, σ1, s, k, Post.later s h⟩⟩
    · have h' : Post T RX W P z F Q (f v σ1) := h
      rw [e] at h'
      exact h'.elim
  | exc x σ1 => exact h
  | bad => exact h.elim
theorem RT.bindT {m : Fr → Res Val} {f : Val → Fr → Res Val} {z : L2.St} {H : Hp} {Q : Bool → Hp → Prop} {P F : Hp} {σ : Fr} (rel : Rel T P F H σ z)
    (hm : ∀ v σ1, m σ = .ok v σ1 → (∃ b, v = .d (.bl b)) ∨ f v σ1 = .bad) (h : PostT T RX W P z F Q ((m σ).bind f)) :
    RT T RX W m z H fun b H1 => ∃ F1 σ1, Same F F1 ∧ Rel T P F1 H1 σ1 z ∧ PostT T RX W P z F1 Q (f (.d (.bl b)) σ1) := by
  refine ⟨P, F, σ, rel, ?_⟩
  revert h hm
  generalize m σ = r
  intro hm h
  cases r with
  | ok v σ1 =>
    rcases hm v σ1 rfl with ⟨b, rfl⟩ | e
    · exact ⟨b, rfl, fun F1 H1 s k => ⟨F1, σ1, s, k, PostT.later s h⟩⟩
    · have h' : PostT T RX W P z F Q (f v σ1) := h
      rw [e] at h'
      exact h'.elim
  | exc x σ1 => exact h
  | bad => exact h.elim
theorem Post.opt {α : Type} {P : Hp} {z : L2.St} {F : Hp} {Q : VK} {o : Option α} {f : α → Res Val} (h : Post T RX W P z F Q (opt o f)) : ∃ a, o = some a ∧ Post T RX W P z F Q (f a) := by
  cases o with
  | none => exact h.elim
  | some a => exact ⟨a, rfl, h⟩
theorem PostT.opt {α : Type} {P : Hp} {z : L2.St} {F : Hp} {Q : Bool → Hp → Prop} {o : Option α} {f : α → Res Val} (h : PostT T RX W P z F Q (opt o f)) : ∃ a, o = some a ∧ PostT T RX W P z F Q (f a) := by
  cases o with
  | none => exact h.elim
  | some a => exact ⟨a, rfl, h⟩
/-- data, handed on -/
theorem Post.fin_d {md : Md} {P : Hp} {z : L2.St} {F H : Hp} {Q : VK} {x : D} {σ : Fr} {u : V} (hm : md ≠ .tst) (h : Post T RX W P z F Q (fin md (.d x) σ)) {F1 : Hp} (s : Same F F1) (rel : Rel T P F1 H σ z) (r : RD T F1 x u) : Q u H := by
  cases md with
  | val => exact h F1 H u s ⟨rel, r⟩
  | pk => exact h F1 H u s ⟨rel, r⟩
  | tst => exact absurd rfl hm
theorem Post.fin_v {md : Md} {P : Hp} {z : L2.St} {F H : Hp} {Q : VK} {v : Val} {σ : Fr} {u : V} (hm : md ≠ .tst) (h : Post T RX W P z F Q (fin md v σ)) {F1 : Hp} (s : Same F F1) (rel : RelV T P F1 H σ z v u) : Q u H := by
  cases md with
  | val =>
    cases v with
    | d x => exact h F1 H u s rel
    | o o => exact h F1 H u s rel
    | b i o => exact h.elim
  | pk => exact h F1 H u s rel
  | tst => exact absurd rfl hm

/-! ### constants and names -/
variable {X : Cx} {G : Prog} {cl : Call} {md : Md}
def ckC : D → Const → Bool
  | .non, .none => true
  | .bl a, .bool b => a == b
  | .int a, .int b => decide (a = b)
  | .str a, .str b => decide (a = b)
  | _, _ => false
theorem snd_cst {d : D} {c : Const} {k : Nat} {pos : Pos} (hm : md ≠ .tst) (h : ckC d c = true) : PE X (.Constant c k pos) (R T RX W (ev G cl md (.cst d))) := by
  have go : ∀ {v : V}, PE X (.Constant c k pos) (tC v) → (∀ F, RD T F d v) → PE X (.Constant c k pos) (R T RX W (ev G cl md (.cst d))) := fun {v} p r => impE p fun z H Q ⟨P, F, σ, rel, q⟩ => Post.fin_d hm q (Same.refl _) rel (r F)
  cases d with
  | non => cases c with
    | none => exact go pe_non fun _ => rfl
    | _ => cases h
  | bl a => cases c with
    | bool b =>
      have e : a = b := by simpa [ckC] using h
      subst e
      exact go pe_bl fun _ => rfl
    | _ => cases h
  | int a => cases c with
    | int b =>
      have e : a = b := of_decide_eq_true h
      subst e
      exact go pe_int fun _ => rfl
    | _ => cases h
  | str a => cases c with
    | str b =>
      have e : a = b := of_decide_eq_true h
      subst e
      exact go pe_str fun _ => rfl
    | _ => cases h
  | _ => cases c <;> cases h
theorem Fr.get_some {σ : Fr} {i : Nat} {s : Sl} (h : σ.get i = some s) : σ[i]? = some (some s) := by
  unfold Fr.get at h
  cases e : σ[i]? with
  | none => rw [e] at h; cases h
  | some o =>
    rw [e] at h
    have h' : o = some s := h
    rw [h']
theorem snd_var {i : Nat} {x : PySem.Str} {pos : Pos} (hm : md ≠ .tst) (hN : X.N[i]? = some x) (hv : Vis X.env.scope x) (hd : (x == ("__debug__" : PySem.Str)) = false) (hcd : (x == ("__classdict__" : PySem.Str)) = false) :
    PE X (.Name x pos) (R T RX W (ev G cl md (.var i))) := by
  refine impE (pe_var hN hv hd hcd) fun z H Q ⟨P, F, σ, rel, q⟩ => ?_
  have q : Post T RX W P z F Q (getVar md i σ) := q
  unfold getVar at q
  cases e : σ.get i with
  | none => rw [e] at q; exact q.elim
  | some sl =>
    rw [e] at q
    obtain ⟨A, k⟩ := rel
    have e1 := Fr.get_some e
    obtain ⟨x, Ai, C, e2, k1, k2, nd, nP, nF⟩ := k.out e1
    have lt : i < σ.length := (List.getElem?_eq_some_iff.mp e1).1
    have e3 : (σ.set i none)[i]? = some none := by rw [List.getElem?_set_self lt]
    -- what an own or lent thing gives
    have main : ∀ (o : O) (mk : O → Sl), (∀ o' x' A' F' H', R1 T F' H' (some (mk o')) x' A' ↔ ∃ v, x' = some v ∧ RO T F' H' o' v A') → sl = mk o →
        Post T RX W P z F Q (getO md i o mk σ) → ∃ v, z[i]? = some (some v) ∧ Q v H := fun o mk hmk es g => by
      subst es
      obtain ⟨v, ex, ro⟩ := (hmk _ _ _ _ _).mp k1
      subst ex
      refine ⟨v, e2, ?_⟩
      have dat : ∀ y, o = .d y → Q v H := fun y ey => by
        subst ey
        exact Post.fin_d hm g (Same.refl _) ⟨A, k⟩ ro.2
      have big : Post T RX W P z F Q (getBig md i o (σ.put i (some (mk (.d o.frz)))) σ) → Q v H := fun q => by
        cases md with
        | tst => exact absurd rfl hm
        | pk => exact q F H v (Same.refl _) ⟨_, _, Ai, C, Ai, e1, e2, k2, k1, ro, fun a m => m, nd, nP, nF, k.pH, k.fH, k.pF⟩
        | val =>
          have nB : ∀ a ∈ Ai, F a = none := fun a m => nF a (List.mem_append_left _ m)
          have sf : Same F (plus F H Ai) := same_plus nB
          have dj : ∀ a ∈ C, a ∉ Ai := fun a m m' => (List.nodup_append.mp nd).2.2 a m' a m rfl
          have rd : RD T (plus F H Ai) o.frz v := ro.frz sf fun a m q e => by rw [plus_in m]; exact e
          refine q (plus F H Ai) H v sf ⟨?_, rd⟩
          have z' := St0.in_ (T := T) (P := P) (F := plus F H Ai) (H := H) (i := i) (s := some (mk (.d o.frz))) (x := some v) (Ai := []) (k2.mono sf fun _ _ _ q => q) e3 ((hmk _ _ _ _ _).mpr ⟨v, rfl, rfl, rd⟩)
            (List.nodup_append.mp nd).2.1 (fun a m => nP a (List.mem_append_right _ m)) (fun a m => plus_none (nF a (List.mem_append_right _ m)) (dj a m)) k.pH (plus_same k.fH) (fun a q e => plus_none (k.pF a q e) fun m => by rw [nP a (List.mem_append_left _ m)] at e; cases e)
          rw [List.set_set, set_same e2] at z'
          exact z'
      cases o with
      | d y => exact dat y rfl
      | _ => exact big g
    cases sl with
    | own o => exact main o .own (fun _ _ _ _ _ => Iff.rfl) rfl q
    | lent o => exact main o .lent (fun _ _ _ _ _ => Iff.rfl) rfl q
end
end Tf
end
section
set_option Elab.async false
set_option linter.all false
set_option maxRecDepth 100000
/-! Soundness, part 2: truth; fields; operators. -/
namespace Tf
open PySem PySem.Spec PyProof.Rows L2
section
variable {T : Tb} {RX : XR} {W : WX} {X : Cx} {G : Prog} {cl : Call} {md : Md}
theorem R.mono {m : Fr → Res Val} {z : L2.St} {H : Hp} {Q Q' : VK} (h : R T RX W m z H Q) (k : ∀ u H, Q u H → Q' u H) : R T RX W m z H Q' := by
  obtain ⟨P, F, σ, rel, q⟩ := h
  refine ⟨P, F, σ, rel, ?_⟩
  revert q
  generalize m σ = r
  intro q
  cases r with
  | ok v σ1 => exact fun F H u s k' => k u H (q F H u s k')
  | exc x σ1 => exact q
  | bad => exact q
theorem RT.mono {m : Fr → Res Val} {z : L2.St} {H : Hp} {Q Q' : Bool → Hp → Prop} (h : RT T RX W m z H Q) (k : ∀ u H, Q u H → Q' u H) : RT T RX W m z H Q' := by
  obtain ⟨P, F, σ, rel, q⟩ := h
  refine ⟨P, F, σ, rel, ?_⟩
  revert q
  generalize m σ = r
  intro q
  cases r with
  | ok v σ1 =>
    obtain ⟨b, e, q⟩ := q
    exact ⟨b, e, fun F H s k' => k b H (q F H s k')⟩
  | exc x σ1 => exact q
  | bad => exact q
theorem RDs.len {F : Hp} : ∀ {xs : List D} {vs : List V}, RDs T F xs vs → xs.length = vs.length
  | [], _, h => by have h' : _ = [] := h; rw [h']; rfl
  | x :: xs, _, h => by
    obtain ⟨v, r, e, _, h2⟩ := h
    rw [e, List.length_cons, List.length_cons, RDs.len h2]
theorem ROs.len {F H : Hp} : ∀ {xs : List O} {vs : List V} {A : List Addr}, ROs T F H xs vs A → xs.length = vs.length
  | [], _, _, h => by rw [h.1]; rfl
  | x :: xs, _, _, h => by
    obtain ⟨v, r, A1, A2, e, _, _, h2⟩ := h
    rw [e, List.length_cons, List.length_cons, ROs.len h2]
theorem RDi.len {F : Hp} : ∀ {xs : List (Int × D)} {vs : List (Key × V)}, RDi T F xs vs → xs.length = vs.length
  | [], _, h => by have h' : _ = [] := h; rw [h']; rfl
  | (_, x) :: xs, _, h => by
    obtain ⟨v, r, e, _, h2⟩ := h
    rw [e, List.length_cons, List.length_cons, RDi.len h2]
theorem ROi.len {F H : Hp} : ∀ {xs : List (Int × O)} {vs : List (Key × V)} {A : List Addr}, ROi T F H xs vs A → xs.length = vs.length
  | [], _, _, h => by rw [h.1]; rfl
  | (_, x) :: xs, _, _, h => by
    obtain ⟨v, r, A1, A2, e, _, _, h2⟩ := h
    rw [e, List.length_cons, List.length_cons, ROi.len h2]
theorem empty_len {α β : Type} {xs : List α} {ys : List β} (h : xs.length = ys.length) : (!xs.isEmpty) = !ys.isEmpty := by
  cases xs with
  | nil => cases ys with
    | nil => rfl
    | cons b bs => cases h
  | cons a as => cases ys with
    | nil => cases h
    | cons b bs => rfl
theorem tru_of {K : PySem.W.Frag} {P F H : Hp} {σ : Fr} {z : L2.St} {v : Val} {u : V} {b : Bool} (h : RelV T P F H σ z v u) (e : truthV v = some b) : TruV K u H b := by
  have big : ∀ (o : O) (B : List Addr), RO T F H o u B → truthV (.b 0 o) = some b ∨ truthV (.o o) = some b → (∀ x, o ≠ .d x) → TruV K u H b := fun o B ro e nd => by
    cases o with
    | d x => exact absurd rfl (nd x)
    | lst xs =>
      obtain ⟨a, vs, B', e1, _, e2, r⟩ := ro
      subst e1
      refine .inl ⟨vs, .of e2, ?_⟩
      rw [← empty_len (ROs.len r)]
      rcases e with e | e <;> exact (Option.some.inj e).symm
    | dcI kvs =>
      obtain ⟨a, vs, B', e1, _, e2, r⟩ := ro
      subst e1
      refine .inr (.inr ⟨vs, e2, ?_⟩)
      rw [← empty_len (ROi.len r)]
      rcases e with e | e
      · exact (Option.some.inj e).symm
      · cases e
    | ins c fs => rcases e with e | e <;> cases e
    | dcT kvs => rcases e with e | e <;> cases e
  cases v with
  | d x =>
    obtain ⟨⟨A, k⟩, r⟩ := h
    cases x with
    | non =>
      have r' : u = .non := r
      subst r'
      exact (Option.some.inj e).symm
    | bl c =>
      have r' : u = .bl c := r
      subst r'
      exact (Option.some.inj e).symm
    | int c =>
      have r' : u = .int c := r
      subst r'
      exact (Option.some.inj e).symm
    | lst xs =>
      obtain ⟨a, vs, e1, e2, r⟩ := r
      subst e1
      refine .inl ⟨vs, .of (k.fH _ _ e2), ?_⟩
      rw [← empty_len (RDs.len r)]
      exact (Option.some.inj e).symm
    | tup xs =>
      obtain ⟨a, vs, e1, e2, r⟩ := r
      subst e1
      refine .inr (.inl ⟨vs, .of (k.fH _ _ e2), ?_⟩)
      rw [← empty_len (RDs.len r)]
      exact (Option.some.inj e).symm
    | _ => cases e
  | b i o =>
    obtain ⟨s, x, Ai, C, B, k⟩ := h
    refine big o B k.o (.inl ?_) ?_
    · cases o <;> exact e
    · intro x e'
      subst e'
      cases e
  | o o =>
    obtain ⟨A, B, k⟩ := h
    refine big o B k.o (.inr e) ?_
    intro x e'
    subst e'
    cases e
theorem Res.bind_assoc {α β γ : Type} (r : Res α) (f : α → Fr → Res β) (g : β → Fr → Res γ) : (r.bind f).bind g = r.bind fun a σ => (f a σ).bind g := by
  cases r <;> rfl
/-- soundness of an expression, asked in its three ways -/
structure SE (T : Tb) (RX : XR) (W : WX) (G : Prog) (cl : Call) (X : Cx) (e : Expr) (E : E) : Prop where
  v : PE X e (R T RX W (ev G cl .val E))
  p : PE X e (R T RX W (ev G cl .pk E))
  t : PT X e (RT T RX W (ev G cl .tst E))
/-- its test is its value's truth -/
def Plain (X : Cx) (e : Expr) : Prop := ∀ whole, isTrue e X.env whole = (do let v ← whole; standAt e.pos; holding [v] (truthy v))
theorem pt_of_pk {e : Expr} {m mt : Fr → Res Val} (h : PE X e (R T RX W m)) (he : Plain X e) (ht : ∀ σ, mt σ = (m σ).bind (fin .tst)) : PT X e (RT T RX W mt) := by
  refine impT (pt_truth h he) fun z H Q ⟨P, F, σ, rel, q⟩ => ?_
  rw [ht σ] at q
  refine R.mono (R.bindT rel q) fun u H1 ⟨F1, σ1, v, s, rv, q1⟩ => ?_
  obtain ⟨b, eb, q1⟩ := PostT.opt q1
  obtain ⟨b', e', q1⟩ := q1
  have : b = b' := by injection e' with e'; injection e'
  subst this
  exact ⟨b, tru_of rv eb, q1 F1 H1 (Same.refl _) rv.rel⟩
/-- an expression that is evaluated in one way, then handed on -/
theorem SE.raw {e : Expr} {E : E} {m : Fr → Res Val} (hE : ∀ md σ, ev G cl md E σ = (m σ).bind (fin md)) (h : PE X e (R T RX W m)) (ht : PE X e (R T RX W (ev G cl .pk E)) → PT X e (RT T RX W (ev G cl .tst E))) : SE T RX W G cl X e E := by
  have go : ∀ md : Md, md ≠ .tst → PE X e (R T RX W (ev G cl md E)) := fun md hm => impE h fun z H Q ⟨P, F, σ, rel, q⟩ => by
    rw [hE] at q
    refine R.mono (R.bind rel q) fun u H1 ⟨F1, σ1, v, s, rv, q1⟩ => ?_
    exact Post.fin_v hm q1 (Same.refl _) rv
  exact ⟨go _ (by intro h; cases h), go _ (by intro h; cases h), ht (go _ (by intro h; cases h))⟩
theorem fin_pk (v : Val) (σ : Fr) : fin .pk v σ = .ok v σ := rfl
theorem bind_pk (r : Res Val) : r.bind (fin .pk) = r := by cases r <;> rfl
theorem SE.of {e : Expr} {E : E} {m : Fr → Res Val} (he : Plain X e) (hE : ∀ md σ, ev G cl md E σ = (m σ).bind (fin md)) (h : PE X e (R T RX W m)) : SE T RX W G cl X e E :=
  SE.raw hE h fun hp => pt_of_pk hp he fun σ => by rw [hE .tst, hE .pk, bind_pk]
/-! ### constants, names -/
/-- what is said of the text's classes and fields -/
structure TbOk (K : PySem.W.Frag) (T : Tb) : Prop where
  cls : ∀ c, c < T.nc → Cls K (T.cA c)
  noat : ∀ c f, c < T.nc → f < T.nf → NoAttr K (T.cA c) (T.fN f)
  inj : ∀ f g, f < T.nf → g < T.nf → T.fN f = T.fN g → f = g
theorem se_data {e : Expr} {E : E} {d : D} {u : V} (he : Plain X e) (hE : ∀ md σ, ev G cl md E σ = fin md (.d d) σ) (h : PE X e (tC u)) (r : ∀ F, RD T F d u) : SE T RX W G cl X e E :=
  SE.of (m := fun σ => .ok (.d d) σ) he hE (impE h fun z H Q ⟨P, F, σ, rel, q⟩ => q F H u (Same.refl _) ⟨rel, r F⟩)
theorem se_cst {d : D} {c : Const} {k : Nat} {pos : Pos} (h : ckC d c = true) : SE T RX W G cl X (.Constant c k pos) (.cst d) := by
  have go : ∀ {v : V}, PE X (.Constant c k pos) (tC v) → (∀ F, RD T F d v) → SE T RX W G cl X (.Constant c k pos) (.cst d) := fun {v} p r => se_data (fun _ => rfl) (fun _ _ => rfl) p r
  cases d with
  | non => cases c with
    | none => exact go pe_non fun _ => rfl
    | _ => cases h
  | bl a => cases c with
    | bool b =>
      have e : a = b := by simpa [ckC] using h
      subst e
      exact go pe_bl fun _ => rfl
    | _ => cases h
  | int a => cases c with
    | int b =>
      have e : a = b := of_decide_eq_true h
      subst e
      exact go pe_int fun _ => rfl
    | _ => cases h
  | str a => cases c with
    | str b =>
      have e : a = b := of_decide_eq_true h
      subst e
      exact go pe_str fun _ => rfl
    | _ => cases h
  | _ => cases c <;> cases h
theorem getVar_tst (i : Nat) (σ : Fr) : getVar .tst i σ = (getVar .pk i σ).bind (fin .tst) := by
  unfold getVar
  cases σ.get i with
  | none => rfl
  | some s => cases s with
    | own o => cases o <;> rfl
    | lent o => cases o <;> rfl
theorem se_var {i : Nat} {x : PySem.Str} {pos : Pos} (hN : X.N[i]? = some x) (hv : Vis X.env.scope x) (hd : (x == ("__debug__" : PySem.Str)) = false) (hcd : (x == ("__classdict__" : PySem.Str)) = false) :
    SE T RX W G cl X (.Name x pos) (.var i) :=
  have go : ∀ md : Md, md ≠ .tst → PE X (.Name x pos) (R T RX W (ev G cl md (.var i))) := fun md hm => snd_var hm hN hv hd hcd
  ⟨go _ (by intro h; cases h), go _ (by intro h; cases h), pt_of_pk (go .pk (by intro h; cases h)) (fun _ => rfl) fun σ => getVar_tst i σ⟩
theorem se_glo {i : Nat} {d : D} {x : PySem.Str} {u : Value} {v : V} {pos : Pos} (hg : Gl X x) (hm : X.mg x = some u) (r : L2.RelV v u) (hd : (x == ("__debug__" : PySem.Str)) = false) (hi : G.glos[i]? = some d) (rd : ∀ F, RD T F d v) :
    SE T RX W G cl X (.Name x pos) (.glo i) :=
  se_data (fun _ => rfl) (fun md σ => by show opt G.glos[i]? _ = _; rw [hi]; rfl) (pe_glob hg hm r hd) rd
theorem se_cls {c : Nat} {x : PySem.Str} {pos : Pos} (hc : c < T.nc) (hg : Gl X x) (hm : X.mg x = some (.ref (T.cA c))) (hd : (x == ("__debug__" : PySem.Str)) = false) : SE T RX W G cl X (.Name x pos) (.clsv c) :=
  se_data (fun _ => rfl) (fun _ _ => rfl) (pe_glob (v := .ref (T.cA c)) hg hm rfl hd) fun _ => ⟨hc, rfl⟩
/-! ### parts of what is borrowed -/
theorem StB.part {P F H : Hp} {σ : Fr} {z : L2.St} {i : Nat} {o : O} {u : V} {s : Sl} {x : Option V} {Ai C B : List Addr} (h : StB T P F H σ z i o u s x Ai C B) {o' : O} {u' : V} {B' : List Addr} (r : RO T F H o' u' B') (hs : ∀ a ∈ B', a ∈ B) :
    RelV T P F H σ z (Val.ofO i o') u' := by
  have big : RelV T P F H σ z (.b i o') u' := ⟨s, x, Ai, C, B', h.at_, h.val, h.rs, h.r, r, fun a m => h.sub a (hs a m), h.nd, h.nP, h.nF, h.pH, h.fH, h.pF⟩
  cases o' with
  | d y => exact ⟨h.rel, r.2⟩
  | _ => exact big
theorem RDf.get {F : Hp} (ok : ∀ f g, f < T.nf → g < T.nf → T.fN f = T.fN g → f = g) {f : Nat} (hf : f < T.nf) : ∀ {fs : List (Nat × D)} {gs : List (PySem.Str × V)} {x : D}, RDf T F fs gs → fs.lookup f = some x → ∃ v, gs.lookup (T.fN f) = some v ∧ RD T F x v
  | [], _, _, _, e => by cases e
  | (k, y) :: fs, _, x, h, e => by
    obtain ⟨v, r, hk, eg, h1, h2⟩ := h
    subst eg
    by_cases c : f = k
    · subst c
      have e' : y = x := by simpa [List.lookup] using e
      subst e'
      exact ⟨v, by simp [List.lookup], h1⟩
    · have c' : T.fN f ≠ T.fN k := fun q => c (ok _ _ hf hk q)
      have e' : fs.lookup f = some x := by rw [List.lookup_cons] at e; rwa [show (f == k) = false from by simpa using c] at e
      obtain ⟨w, e1, r1⟩ := RDf.get ok hf h2 e'
      exact ⟨w, by rw [List.lookup_cons, show (T.fN f == T.fN k) = false from by simpa using c']; exact e1, r1⟩
theorem ROf.get {F H : Hp} (ok : ∀ f g, f < T.nf → g < T.nf → T.fN f = T.fN g → f = g) {f : Nat} (hf : f < T.nf) : ∀ {fs : List (Nat × O)} {gs : List (PySem.Str × V)} {A : List Addr} {x : O}, ROf T F H fs gs A → fs.lookup f = some x → ∃ v B, gs.lookup (T.fN f) = some v ∧ RO T F H x v B ∧ ∀ a ∈ B, a ∈ A
  | [], _, _, _, _, e => by cases e
  | (k, y) :: fs, _, _, x, h, e => by
    obtain ⟨v, r, A1, A2, hk, eg, eA, h1, h2⟩ := h
    subst eg eA
    by_cases c : f = k
    · subst c
      have e' : y = x := by simpa [List.lookup] using e
      subst e'
      exact ⟨v, A1, by simp [List.lookup], h1, fun a m => List.mem_append_left _ m⟩
    · have c' : T.fN f ≠ T.fN k := fun q => c (ok _ _ hf hk q)
      have e' : fs.lookup f = some x := by rw [List.lookup_cons] at e; rwa [show (f == k) = false from by simpa using c] at e
      obtain ⟨w, B, e1, r1, hs⟩ := ROf.get ok hf h2 e'
      exact ⟨w, B, by rw [List.lookup_cons, show (T.fN f == T.fN k) = false from by simpa using c']; exact e1, r1, fun a m => List.mem_append_right _ (hs a m)⟩
theorem fld_of {P F H : Hp} {σ : Fr} {z : L2.St} {v w : Val} {u : V} {f : Nat} {K : PySem.W.Frag} (ok : TbOk K T) (hf : f < T.nf) (h : RelV T P F H σ z v u) (e : fldV v f = some w) :
    ∃ a c dx gs y, c < T.nc ∧ u = .ref a ∧ H a = some (.ins (T.cA c) dx gs) ∧ gs.lookup (T.fN f) = some y ∧ RelV T P F H σ z w y := by
  cases v with
  | d x =>
    obtain ⟨rel, r⟩ := h
    cases x with
    | ins c fs =>
      obtain ⟨a, dx, gs, hc, e1, e2, r⟩ := r
      obtain ⟨y, ey, e⟩ := Option.map_eq_some_iff.mp (show (fs.lookup f).map Val.d = some w from e)
      subst e
      obtain ⟨y', l, ry⟩ := RDf.get ok.inj hf r ey
      obtain ⟨A, k⟩ := id rel
      exact ⟨a, c, dx, gs, y', hc, e1, k.fH _ _ e2, l, rel, ry⟩
    | _ => cases e
  | b i o =>
    obtain ⟨s, x, Ai, C, B, k⟩ := h
    cases o with
    | ins c fs =>
      obtain ⟨a, dx, gs, B', hc, e1, eB, e2, r⟩ := k.o
      obtain ⟨y, ey, e⟩ := Option.map_eq_some_iff.mp (show (fs.lookup f).map (Val.ofO i) = some w from e)
      subst e
      obtain ⟨y', B2, l, ry, hs⟩ := ROf.get ok.inj hf r ey
      exact ⟨a, c, dx, gs, y', hc, e1, e2, l, k.part ry fun a m => by rw [eB]; exact List.mem_cons_of_mem _ (hs a m)⟩
    | _ => cases e
  | o o => cases e
theorem se_fld {a : Expr} {ea : E} {f : Nat} {x : PySem.Str} {pos : Pos} (ok : TbOk X.K T) (ha : SE T RX W G cl X a ea) (hf : f < T.nf) (hx : T.fN f = x) (hb : attributeBase a x X.env (eval a X.env) = eval a X.env) :
    SE T RX W G cl X (.Attribute a x pos) (.fld ea f) :=
  SE.of (fun _ => rfl) (fun _ _ => rfl) (impE (pe_fld ha.p hb) fun z H Q ⟨P, F, σ, rel, q⟩ => by
    refine R.mono (R.bind rel q) fun u H1 ⟨F1, σ1, v, s, rv, q1⟩ => ?_
    obtain ⟨w, ew, q1⟩ := Post.opt q1
    obtain ⟨a, c, dx, gs, y, hc, e1, e2, l, ry⟩ := fld_of ok hf rv ew
    exact ⟨a, _, dx, gs, y, e1, e2, ok.cls c hc, hx ▸ ok.noat c f hc hf, hx ▸ l, q1 F1 H1 y (Same.refl _) ry⟩)
/-! ### two operands -/
theorem R.two {m1 m2 : Fr → Res Val} {k : D → D → Fr → Res Val} {z : L2.St} {H : Hp} {Q : VK} {P F : Hp} {σ : Fr} (rel : Rel T P F H σ z)
    (h : Post T RX W P z F Q ((m1 σ).bind fun v σ => opt (toD v) fun x => (m2 σ).bind fun u σ => opt (toD u) fun y => k x y σ)) :
    R T RX W m1 z H fun u1 H1 => R T RX W m2 z H1 fun u2 H2 => ∃ F2 σ2 x y, Rel T P F2 H2 σ2 z ∧ RD T F2 x u1 ∧ RD T F2 y u2 ∧ Post T RX W P z F2 Q (k x y σ2) := by
  refine R.mono (R.bind rel h) fun u1 H1 ⟨F1, σ1, v, s, rv, q⟩ => ?_
  obtain ⟨x, ex, q⟩ := Post.opt q
  obtain ⟨F1', s1, rel1, rx⟩ := rv.toD ex
  refine R.mono (R.bind rel1 (q.later s1)) fun u2 H2 ⟨F2, σ2, w, s2, rw, q2⟩ => ?_
  obtain ⟨y, ey, q2⟩ := Post.opt q2
  obtain ⟨F2', s3, rel2, ry⟩ := rw.toD ey
  exact ⟨F2', σ2, x, y, rel2, rx.mono (s2.trans s3), ry, q2.later s3⟩
theorem R.one {m1 : Fr → Res Val} {k : D → Fr → Res Val} {z : L2.St} {H : Hp} {Q : VK} {P F : Hp} {σ : Fr} (rel : Rel T P F H σ z)
    (h : Post T RX W P z F Q ((m1 σ).bind fun v σ => opt (toD v) fun x => k x σ)) :
    R T RX W m1 z H fun u1 H1 => ∃ F1 σ1 x, Rel T P F1 H1 σ1 z ∧ RD T F1 x u1 ∧ Post T RX W P z F1 Q (k x σ1) := by
  refine R.mono (R.bind rel h) fun u1 H1 ⟨F1, σ1, v, s, rv, q⟩ => ?_
  obtain ⟨x, ex, q⟩ := Post.opt q
  obtain ⟨F1', s1, rel1, rx⟩ := rv.toD ex
  exact ⟨F1', σ1, x, rel1, rx, q.later s1⟩
/-! ### not, and, or, a if c else b -/
theorem fin_tst {v w : Val} {σ σ' : Fr} (h : fin .tst v σ = .ok w σ') : ∃ b, w = .d (.bl b) := by
  have h : opt (truthV v) (fun b => Res.ok (.d (.bl b)) σ) = .ok w σ' := h
  cases e : truthV v with
  | none => rw [e] at h; cases h
  | some b =>
    rw [e] at h
    have h : Res.ok (Val.d (.bl b)) σ = .ok w σ' := h
    injection h with h1 h2
    exact ⟨b, h1.symm⟩
theorem bind_tst {r : Res Val} {w : Val} {σ' : Fr} (h : r.bind (fin .tst) = .ok w σ') : ∃ b, w = .d (.bl b) := by
  cases r with
  | ok v σ => exact fin_tst h
  | exc x σ => cases h
  | bad => cases h
theorem Res.bind_ok {α β : Type} {r : Res α} {f : α → Fr → Res β} {b : β} {σ' : Fr} (h : r.bind f = .ok b σ') : ∃ a σ, r = .ok a σ ∧ f a σ = .ok b σ' := by
  cases r with
  | ok v σ => exact ⟨v, σ, rfl, h⟩
  | exc x σ => cases h
  | bad => cases h
theorem opt_ok {α β : Type} {o : Option α} {f : α → Res β} {b : β} {σ' : Fr} (h : opt o f = .ok b σ') : ∃ a, o = some a ∧ f a = .ok b σ' := by
  cases o with
  | none => cases h
  | some a => exact ⟨a, rfl, h⟩
/-- a test's answer is a bool -/
theorem ev_tst : ∀ (E : E) {σ : Fr} {w : Val} {σ' : Fr}, ev G cl .tst E σ = .ok w σ' → ∃ b, w = .d (.bl b)
  | .cst d, _, _, _, h => fin_tst h
  | .var i, σ, _, _, h => bind_tst (r := getVar .pk i σ) (by rw [← getVar_tst]; exact h)
  | .glo x, _, _, _, h => by
    obtain ⟨d, _, h⟩ := opt_ok h
    exact fin_tst h
  | .clsv c, _, _, _, h => fin_tst h
  | .not a, _, _, _, h => by
    obtain ⟨v, σ1, _, h⟩ := Res.bind_ok h
    obtain ⟨d, _, h⟩ := opt_ok h
    injection h with h1 h2
    exact ⟨!d, h1.symm⟩
  | .and a b, _, w, σ', h => by
    obtain ⟨v, σ1, e1, h⟩ := Res.bind_ok h
    obtain ⟨c, rfl⟩ := ev_tst a e1
    cases c with
    | true => exact ev_tst b h
    | false => exact fin_tst h
  | .or a b, _, w, σ', h => by
    obtain ⟨v, σ1, e1, h⟩ := Res.bind_ok h
    obtain ⟨c, rfl⟩ := ev_tst a e1
    cases c with
    | true => exact fin_tst h
    | false => exact ev_tst b h
  | .ife c a b, _, w, σ', h => by
    obtain ⟨v, σ1, e1, h⟩ := Res.bind_ok h
    obtain ⟨c, rfl⟩ := ev_tst c e1
    cases c with
    | true => exact ev_tst a h
    | false => exact ev_tst b h
  | .bm _ _ _, _, _, _, h => bind_tst h
  | .sto _, _, _, _, h => bind_tst h
  | .fmt _ _ _, _, _, _, h => bind_tst h
  | .mxm _ _ _, _, _, _, h => bind_tst h
  | .rev _, _, _, _, h => bind_tst h
  | .never, _, _, _, h => by cases h
  | .fld _ _, _, _, _, h => bind_tst h
  | .idx _ _, _, _, _, h => bind_tst h
  | .slc _ _ _, _, _, _, h => bind_tst h
  | .tup _, _, _, _, h => bind_tst h
  | .lst _ _, _, _, _, h => bind_tst h
  | .neg _, _, _, _, h => bind_tst h
  | .bin _ _ _, _, _, _, h => bind_tst h
  | .cmp _ _ _, _, _, _, h => bind_tst h
  | .chn _ _ _ _ _, _, _, _, h => bind_tst h
  | .call _ _, _, _, _, h => bind_tst h
  | .make _ _, _, _, _, h => bind_tst h
  | .callv _ _, _, _, _, h => bind_tst h
  | .meth _ _ _, _, _, _, h => bind_tst h
  | .methL _ _ _, _, _, _, h => bind_tst h
  | .cmeth _ _ _, _, _, _, h => bind_tst h
  | .bi _ _, _, _, _, h => bind_tst h
  | .isin _ _, _, _, _, h => bind_tst h
  | .boo _, _, _, _, h => bind_tst h
  | .comp _ _ _ _ _ _, _, _, _, h => bind_tst h
  | .comp2 _ _ _ _ _ _ _ _ _ _, _, _, _, h => bind_tst h
theorem pe_notT {a : Expr} {ta : TE} {pos : Pos} (ha : PE X a ta) : PE X (.UnaryOp .Not a pos) (fun z H Q => ta z H fun x H1 => ∃ k, TruV X.K x H1 k ∧ Q (.bl (!k)) H1) := by
  refine ⟨fun pins s σ H Q I h => ?_⟩
  refine UnaryOp_ (thn (ha.run pins s σ H _ I h) fun v s1 ⟨x, H1, I1, r1, k, tk, q1⟩ => ?_)
  exact not_of (thn (tru_ok pins s1 σ H1 x v (fun b H' => Q (.bl (!b)) H') I1 r1 ⟨k, tk, q1⟩) fun b s2 ⟨H2, I2, q2⟩ => ⟨.bl (!b), H2, I2, rfl, q2⟩)
theorem se_not {a : Expr} {ea : E} {pos : Pos} (ha : SE T RX W G cl X a ea) : SE T RX W G cl X (.UnaryOp .Not a pos) (.not ea) := by
  have go : ∀ md : Md, PE X a (R T RX W (ev G cl md ea)) → PE X (.UnaryOp .Not a pos) (R T RX W (ev G cl md (.not ea))) := fun md h => impE (pe_notT h) fun z H Q ⟨P, F, σ, rel, q⟩ => by
    refine R.mono (R.bind rel q) fun u H1 ⟨F1, σ1, v, s, rv, q1⟩ => ?_
    obtain ⟨b, eb, q1⟩ := Post.opt q1
    exact ⟨b, tru_of rv eb, q1 F1 H1 _ (Same.refl _) ⟨rv.rel, rfl⟩⟩
  refine ⟨go .val ha.v, go .pk ha.p, impT (pt_not ha.t) fun z H Q ⟨P, F, σ, rel, q⟩ => ?_⟩
  refine RT.mono (RT.bindT rel (fun v σ1 e => .inl (ev_tst ea e)) q) fun b H1 ⟨F1, σ1, s, r1, q1⟩ => ?_
  obtain ⟨c, ec, q1⟩ := q1
  have : c = !b := by injection ec with ec; injection ec with ec; exact ec.symm
  subst this
  exact q1 F1 H1 (Same.refl _) r1
/-- and, or: values of a test's shape and beyond -/
structure SW (T : Tb) (RX : XR) (W : WX) (G : Prog) (cl : Call) (X : Cx) (e : Expr) (E : E) : Prop where
  v : PE X e (R T RX W (ev G cl .val E))
  p : PE X e (R T RX W (ev G cl .pk E))
  t : PW X e (RT T RX W (ev G cl .tst E))
theorem SW.se {e : Expr} {E : E} (h : SW T RX W G cl X e E) : SE T RX W G cl X e E := ⟨h.v, h.p, h.t.pt⟩
theorem sw_and1 {a : Expr} {ea : E} {pos : Pos} (ha : SE T RX W G cl X a ea) : SW T RX W G cl X (.BoolOp .And [a] pos) ea := ⟨pe_one ha.v, pe_one ha.p, pw_and1 ha.t⟩
theorem sw_or1 {a : Expr} {ea : E} {pos : Pos} (ha : SE T RX W G cl X a ea) : SW T RX W G cl X (.BoolOp .Or [a] pos) ea := ⟨pe_one ha.v, pe_one ha.p, pw_or1 ha.t⟩
theorem sw_and {a b : Expr} {rest : List Expr} {ea eb : E} {pos : Pos} (ha : SE T RX W G cl X a ea) (hb : SW T RX W G cl X (.BoolOp .And (b :: rest) pos) eb) : SW T RX W G cl X (.BoolOp .And (a :: b :: rest) pos) (.and ea eb) := by
  have go : ∀ md : Md, md ≠ .tst → PE X a (R T RX W (ev G cl md ea)) → PE X (.BoolOp .And (b :: rest) pos) (R T RX W (ev G cl md eb)) → PE X (.BoolOp .And (a :: b :: rest) pos) (R T RX W (ev G cl md (.and ea eb))) :=
    fun md hm h1 h2 => impE (pe_and h1 h2) fun z H Q ⟨P, F, σ, rel, q⟩ => by
      refine R.mono (R.bind rel q) fun u H1 ⟨F1, σ1, v, s, rv, q1⟩ => ?_
      cases v with
      | d x => cases x with
        | bl c =>
          have eu : u = .bl c := rv.2
          refine ⟨c, eu, ?_⟩
          cases c with
          | true => exact ⟨P, F1, σ1, rv.1, q1⟩
          | false => exact Post.fin_d hm q1 (Same.refl _) rv.1 rfl
        | _ => exact q1.elim
      | _ => exact q1.elim
  refine ⟨go .val (by intro h; cases h) ha.v hb.v, go .pk (by intro h; cases h) ha.p hb.p, impW (pw_and ha.t hb.t) fun z H Q ⟨P, F, σ, rel, q⟩ => ?_⟩
  refine RT.mono (RT.bindT rel (fun v σ1 e => .inl (ev_tst ea e)) q) fun b H1 ⟨F1, σ1, s, r1, q1⟩ => ?_
  cases b with
  | true => exact ⟨P, F1, σ1, r1, q1⟩
  | false =>
    obtain ⟨c, ec, q1⟩ := q1
    have : c = false := by injection ec with ec; injection ec with ec; exact ec.symm
    subst this
    exact q1 F1 H1 (Same.refl _) r1
theorem sw_or {a b : Expr} {rest : List Expr} {ea eb : E} {pos : Pos} (ha : SE T RX W G cl X a ea) (hb : SW T RX W G cl X (.BoolOp .Or (b :: rest) pos) eb) : SW T RX W G cl X (.BoolOp .Or (a :: b :: rest) pos) (.or ea eb) := by
  have go : ∀ md : Md, md ≠ .tst → PE X a (R T RX W (ev G cl md ea)) → PE X (.BoolOp .Or (b :: rest) pos) (R T RX W (ev G cl md eb)) → PE X (.BoolOp .Or (a :: b :: rest) pos) (R T RX W (ev G cl md (.or ea eb))) :=
    fun md hm h1 h2 => impE (pe_or h1 h2) fun z H Q ⟨P, F, σ, rel, q⟩ => by
      refine R.mono (R.bind rel q) fun u H1 ⟨F1, σ1, v, s, rv, q1⟩ => ?_
      cases v with
      | d x => cases x with
        | bl c =>
          have eu : u = .bl c := rv.2
          refine ⟨c, eu, ?_⟩
          cases c with
          | true => exact Post.fin_d hm q1 (Same.refl _) rv.1 rfl
          | false => exact ⟨P, F1, σ1, rv.1, q1⟩
        | _ => exact q1.elim
      | _ => exact q1.elim
  refine ⟨go .val (by intro h; cases h) ha.v hb.v, go .pk (by intro h; cases h) ha.p hb.p, impW (pw_or ha.t hb.t) fun z H Q ⟨P, F, σ, rel, q⟩ => ?_⟩
  refine RT.mono (RT.bindT rel (fun v σ1 e => .inl (ev_tst ea e)) q) fun b H1 ⟨F1, σ1, s, r1, q1⟩ => ?_
  cases b with
  | false => exact ⟨P, F1, σ1, r1, q1⟩
  | true =>
    obtain ⟨c, ec, q1⟩ := q1
    have : c = true := by injection ec with ec; injection ec with ec; exact ec.symm
    subst this
    exact q1 F1 H1 (Same.refl _) r1
theorem pt_ifExp {c a b : Expr} {tc t u : TT} {pos : Pos} (hc : PT X c tc) (ha : PT X a t) (hb : PT X b u) : PT X (.IfExp c a b pos) (fun z H Q => tc z H fun k H1 => if k = true then t z H1 Q else u z H1 Q) := by
  refine ⟨fun pins s σ H Q I h => ?_⟩
  refine isTrue_IfExp (thn (hc.run pins s σ H _ I h) fun d s1 ⟨H1, I1, q1⟩ => ?_)
  cases d with
  | true => exact ha.run pins s1 σ H1 Q I1 q1
  | false => exact hb.run pins s1 σ H1 Q I1 q1
theorem se_ife {c a b : Expr} {ec ea eb : E} {pos : Pos} (hc : SE T RX W G cl X c ec) (ha : SE T RX W G cl X a ea) (hb : SE T RX W G cl X b eb) : SE T RX W G cl X (.IfExp c a b pos) (.ife ec ea eb) := by
  have go : ∀ md : Md, PE X a (R T RX W (ev G cl md ea)) → PE X b (R T RX W (ev G cl md eb)) → PE X (.IfExp c a b pos) (R T RX W (ev G cl md (.ife ec ea eb))) :=
    fun md h1 h2 => impE (pe_ifExp hc.t h1 h2) fun z H Q ⟨P, F, σ, rel, q⟩ => by
      refine RT.mono (RT.bind rel (fun v σ1 e => .inl (ev_tst ec e)) q) fun k H1 ⟨F1, σ1, s, r1, q1⟩ => ?_
      cases k with
      | true => exact ⟨P, F1, σ1, r1, q1⟩
      | false => exact ⟨P, F1, σ1, r1, q1⟩
  refine ⟨go .val ha.v hb.v, go .pk ha.p hb.p, impT (pt_ifExp hc.t ha.t hb.t) fun z H Q ⟨P, F, σ, rel, q⟩ => ?_⟩
  refine RT.mono (RT.bindT rel (fun v σ1 e => .inl (ev_tst ec e)) q) fun k H1 ⟨F1, σ1, s, r1, q1⟩ => ?_
  cases k with
  | true => exact ⟨P, F1, σ1, r1, q1⟩
  | false => exact ⟨P, F1, σ1, r1, q1⟩
end
end Tf
end
section
set_option Elab.async false
set_option linter.all false
set_option maxRecDepth 100000
/-! Soundness, part 3: what is lent, arguments, calls. -/
namespace Tf
open PySem PySem.Spec PyProof.Rows L2
/-- a footprint beside what others own (P) and what is frozen (F) -/
structure Own (P F H : Hp) (A : List Addr) : Prop where
  nd : ∀ a, A.count a ≤ 1
  nP : ∀ a ∈ A, P a = none
  nF : ∀ a ∈ A, F a = none
  pH : Same P H
  fH : Same F H
  pF : ∀ a q, P a = some q → F a = none
theorem nd_count {A : List Addr} : A.Nodup ↔ ∀ a, A.count a ≤ 1 := List.nodup_iff_count
theorem mem_le {A B : List Addr} (h : ∀ a, B.count a ≤ A.count a) : ∀ a ∈ B, a ∈ A := fun a m => List.count_pos_iff.mp (by have := List.count_pos_iff.mpr m; have := h a; omega)
theorem Own.le {P F H : Hp} {A B : List Addr} (h : Own P F H A) (l : ∀ a, B.count a ≤ A.count a) : Own P F H B :=
  ⟨fun a => Nat.le_trans (l a) (h.nd a), fun a m => h.nP a (mem_le l a m), fun a m => h.nF a (mem_le l a m), h.pH, h.fH, h.pF⟩
section
variable {T : Tb} {P F H : Hp} {σ : Fr} {z : L2.St} {A B C : List Addr}
theorem St0.own (h : St0 T P F H σ z A) : Own P F H A := ⟨nd_count.mp h.nd, h.nP, h.nF, h.pH, h.fH, h.pF⟩
theorem Own.st0 (h : Own P F H A) (s : RSl T F H σ z A) : St0 T P F H σ z A := ⟨s, nd_count.mpr h.nd, h.nP, h.nF, h.pH, h.fH, h.pF⟩
theorem Own.rel (h : Own P F H A) (s : RSl T F H σ z A) : Rel T P F H σ z := ⟨A, h.st0 s⟩
theorem R1.there {s : Option Sl} {x : Option V} {A : List Addr} (h : R1 T F H s x A) : ∀ a ∈ A, ∃ q, H a = some q := by
  cases s with
  | none => intro a m; rw [show A = [] from h] at m; cases m
  | some sl => cases sl with
    | own o => obtain ⟨v, _, r⟩ := h; exact r.there
    | lent o => obtain ⟨v, _, r⟩ := h; exact r.there
theorem RSl.there : ∀ {σ : Fr} {z : L2.St} {A : List Addr}, RSl T F H σ z A → ∀ a ∈ A, ∃ q, H a = some q
  | [], _, _, h, a, m => by rw [h.2] at m; cases m
  | s :: σ, _, _, h, a, m => by
    obtain ⟨x, r, A1, A2, e, eA, h1, h2⟩ := RSl.cons_iff.mp h
    subst eA
    exact (List.mem_append.mp m).elim (h1.there a) (h2.there a)
/-- a slot is given another thing -/
theorem RSl.put {i : Nat} {s : Option Sl} {x : Option V} {Ai : List Addr} (h : RSl T F H σ z A) (hi : i < σ.length) (k : R1 T F H s x Ai) : ∃ A', RSl T F H (σ.set i s) (z.set i x) A' ∧ ∀ a, A'.count a ≤ Ai.count a + A.count a := by
  obtain ⟨s0, e0⟩ : ∃ s0, σ[i]? = some s0 := ⟨_, List.getElem?_eq_getElem hi⟩
  obtain ⟨x0, Aj, C, _, _, h2, pm⟩ := h.split e0
  obtain ⟨A', h3, pm'⟩ := RSl.join k h2 (i := i) (by rw [List.getElem?_set_self hi])
  rw [List.set_set] at h3
  refine ⟨A', h3, fun a => ?_⟩
  have e1 := pm.count_eq a
  have e2 := pm'.count_eq a
  rw [List.count_append] at e1 e2
  omega
/-- a slot's thing put aside: others own it for a while -/
theorem hide {i : Nat} {s : Sl} (h : Rel T P F H σ z) (e : σ[i]? = some (some s)) : ∃ x Ai, z[i]? = some x ∧ R1 T F H (some s) x Ai ∧ Own P F H Ai ∧ Rel T (plus P H Ai) F H (σ.set i none) z := by
  obtain ⟨A, k⟩ := h
  obtain ⟨x, Ai, C, e1, k1, k2, pm⟩ := k.s.split e
  have ow := k.own
  have ct : ∀ a, Ai.count a + C.count a = A.count a := fun a => by have := pm.count_eq a; rwa [List.count_append] at this
  have oA : Own P F H Ai := ow.le fun a => by have := ct a; omega
  have dj : ∀ a ∈ C, a ∉ Ai := fun a m m' => by
    have h1 := List.count_pos_iff.mpr m
    have h2 := List.count_pos_iff.mpr m'
    have h3 := ow.nd a
    have h4 := ct a
    omega
  have oC : Own P F H C := ow.le fun a => by have := ct a; omega
  refine ⟨x, Ai, e1, k1, oA, Own.rel ⟨oC.nd, fun a m => plus_none (oC.nP a m) (dj a m), oC.nF, plus_same k.pH, k.fH, fun a q e => ?_⟩ k2⟩
  by_cases m : a ∈ Ai
  · exact oA.nF a m
  · rw [plus_out m] at e
    exact k.pF a q e
/-- what others kept, at the end -/
theorem kept_of {Ai : List Addr} {F2 H2 : Hp} {B : List Addr} (oA : Own P F H Ai) (th : ∀ a ∈ Ai, ∃ q, H a = some q) (o2 : Own (plus P H Ai) F2 H2 B) : AtA H H2 Ai ∧ Own P F2 H2 (Ai ++ B) := by
  have at_ : AtA H H2 Ai := fun a m o e => o2.pH a o (by rw [plus_in m]; exact e)
  have dj : ∀ a ∈ B, a ∉ Ai := fun a m m' => by
    obtain ⟨q, e⟩ := th a m'
    have := o2.nP a m
    rw [plus_in m', e] at this
    cases this
  have sp : Same P (plus P H Ai) := same_plus oA.nP
  refine ⟨at_, ⟨fun a => ?_, fun a m => ?_, fun a m => ?_, sp.trans o2.pH, o2.fH, fun a q e => o2.pF a q (sp a q e)⟩⟩
  · rw [List.count_append]
    have h1 := oA.nd a
    have h2 := o2.nd a
    by_cases m : a ∈ B
    · have : Ai.count a = 0 := List.count_eq_zero.mpr (dj a m)
      omega
    · have : B.count a = 0 := List.count_eq_zero.mpr m
      omega
  · rcases List.mem_append.mp m with m | m
    · exact oA.nP a m
    · have := o2.nP a m
      rw [plus_out (dj a m)] at this
      exact this
  · rcases List.mem_append.mp m with m | m
    · obtain ⟨q, e⟩ := th a m
      exact o2.pF a q (by rw [plus_in m]; exact e)
    · exact o2.nF a m
theorem unhide {i : Nat} {s : Sl} {x : Option V} {Ai : List Addr} {F2 H2 : Hp} {σ2 : Fr} (ez : z[i]? = some x) (k : R1 T F H (some s) x Ai) (oA : Own P F H Ai) (sF : Same F F2) (h : Rel T (plus P H Ai) F2 H2 σ2 z) : Rel T P F2 H2 (σ2.put i (some s)) z := by
  obtain ⟨A2, k2⟩ := h
  obtain ⟨at_, o3⟩ := kept_of oA k.there k2.own
  have hi : i < σ2.length := by rw [k2.s.len]; exact (List.getElem?_eq_some_iff.mp ez).1
  obtain ⟨A', h3, ct⟩ := k2.s.put hi (k.mono sF at_)
  rw [set_same ez] at h3
  exact (o3.le fun a => by rw [List.count_append]; exact ct a).rel h3
/-- less is kept aside -/
theorem Rel.weak {Ai : List Addr} {H0 : Hp} (nP : ∀ a ∈ Ai, P a = none) (h : Rel T (plus P H0 Ai) F H σ z) : Rel T P F H σ z := by
  obtain ⟨A, k⟩ := h
  have sp : Same P (plus P H0 Ai) := same_plus nP
  refine ⟨A, k.s, k.nd, fun a m => ?_, k.nF, sp.trans k.pH, k.fH, fun a q e => k.pF a q (sp a q e)⟩
  have := k.nP a m
  cases e : P a with
  | none => rfl
  | some q => rw [sp a q e] at this; cases this
end
/-! ### arguments -/
/-- the values of what is lent -/
def lentV : List Sl → List V → List V
  | .lent _ :: ss, v :: vs => v :: lentV ss vs
  | .own _ :: ss, _ :: vs => lentV ss vs
  | _, _ => []
/-- the slots that what is lent goes back to hold these values -/
def Bk (z : L2.St) : List V → List (Option (Nat × Bool)) → Prop
  | [], [] => True
  | v :: lv, some (i, _) :: bk => z[i]? = some (some v) ∧ Bk z lv bk
  | _ :: lv, none :: bk => Bk z lv bk
  | _, _ => False
/-- evaluated arguments beside the slots -/
def ArgR (T : Tb) (P : Hp) (z : L2.St) (F H : Hp) (σ : Fr) (p : List Sl × List (Option (Nat × Bool))) (vs : List V) : Prop :=
  ∃ A B, RSl T F H σ z A ∧ RSl T F H (p.1.map some) (vs.map some) B ∧ Own P F H (B ++ A) ∧ Bk z (lentV p.1 vs) p.2
def RA (T : Tb) (RX : XR) (W : WX) (m : Fr → Res (List Sl × List (Option (Nat × Bool)))) : TA := fun z H Q => ∃ P F σ, Rel T P F H σ z ∧ PostA T RX W P z F (ArgR T P z) Q (m σ)
section
variable {T : Tb} {RX : XR} {W : WX} {X : Cx} {G : Prog} {cl : Call} {md : Md}
theorem RA.mono {m : Fr → Res (List Sl × List (Option (Nat × Bool)))} {z : L2.St} {H : Hp} {Q Q' : List V → Hp → Prop} (h : RA T RX W m z H Q) (k : ∀ u H, Q u H → Q' u H) : RA T RX W m z H Q' := by
  obtain ⟨P, F, σ, rel, q⟩ := h
  refine ⟨P, F, σ, rel, ?_⟩
  revert q
  generalize m σ = r
  intro q
  cases r with
  | ok v σ1 => exact fun F H u s k' => k u H (q F H u s k')
  | exc x σ1 => exact q
  | bad => exact q
theorem ArgR.nil {P F H : Hp} {σ : Fr} {z : L2.St} (h : Rel T P F H σ z) : ArgR T P z F H σ ([], []) [] := by
  obtain ⟨A, k⟩ := h
  exact ⟨A, [], k.s, ⟨rfl, rfl⟩, k.own, trivial⟩
theorem ArgR.rel {P F H : Hp} {σ : Fr} {z : L2.St} {p : List Sl × List (Option (Nat × Bool))} {vs : List V} (h : ArgR T P z F H σ p vs) : Rel T P F H σ z := by
  obtain ⟨A, B, h1, h2, o, b⟩ := h
  exact (o.le fun a => by rw [List.count_append]; omega).rel h1
theorem pa_nilR {ms : List Mode} : PA X [] (RA T RX W (evAs G cl ms .nil)) := impA pa_nil fun z H Q ⟨P, F, σ, rel, q⟩ => q F H [] (Same.refl _) (.nil rel)
/-- behind the first argument the others -/
theorem RA.tail {α : Type} {m : Fr → Res (List Sl × List (Option (Nat × Bool)))} {f : (List Sl × List (Option (Nat × Bool))) → List Sl × List (Option (Nat × Bool))} {z : L2.St} {H : Hp} {Q Q' : List V → Hp → Prop} {P P' F : Hp} {σ : Fr} (rel : Rel T P' F H σ z)
    (h : PostA T RX W P z F (ArgR T P z) Q ((m σ).map f)) (hx : ∀ F2 H2 σ2, Same F F2 → Rel T P' F2 H2 σ2 z → Rel T P F2 H2 σ2 z)
    (k : ∀ F2 H2 σ2 p vs, Same F F2 → ArgR T P' z F2 H2 σ2 p vs → (∀ vs', ArgR T P z F2 H2 σ2 (f p) vs' → Q vs' H2) → Q' vs H2) : RA T RX W m z H Q' := by
  refine ⟨P', F, σ, rel, ?_⟩
  revert h
  generalize m σ = r
  intro h
  cases r with
  | ok p σ1 => exact fun F2 H2 vs s a => k F2 H2 σ1 p vs s a fun vs' a' => h F2 H2 vs' s a'
  | exc x σ1 => exact fun F2 H2 c d s r rx => h F2 H2 c d s (hx F2 H2 σ1 s r) rx
  | bad => exact h
theorem ArgR.own {P F H : Hp} {σ : Fr} {z : L2.St} {p : List Sl × List (Option (Nat × Bool))} {vs : List V} {x : D} {u : V} (h : ArgR T P z F H σ p vs) (r : RD T F x u) : ArgR T P z F H σ (owned x :: p.1, p.2) (u :: vs) := by
  obtain ⟨A, B, h1, h2, o, b⟩ := h
  exact ⟨A, B, h1, ⟨u, _, [], B, rfl, rfl, ⟨rfl, r⟩, h2⟩, o, b⟩
theorem ArgR.owns {P F H : Hp} {σ : Fr} {z : L2.St} {p : List Sl × List (Option (Nat × Bool))} {vs : List V} (h : ArgR T P z F H σ p vs) : ∀ {xs : List D} {us : List V}, RDs T F xs us → ArgR T P z F H σ (xs.map owned ++ p.1, p.2) (us ++ vs)
  | [], _, r => by have r' : _ = [] := r; subst r'; exact h
  | x :: xs, _, r => by
    obtain ⟨v, s, e, r1, r2⟩ := r
    subst e
    exact (ArgR.owns h r2).own r1
theorem pa_consV {e : Expr} {es : List Expr} {ee : E} {er : Es} {ms ms' : List Mode} (ha : SE T RX W G cl X e ee) (hr : PA X es (RA T RX W (evAs G cl ms' er))) (hm : (∃ r, ms = .val :: r ∧ ms' = r) ∨ ms = [] ∧ ms' = [])
    (hs : starEach (e :: es) X.env = (false, eval e X.env) :: starEach es X.env) : PA X (e :: es) (RA T RX W (evAs G cl ms (.cons false ee er))) := by
  have hE : ∀ σ, evAs G cl ms (.cons false ee er) σ = (ev G cl .val ee σ).bind fun v σ => opt (toD v) fun x => (evAs G cl ms' er σ).map fun p => (owned x :: p.1, p.2) := fun σ => by
    rcases hm with ⟨r, rfl, rfl⟩ | ⟨rfl, rfl⟩ <;> rfl
  refine impA (pa_cons ha.v hr hs) fun z H Q ⟨P, F, σ, rel, q⟩ => ?_
  rw [hE] at q
  refine ⟨P, F, σ, rel, ?_⟩
  revert q
  generalize ev G cl .val ee σ = r
  intro q
  cases r with
  | exc x σ1 => exact q
  | bad => exact q
  | ok v σ1 =>
    intro F1 H1 u s rv
    have q : PostA T RX W P z F (ArgR T P z) Q (opt (toD v) fun x => (evAs G cl ms' er σ1).map fun p => (owned x :: p.1, p.2)) := q
    cases ex : toD v with
    | none => rw [ex] at q; exact q.elim
    | some x =>
      rw [ex] at q
      obtain ⟨F1', s1, rel1, rx⟩ := rv.toD ex
      exact RA.tail (α := Unit) rel1 (PostA.later (s.trans s1) q) (fun _ _ _ _ r => r) fun F2 H2 σ2 p vs s2 a q2 => q2 _ (a.own (rx.mono s2))
theorem lend_at {P F H : Hp} {σ : Fr} {z : L2.St} {i : Nat} {o : O} {l : Bool} (rel : Rel T P F H σ z) (e : σ[i]? = some (some (if l then .lent o else .own o))) :
    ∃ v Ai, z[i]? = some (some v) ∧ RO T F H o v Ai ∧ Own P F H Ai ∧ Rel T (plus P H Ai) F H (σ.put i none) z := by
  obtain ⟨x, Ai, ez, k, oA, r2⟩ := hide rel e
  cases l with
  | true => obtain ⟨v, ex, ro⟩ := k; subst ex; exact ⟨v, Ai, ez, ro, oA, r2⟩
  | false => obtain ⟨v, ex, ro⟩ := k; subst ex; exact ⟨v, Ai, ez, ro, oA, r2⟩
theorem ArgR.lend {P F H F2 H2 : Hp} {σ2 : Fr} {z : L2.St} {p : List Sl × List (Option (Nat × Bool))} {vs : List V} {o : O} {v : V} {Ai : List Addr} {b : Option (Nat × Bool)} (ro : RO T F H o v Ai) (oA : Own P F H Ai) (s : Same F F2)
    (h : ArgR T (plus P H Ai) z F2 H2 σ2 p vs) (hb : ∀ i l, b = some (i, l) → z[i]? = some (some v)) : ArgR T P z F2 H2 σ2 (.lent o :: p.1, b :: p.2) (v :: vs) := by
  obtain ⟨A, B, h1, h2, o2, bk⟩ := h
  obtain ⟨at_, o3⟩ := kept_of oA ro.there o2
  refine ⟨A, Ai ++ B, h1, ⟨v, _, Ai, B, rfl, rfl, RO.mono s at_ ro, h2⟩, by rw [List.append_assoc]; exact o3, ?_⟩
  cases b with
  | none => exact bk
  | some il => exact ⟨hb il.1 il.2 rfl, bk⟩
theorem lentAt_some {σ : Fr} {i : Nat} {o : O} {l : Bool} (h : lentAt σ i = some (o, l)) : σ[i]? = some (some (if l then .lent o else .own o)) := by
  unfold lentAt at h
  cases e : σ.get i with
  | none => rw [e] at h; cases h
  | some s =>
    rw [e] at h
    have e1 := Fr.get_some e
    cases s with
    | own o' =>
      have h' : (o', false) = (o, l) := Option.some.inj h
      injection h' with h1 h2
      subst h1 h2
      exact e1
    | lent o' =>
      have h' : (o', true) = (o, l) := Option.some.inj h
      injection h' with h1 h2
      subst h1 h2
      exact e1
theorem pa_consL {es : List Expr} {i : Nat} {x : PySem.Str} {pos : Pos} {er : Es} {ms : List Mode} (hN : X.N[i]? = some x) (hv : Vis X.env.scope x) (hd : (x == ("__debug__" : PySem.Str)) = false) (hcd : (x == ("__classdict__" : PySem.Str)) = false)
    (hr : PA X es (RA T RX W (evAs G cl ms er))) (hs : starEach (.Name x pos :: es) X.env = (false, eval (.Name x pos) X.env) :: starEach es X.env := by rfl) : PA X (.Name x pos :: es) (RA T RX W (evAs G cl (.lend :: ms) (.cons false (.var i) er))) := by
  refine impA (pa_cons (pe_var hN hv hd hcd) hr hs) fun z H Q ⟨P, F, σ, rel, q⟩ => ?_
  have q : PostA T RX W P z F (ArgR T P z) Q (opt (lentAt σ i) fun ol => (evAs G cl ms er (σ.put i none)).map fun p => (.lent ol.1 :: p.1, some (i, ol.2) :: p.2)) := q
  cases e : lentAt σ i with
  | none => rw [e] at q; exact q.elim
  | some ol =>
    rw [e] at q
    obtain ⟨v, Ai, ez, ro, oA, r2⟩ := lend_at rel (lentAt_some e)
    refine ⟨v, ez, RA.tail (α := Unit) r2 q (fun F2 H2 σ2 s r => r.weak oA.nP) fun F2 H2 σ2 p vs s a q2 => q2 _ (ArgR.lend ro oA s a fun i' l' e' => ?_)⟩
    injection e' with e'
    injection e' with e1 e2
    rw [← e1]
    exact ez
/-- the items of a value that is looked at -/
theorem allD_of {F H : Hp} : ∀ {os : List O} {vs : List V} {A : List Addr} {xs : List D}, ROs T F H os vs A → allD os = some xs → RDs T F xs vs
  | [], _, _, _, h, e => by
    have e' : [] = _ := Option.some.inj e
    rw [← e']
    exact h.1
  | o :: os, _, _, _, h, e => by
    obtain ⟨v, r, A1, A2, ev, eA, h1, h2⟩ := h
    subst ev
    cases o with
    | d x =>
      obtain ⟨xs, ex, e⟩ := Option.map_eq_some_iff.mp (show (allD os).map (x :: ·) = some _ from e)
      subst e
      exact ⟨v, r, rfl, h1.2, allD_of h2 ex⟩
    | _ => cases e
theorem items_of {K : PySem.W.Frag} {P F H : Hp} {σ : Fr} {z : L2.St} {v : Val} {u : V} {xs : List D} (h : RelV T P F H σ z v u) (e : itemsV v = some xs) :
    ∃ a vs, u = .ref a ∧ (SqT K H a vs ∨ SqL K H a vs) ∧ RDs T F xs vs := by
  cases v with
  | d x =>
    obtain ⟨⟨A, k⟩, r⟩ := h
    cases x with
    | tup ys =>
      obtain ⟨a, vs, e1, e2, r⟩ := r
      have e' : ys = xs := Option.some.inj e
      subst e'
      exact ⟨a, vs, e1, .inl (.of (k.fH _ _ e2)), r⟩
    | lst ys =>
      obtain ⟨a, vs, e1, e2, r⟩ := r
      have e' : ys = xs := Option.some.inj e
      subst e'
      exact ⟨a, vs, e1, .inr (.of (k.fH _ _ e2)), r⟩
    | scr ns =>
      obtain ⟨a, ob, e1, e2⟩ := r
      have e' : ns.map D.int = xs := Option.some.inj e
      subst e'
      refine ⟨a, _, e1, .inr (.inl (.inr ⟨ob, k.fH _ _ e2⟩)), ?_⟩
      clear e2 e
      induction ns with
      | nil => rfl
      | cons n ns ih => exact ⟨_, _, rfl, rfl, ih⟩
    | _ => cases e
  | b i o =>
    obtain ⟨s, x, Ai, C, B, k⟩ := h
    cases o with
    | lst os =>
      obtain ⟨a, vs, B', e1, eB, e2, r⟩ := k.o
      exact ⟨a, vs, e1, .inr (.of e2), allD_of r e⟩
    | _ => cases e
  | o o => cases e
theorem pa_consS {e : Expr} {es : List Expr} {sp : Pos} {ee : E} {er : Es} {ms : List Mode} (ha : SE T RX W G cl X e ee) (hr : PA X es (RA T RX W (evAs G cl [] er)))
    (hs : starEach (.Starred e sp :: es) X.env = (true, eval e X.env) :: starEach es X.env := by rfl) : PA X (.Starred e sp :: es) (RA T RX W (evAs G cl ms (.cons true ee er))) := by
  refine impA (StX.pa_star ha.p hr hs) fun z H Q ⟨P, F, σ, rel, q⟩ => ?_
  have q : PostA T RX W P z F (ArgR T P z) Q ((ev G cl .pk ee σ).bind fun v σ => opt (itemsV v) fun xs => (evAs G cl [] er σ).map fun p => (xs.map owned ++ p.1, p.2)) := q
  refine ⟨P, F, σ, rel, ?_⟩
  revert q
  generalize ev G cl .pk ee σ = r
  intro q
  cases r with
  | exc x σ1 => exact q
  | bad => exact q
  | ok v σ1 =>
    intro F1 H1 u s rv
    have q : PostA T RX W P z F (ArgR T P z) Q (opt (itemsV v) fun xs => (evAs G cl [] er σ1).map fun p => (xs.map owned ++ p.1, p.2)) := q
    cases ex : itemsV v with
    | none => rw [ex] at q; exact q.elim
    | some xs =>
      rw [ex] at q
      obtain ⟨a, vs, eu, sq, rx⟩ := items_of (K := X.K) rv ex
      exact ⟨a, vs, eu, sq, RA.tail (α := Unit) rv.rel (PostA.later s q) (fun _ _ _ _ r => r) fun F2 H2 σ2 p us s2 a q2 => q2 _ (a.owns (rx.mono s2))⟩
end
/-! ### a call -/
/-- behind a call: the answer, what was lent -/
def StC (T : Tb) (P F H : Hp) (v : Val) (u : V) (ls : List O) (lv : List V) : Prop := ∃ o B C, asO v = some o ∧ RO T F H o u C ∧ ROs T F H ls lv B ∧ Own P F H (C ++ B)
def PostC (T : Tb) (RX : XR) (P F : Hp) (lv : List V) (Q : VK) (E : XK) : CR → Prop
  | .ret v ls => ∀ F1 H1 u, Same F F1 → StC T P F1 H1 v u ls lv → Q u H1
  | .exc x ls => ∀ F1 H1 c d, Same F F1 → (∃ B, ROs T F1 H1 ls lv B ∧ Own P F1 H1 B) → RX F1 H1 x c d → E c d H1
  | .bad => False
/-- a def's promise: it returns what the evaluator says -/
def spD (T : Tb) (RX : XR) (cl : Call) (f : Nat) : Sp := fun vs H Q E => ∃ P F ss B, RSl T F H (ss.map some) (vs.map some) B ∧ Own P F H B ∧ PostC T RX P F (lentV ss vs) Q E (cl f ss)
section
variable {T : Tb} {RX : XR} {W : WX} {X : Cx} {G : Prog} {cl : Call} {md : Md}
theorem give_ok {P F H : Hp} {z : L2.St} {C : List Addr} : ∀ {bk : List (Option (Nat × Bool))} {ls : List O} {lv : List V} {σ σ' : Fr} {A B : List Addr}, RSl T F H σ z A → ROs T F H ls lv B → Own P F H (C ++ (B ++ A)) → Bk z lv bk → giveBack σ bk ls = some σ' →
    ∃ A', RSl T F H σ' z A' ∧ Own P F H (C ++ A')
  | [], [], _, σ, σ', A, B, h, r, o, b, e => by
    have e' : σ = σ' := Option.some.inj e
    subst e'
    exact ⟨A, h, o.le fun a => by simp only [List.count_append]; omega⟩
  | none :: bk, l :: ls, lv, σ, σ', A, B, h, r, o, b, e => by
    obtain ⟨v, s, A1, A2, ev, eA, r1, r2⟩ := r
    subst ev eA
    exact give_ok h r2 (o.le fun a => by simp only [List.count_append]; omega) b e
  | some (i, l) :: bk, o :: ls, lv, σ, σ', A, B, h, r, ow, b, e => by
    obtain ⟨v, s, A1, A2, ev, eA, r1, r2⟩ := r
    subst ev eA
    have hi : i < σ.length := by rw [h.len]; exact (List.getElem?_eq_some_iff.mp b.1).1
    have k1 : R1 T F H (some (if l then Sl.lent o else .own o)) (some v) A1 := by cases l <;> exact ⟨v, rfl, r1⟩
    obtain ⟨A', h', ct⟩ := h.put hi k1
    rw [set_same b.1] at h'
    exact give_ok h' r2 (ow.le fun a => by have := ct a; simp only [List.count_append]; omega) b.2 e
  | [], _ :: _, _, _, _, _, _, _, _, _, _, e => by cases e
  | none :: _, [], _, _, _, _, _, _, _, _, _, e => by cases e
  | some _ :: _, [], _, _, _, _, _, _, _, _, _, e => by cases e
theorem relV_of {P F H : Hp} {σ : Fr} {z : L2.St} {v : Val} {u : V} {o : O} {A C : List Addr} (h : RSl T F H σ z A) (e : asO v = some o) (r : RO T F H o u C) (ow : Own P F H (C ++ A)) : RelV T P F H σ z v u := by
  cases v with
  | d x =>
    have e' : O.d x = o := Option.some.inj e
    subst e'
    exact ⟨(ow.le fun a => by rw [List.count_append]; omega).rel h, r.2⟩
  | o o' =>
    have e' : o' = o := Option.some.inj e
    subst e'
    exact ⟨A, C, h, r, nd_count.mpr ow.nd, ow.nP, ow.nF, ow.pH, ow.fH, ow.pF⟩
  | b i o => cases e
/-- a call's promise meets what the caller asks -/
theorem call_ok {P F H : Hp} {σ : Fr} {z : L2.St} {p : List Sl × List (Option (Nat × Bool))} {vs : List V} {f : Nat} {Q : VK} (h : ArgR T P z F H σ p vs) (q : Post T RX W P z F Q (after (cl f p.1) p.2 σ)) : spD T RX cl f vs H Q fun c d H' => W c d z H' := by
  obtain ⟨A, B, h1, h2, o, bk⟩ := h
  have oA : Own P F H A := o.le fun a => by rw [List.count_append]; omega
  have oB : Own P F H B := o.le fun a => by rw [List.count_append]; omega
  have dj : ∀ a ∈ B, a ∉ A := fun a m m' => by
    have k1 := List.count_pos_iff.mpr m
    have k2 := List.count_pos_iff.mpr m'
    have k3 := o.nd a
    rw [List.count_append] at k3
    omega
  refine ⟨plus P H A, F, p.1, B, h2, ⟨oB.nd, fun a m => plus_none (oB.nP a m) (dj a m), oB.nF, plus_same oB.pH, oB.fH, fun a q e => ?_⟩, ?_⟩
  · by_cases m : a ∈ A
    · exact oA.nF a m
    · rw [plus_out m] at e
      exact oA.pF a q e
  revert q
  generalize cl f p.1 = r
  intro q
  cases r with
  | bad => exact q
  | ret v ls =>
    rintro F1 H1 u s ⟨w, B1, C, ew, rw_, rl, o1⟩
    obtain ⟨σ', e', q⟩ := Post.opt (show Post T RX W P z F Q (opt (giveBack σ p.2 ls) fun σ => .ok v σ) from q)
    obtain ⟨at_, o2⟩ := kept_of oA h1.there o1
    obtain ⟨A', h', o3⟩ := give_ok (C := C) (h1.mono s at_) rl (o2.le fun a => by simp only [List.count_append]; omega) bk e'
    exact q F1 H1 u s (relV_of h' ew rw_ o3)
  | exc x ls =>
    rintro F1 H1 c d s ⟨B1, rl, o1⟩ rx
    obtain ⟨σ', e', q⟩ := Post.opt (show Post T RX W P z F Q (opt (giveBack σ p.2 ls) fun σ => .exc x σ) from q)
    obtain ⟨at_, o2⟩ := kept_of oA h1.there o1
    obtain ⟨A', h', o3⟩ := give_ok (C := []) (h1.mono s at_) rl (o2.le fun a => by simp only [List.count_append, List.nil_append]; omega) bk e'
    exact q F1 H1 c d s (o3.rel h') rx
end
end Tf
end
section
set_option Elab.async false
set_option linter.all false
set_option maxRecDepth 100000
/-! Soundness, part 4: the calls' nodes. -/
namespace Tf
open PySem PySem.Spec PyProof.Rows L2
section
variable {T : Tb} {RX : XR} {W : WX} {X : Cx} {G : Prog} {cl : Call} {md : Md}
def isStar : Expr → Bool
  | .Starred _ _ => true
  | _ => false
theorem star_of {e : Expr} {es : List Expr} {env : Env} (h : isStar e = false) : starEach (e :: es) env = (false, eval e env) :: starEach es env := by
  cases e <;> first | rfl | cases h
theorem any_star {pos : Pos} {env : Env} : ∀ {es : List Expr}, es.all (fun e => !isStar e) = true → (backTo pos (starEach es env)).any (·.1) = false
  | [], _ => rfl
  | e :: es, h => by
    rw [List.all_cons, Bool.and_eq_true] at h
    have h1 : isStar e = false := by cases k : isStar e with
      | false => rfl
      | true => rw [k] at h; cases h.1
    rw [star_of h1]
    show (false || (backTo pos (starEach es env)).any (·.1)) = false
    rw [any_star h.2]
    rfl
theorem all_star {pos : Pos} {env : Env} : ∀ {es : List Expr}, es.all (fun e => !isStar e) = true → (backTo pos (starEach es env)).all (!·.1) = true
  | [], _ => rfl
  | e :: es, h => by
    rw [List.all_cons, Bool.and_eq_true] at h
    have h1 : isStar e = false := by cases k : isStar e with
      | false => rfl
      | true => rw [k] at h; cases h.1
    rw [star_of h1]
    show (true && (backTo pos (starEach es env)).all (!·.1)) = true
    rw [all_star h.2]
    rfl
/-- arguments at a call's node -/
structure PArgs (X : Cx) (es : List Expr) (t : TA) : Prop where
  run : ∀ (f : Value) (first : List Value) (pos : Pos), PySem.W.keepIn X.K f = true → ∀ (pins : List (Addr × Obj)) (s : Shared) (z : L2.St) (H : Hp) (Q : List V → Hp → Prop) (Qf : Value → Shared → Prop), Inv X pins z H s → t z H Q →
    (∀ vs us s' H', Inv X pins z H' s' → Vals vs us → Q vs H' → wpAny (model X.prog X.w) X.A (call f (first ++ us)) Qf X.xe s') →
    wpAny (model X.prog X.w) X.A (callWith pos f first (backTo pos (starEach es X.env)) []) Qf X.xe s
theorem parg_nilR {ms : List Mode} : PArgs X [] (RA T RX W (evAs G cl ms .nil)) := ⟨fun f first pos hk pins s z H Q Qf I ⟨P, F, σ, rel, q⟩ k =>
  PySem.W.callWith_K0 I.kIn hk (k [] [] s H I .nil (q F H [] (Same.refl _) (.nil rel)))⟩
theorem parg_cons {e : Expr} {es : List Expr} {t : TA} (he : isStar e = false) (h : PA X (e :: es) t) : PArgs X (e :: es) t := ⟨fun f first pos hk pins s z H Q Qf I q k => by
  have run := thn (h.run pos pins s z H Q I q) (Q' := fun us s₁ => X.K.In s₁.heap ∧ wpAny (model X.prog X.w) X.A (call f (first ++ us)) Qf X.xe s₁) fun us s₁ ⟨vs, H', I', r, q'⟩ => ⟨I'.kIn, k vs us s₁ H' I' r q'⟩
  cases c : (backTo pos (starEach es X.env)).any (·.1) with
  | false => exact PySem.W.callWith_K (h₀ := X.base) I.ok.mod.kin hk run (star_of he) c
  | true => exact PySem.W.callWith_S2 (h₀ := X.base) I.ok.mod.kin hk run (star_of he) c⟩
theorem parg_lone {e : Expr} {p : Pos} {te : TE} {t : TA} (h : PE X e te) (ht : ∀ z H Q, t z H Q → te z H fun x H1 => ∃ a xs, x = V.ref a ∧ (SqT X.K H1 a xs ∨ SqL X.K H1 a xs) ∧ Q xs H1) : PArgs X [.Starred e p] t := ⟨fun f first pos hk pins s z H Q Qf I q k => by
  refine PySem.W.callWith_S (h₀ := X.base) I.ok.mod.kin hk (thn (h.run pins s z H _ I (ht z H Q q)) fun v s1 ⟨y, H1, I1, ry, a, xs, ey, hxs, q⟩ => ?_) rfl
  subst ey
  obtain rfl : v = Value.ref a := ry
  exact StX.star_any I1 hxs fun us s2 I2 rv => ⟨I2.kIn, k xs us s2 H1 I2 rv q⟩⟩
theorem parg_loneR {e : Expr} {p : Pos} {ee : E} {ms : List Mode} (ha : SE T RX W G cl X e ee) : PArgs X [.Starred e p] (RA T RX W (evAs G cl ms (.cons true ee .nil))) := by
  refine parg_lone ha.p fun z H Q ⟨P, F, σ, rel, q⟩ => ?_
  have q : PostA T RX W P z F (ArgR T P z) Q ((ev G cl .pk ee σ).bind fun v σ => opt (itemsV v) fun xs => (evAs G cl [] .nil σ).map fun p => (xs.map owned ++ p.1, p.2)) := q
  refine ⟨P, F, σ, rel, ?_⟩
  revert q
  generalize ev G cl .pk ee σ = r
  intro q
  cases r with
  | exc x σ1 => exact q
  | bad => exact q
  | ok v σ1 =>
    intro F1 H1 u s rv
    have q : PostA T RX W P z F (ArgR T P z) Q (opt (itemsV v) fun xs => (.ok (xs.map owned ++ [], []) σ1)) := q
    cases ex : itemsV v with
    | none => rw [ex] at q; exact q.elim
    | some xs =>
      rw [ex] at q
      obtain ⟨a, vs, eu, sq, rx⟩ := items_of (K := X.K) rv ex
      refine ⟨a, vs, eu, sq, q F1 H1 vs s ?_⟩
      have := (ArgR.nil rv.rel).owns rx
      rw [List.append_nil vs] at this
      exact this
/-- behind the arguments -/
theorem RA.bind {m : Fr → Res (List Sl × List (Option (Nat × Bool)))} {f : List Sl × List (Option (Nat × Bool)) → Fr → Res Val} {z : L2.St} {H : Hp} {Q : VK} {P F : Hp} {σ : Fr} (rel : Rel T P F H σ z) (h : Post T RX W P z F Q ((m σ).bind f)) :
    RA T RX W m z H fun vs H1 => ∃ F1 σ1 p, Same F F1 ∧ ArgR T P z F1 H1 σ1 p vs ∧ Post T RX W P z F1 Q (f p σ1) := by
  refine ⟨P, F, σ, rel, ?_⟩
  revert h
  generalize m σ = r
  intro h
  cases r with
  | ok v σ1 => exact fun F1 H1 u s k => ⟨F1, σ1, v, s, k, Post.later s h⟩
  | exc x σ1 => exact h
  | bad => exact h
theorem RA.bindL {m : Fr → Res (List Sl × List (Option (Nat × Bool)))} {f : List Sl × List (Option (Nat × Bool)) → Fr → Res Val} {z : L2.St} {H : Hp} {Q : VK} {P P' F : Hp} {σ : Fr} (rel : Rel T P' F H σ z) (h : Post T RX W P z F Q ((m σ).bind f))
    (hx : ∀ F2 H2 σ2, Same F F2 → Rel T P' F2 H2 σ2 z → Rel T P F2 H2 σ2 z) : RA T RX W m z H fun vs H1 => ∃ F1 σ1 p, Same F F1 ∧ ArgR T P' z F1 H1 σ1 p vs ∧ Post T RX W P z F1 Q (f p σ1) := by
  refine ⟨P', F, σ, rel, ?_⟩
  revert h
  generalize m σ = r
  intro h
  cases r with
  | ok v σ1 => exact fun F1 H1 u s k => ⟨F1, σ1, v, s, k, Post.later s h⟩
  | exc x σ1 => exact fun F2 H2 c d s r rx => h F2 H2 c d s (hx F2 H2 σ1 s r) rx
  | bad => exact h
/-- the callee runs -/
theorem run_z {k : Nat} {f : Addr} {sp : Sp} {pins : List (Addr × Obj)} {z : L2.St} {H : Hp} {s : Shared} {Q : VK} {us : List Value} {vs : List V} (F : FnR X.prog X.w X.K X.mg X.base (L2.CX X.prog X.w) k f sp) (hr : Room k X.A) (tk : Takes X W) (I : Inv X pins z H s) (r : Vals vs us)
    (h : sp vs H Q fun c d H' => W c d z H') : codeAny (model X.prog X.w) X.A (.call (.ref f) ⟨us, []⟩) (fun r s' => match r with | .ok (.ret v) => EP X pins z Q v s' | .ok _ => False | .error e => X.xe e s') s := by
  refine codeAny_mono (F X.A X.stack s H us vs Q _ hr I.env0 r h) fun r s' hq => ?_
  cases r with
  | error e => exact tk e s' (XE.of_call I (fun _ _ _ h => h) hq)
  | ok fl =>
    cases fl with
    | ret u => exact I.after hq
    | next => exact False.elim hq
    | brk => exact False.elim hq
    | cont => exact False.elim hq
/-- the promise of the def f, its code at a -/
abbrev FnD (X : Cx) (T : Tb) (RX : XR) (cl : Call) (k : Nat) (a : Addr) (f : Nat) : Prop := FnR X.prog X.w X.K X.mg X.base (L2.CX X.prog X.w) k a (spD T RX cl f)
theorem se_call {k f : Nat} {a : Addr} {x : PySem.Str} {p pos : Pos} {es : List Expr} {as : Es} (F : FnD X T RX cl k a f) (hr : Room k X.A) (tk : Takes X W) (hk : PySem.W.keepIn X.K (.ref a) = true) (hg : Gl X x) (hm : X.mg x = some (.ref a)) (hd : (x == ("__debug__" : PySem.Str)) = false)
    (ha : PArgs X es (RA T RX W (evAs G cl (modesOf G f) as))) : SE T RX W G cl X (.Call (.Name x p) es [] pos) (.call f as) :=
  SE.of (fun _ => rfl) (fun _ _ => rfl) ⟨fun pins s z H Q I ⟨P, F0, σ, rel, q⟩ => by
    refine wpAny_Call_Name_kw (ld_glob I hg hm ?_ hd)
    refine ha.run (.ref a) [] pos hk pins s z H _ _ I (RA.bind rel q) fun vs us s' H' I' r ⟨F1, σ1, p, s1, arg, q1⟩ => ?_
    exact wpAny_call (run_z F hr tk I' r (call_ok arg q1))⟩
/-! ### a method call's tree -/
theorem mc_tree {o : Expr} {m : PySem.Str} {apos pos : Pos} {es : List Expr} {env : Env} (hb : attributeBase o m env (eval o env) = eval o env) (hs : es.all (fun e => !isStar e) = true) (hn : es.length < 30) (hl : (apos.endLine == pos.line) = true) :
    eval (.Call (.Attribute o m apos) es [] pos) env = (do
      let ov ← eval o env
      standAt apos.atName
      let (f, first) ← holding [ov] (getMethod ov m (do return (← importBound o env).getD true))
      callWith pos f first (backTo pos (starEach es env)) (backToKw pos (keywordEach [] env))) := by
  show (do
    let ov ← attributeBase o m env (eval o env)
    standAt apos.atName
    methodCall o m apos pos env ov (es.length + 0) (backTo pos (starEach es env)) (backToKw pos (keywordEach [] env))) = _
  rw [hb]
  have hf : methodCallForm (es.length + 0) (backTo pos (starEach es env)) (backToKw pos (keywordEach [] env)) = true := by
    unfold methodCallForm
    rw [all_star hs]
    show (true && true && decide (es.length + 0 + 0 < 30)) = true
    simpa using hn
  unfold methodCall calleeOf methodCallPos
  rw [hf]
  simp only [Bool.not_true, Bool.false_or, hl, if_true]
  rfl
theorem RDf.no {F : Hp} {m : PySem.Str} (hm : ∀ f, f < T.nf → T.fN f ≠ m) : ∀ {fs : List (Nat × D)} {gs : List (PySem.Str × V)}, RDf T F fs gs → gs.lookup m = none
  | [], _, h => by rw [show _ = [] from h]; rfl
  | (k, y) :: fs, _, h => by
    obtain ⟨v, r, hk, eg, _, h2⟩ := h
    subst eg
    rw [List.lookup_cons, show (m == T.fN k) = false from by simpa using fun e => hm k hk e.symm]
    exact RDf.no hm h2
theorem ROf.no {F H : Hp} {m : PySem.Str} (hm : ∀ f, f < T.nf → T.fN f ≠ m) : ∀ {fs : List (Nat × O)} {gs : List (PySem.Str × V)} {A : List Addr}, ROf T F H fs gs A → gs.lookup m = none
  | [], _, _, h => by rw [h.1]; rfl
  | (k, y) :: fs, _, _, h => by
    obtain ⟨v, r, A1, A2, hk, eg, eA, _, h2⟩ := h
    subst eg
    rw [List.lookup_cons, show (m == T.fN k) = false from by simpa using fun e => hm k hk e.symm]
    exact ROf.no hm h2
/-- what is said of a method's name, its code, at all classes that have it -/
structure MethOk (X : Cx) (T : Tb) (RX : XR) (G : Prog) (cl : Call) (k : Nat) (fA : Nat → Addr) (m : Nat) (x : PySem.Str) : Prop where
  no : ∀ f, f < T.nf → T.fN f ≠ x
  at_ : ∀ c f, c < T.nc → G.meth c m = some f → Meth X.K (T.cA c) x (fA f) ∧ FnD X T RX cl k (fA f) f
theorem se_meth {k m : Nat} {fA : Nat → Addr} {x : PySem.Str} {o : Expr} {eo : E} {apos pos : Pos} {es : List Expr} {as : Es} (ok : TbOk X.K T) (M : MethOk X T RX G cl k fA m x) (hr : Room k X.A) (tk : Takes X W) (ho : SE T RX W G cl X o eo)
    (ha : ∀ c f, G.meth c m = some f → PArgs X es (RA T RX W (evAs G cl (modesOf G f).tail as)))
    (hb : attributeBase o x X.env (eval o X.env) = eval o X.env) (hs : es.all (fun e => !isStar e) = true) (hn : es.length < 30) (hl : (apos.endLine == pos.line) = true) :
    SE T RX W G cl X (.Call (.Attribute o x apos) es [] pos) (.meth eo m as) :=
  SE.of (fun _ => rfl) (fun _ _ => rfl) ⟨fun pins s z H Q I ⟨P, F0, σ, rel, q⟩ => by
    refine PySem.W.methodCall_KW (thn (ho.v.run pins s z H _ I (R.one rel q)) fun u s1 ⟨y, H1, I1, ry, F1, σ1, x1, rel1, rx, q1⟩ => ?_) (mc_tree hb hs hn hl)
    cases x1 with
    | ins c fs =>
      obtain ⟨f, ef, q1⟩ := Post.opt q1
      obtain ⟨a, dx, gs, hc, ey, ea, rf⟩ := id rx
      subst ey
      obtain rfl : u = Value.ref a := ry
      obtain ⟨A, k1⟩ := id rel1
      obtain ⟨hm, FD⟩ := M.at_ c f hc ef
      have q1 : Post T RX W P z F1 Q (match (modesOf G f).head? with
        | some .val => (evAs G cl (modesOf G f).tail as σ1).bind fun p σ => after (cl f (owned (.ins c fs) :: p.1)) p.2 σ
        | _ => .bad) := q1
      refine getmeth_ok I1 (k1.fH _ _ ea) (ok.cls c hc) hm (RDf.no M.no rf) ?_
      cases hh : (modesOf G f).head? with
      | none => rw [hh] at q1; exact q1.elim
      | some md => cases md with
        | lend => rw [hh] at q1; exact q1.elim
        | val =>
          rw [hh] at q1
          refine (ha c f ef).run (.ref (fA f)) [.ref a] pos hm.kp pins s1 z H1 _ _ I1 (RA.bind rel1 q1) fun vs us s' H' I' r ⟨F2, σ2, p, s2, arg, q2⟩ => ?_
          exact wpAny_call (run_z FD hr tk I' (us := .ref a :: us) (vs := .ref a :: vs) (.cons rfl r) (call_ok (p := (owned (.ins c fs) :: p.1, p.2)) (arg.own (rx.mono s2)) q2))
    | _ => exact q1.elim⟩
theorem se_methL {k m i : Nat} {fA : Nat → Addr} {x n : PySem.Str} {npos apos pos : Pos} {es : List Expr} {as : Es} (ok : TbOk X.K T) (M : MethOk X T RX G cl k fA m x) (hr : Room k X.A) (tk : Takes X W)
    (hN : X.N[i]? = some n) (hv : Vis X.env.scope n) (hd : (n == ("__debug__" : PySem.Str)) = false) (hcd : (n == ("__classdict__" : PySem.Str)) = false)
    (ha : ∀ c f, G.meth c m = some f → PArgs X es (RA T RX W (evAs G cl (modesOf G f).tail as)))
    (hs : es.all (fun e => !isStar e) = true) (hn : es.length < 30) (hl : (apos.endLine == pos.line) = true) :
    SE T RX W G cl X (.Call (.Attribute (.Name n npos) x apos) es [] pos) (.methL i m as) :=
  SE.of (fun _ => rfl) (fun _ _ => rfl) ⟨fun pins s z H Q I ⟨P, F0, σ, rel, q⟩ => by
    have q : Post T RX W P z F0 Q (match lentAt σ i with
    | some (o, l) => opt ((classO o).bind fun c => G.meth c m) fun f => (match (modesOf G f).head? with
      | some .lend => (evAs G cl (modesOf G f).tail as (σ.put i none)).bind fun p σ => after (cl f (.lent o :: p.1)) (some (i, l) :: p.2) σ
      | _ => .bad)
    | none => .bad) := q
    cases el : lentAt σ i with
    | none => rw [el] at q; exact q.elim
    | some ol =>
      obtain ⟨o, l⟩ := ol
      rw [el] at q
      obtain ⟨f, ef, q⟩ := Post.opt q
      obtain ⟨c, ec, ef⟩ := Option.bind_eq_some_iff.mp ef
      obtain ⟨v, Ai, ez, ro, oA, r2⟩ := lend_at rel (lentAt_some el)
      have at_ : ∃ a dx gs, c < T.nc ∧ v = .ref a ∧ H a = some (.ins (T.cA c) dx gs) ∧ gs.lookup x = none := by
        cases o with
        | d y => cases y with
          | ins c' fs =>
            have e' : c' = c := Option.some.inj ec
            subst e'
            obtain ⟨_, a, dx, gs, hc, ey, ea, rf⟩ := ro
            exact ⟨a, dx, gs, hc, ey, oA.fH _ _ ea, RDf.no M.no rf⟩
          | _ => cases ec
        | ins c' fs =>
          have e' : c' = c := Option.some.inj ec
          subst e'
          obtain ⟨a, dx, gs, B, hc, ey, _, ea, rf⟩ := ro
          exact ⟨a, dx, gs, hc, ey, ea, ROf.no M.no rf⟩
        | _ => cases ec
      obtain ⟨a, dx, gs, hc, ey, ea, lo⟩ := at_
      subst ey
      obtain ⟨hm, FD⟩ := M.at_ c f hc ef
      refine PySem.W.methodCall_KW (thn ((pe_var hN hv hd hcd (pos := npos)).run pins s z H (fun u H1 => u = .ref a ∧ H1 = H) I ⟨_, ez, rfl, rfl⟩) fun u s1 ⟨y, H1, I1, ry, ey, eH⟩ => ?_) (mc_tree rfl hs hn hl)
      subst ey eH
      obtain rfl : u = Value.ref a := ry
      refine getmeth_ok I1 ea (ok.cls c hc) hm lo ?_
      cases hh : (modesOf G f).head? with
      | none => rw [hh] at q; exact q.elim
      | some md => cases md with
        | val => rw [hh] at q; exact q.elim
        | lend =>
          rw [hh] at q
          refine (ha c f ef).run (.ref (fA f)) [.ref a] pos hm.kp pins s1 z H1 _ _ I1 (RA.bindL r2 q fun F2 H2 σ2 s r => r.weak oA.nP) fun vs us s' H' I' r ⟨F2, σ2, p, s2, arg, q2⟩ => ?_
          refine wpAny_call (run_z FD hr tk I' (us := .ref a :: us) (vs := .ref a :: vs) (.cons rfl r) (call_ok (p := (.lent o :: p.1, some (i, l) :: p.2)) (ArgR.lend ro oA s2 arg fun i' l' e' => ?_) q2))
          injection e' with e'
          injection e' with e1 e2
          rw [← e1]
          exact ez⟩
/-! ### instances made -/
theorem frz_c {P F H : Hp} {C : List Addr} {o : O} {u : V} {B : List Addr} (r : RO T F H o u B) (ow : Own P F H (B ++ C)) : Same F (plus F H B) ∧ RD T (plus F H B) o.frz u ∧ Own P (plus F H B) H C := by
  have oB : Own P F H B := ow.le fun a => by rw [List.count_append]; omega
  have oC : Own P F H C := ow.le fun a => by rw [List.count_append]; omega
  have sf : Same F (plus F H B) := same_plus oB.nF
  have dj : ∀ a ∈ C, a ∉ B := fun a m m' => by
    have h1 := List.count_pos_iff.mpr m
    have h2 := List.count_pos_iff.mpr m'
    have h3 := ow.nd a
    rw [List.count_append] at h3
    omega
  refine ⟨sf, r.frz sf fun a m q e => by rw [plus_in m]; exact e, oC.nd, oC.nP, fun a m => plus_none (oC.nF a m) (dj a m), oC.pH, plus_same oC.fH, fun a q e => ?_⟩
  refine plus_none (oC.pF a q e) fun m => ?_
  rw [oB.nP a m] at e
  cases e
theorem make_ok {P F H : Hp} {σ : Fr} {z : L2.St} {p : List Sl × List (Option (Nat × Bool))} {vs : List V} {c : Nat} {C : ClsI} {Q : VK} (hc : c < T.nc) (eC : G.clss[c]? = some C) (h : ArgR T P z F H σ p vs) (q : Post T RX W P z F Q (makeV G cl c p.1 p.2 σ)) :
    ∀ x dx, H x = none → H dx = none → dx ≠ x → spD T RX cl C.init (V.ref x :: vs) (upd (upd H dx (.own x)) x (.ins (T.cA c) dx [])) (fun v H2 => v = .non ∧ Q (.ref x) H2) fun c d H' => W c d z H' := by
  intro x dx nx nd ne
  obtain ⟨A, B, h1, h2, o, bk⟩ := h
  have up : ∀ a q, H a = some q → upd (upd H dx (.own x)) x (.ins (T.cA c) dx []) a = some q := fun a q e => by
    rw [upd_ne (fun k => by rw [k, nx] at e; cases e), upd_ne (fun k => by rw [k, nd] at e; cases e)]
    exact e
  have sm : Same H (upd (upd H dx (.own x)) x (.ins (T.cA c) dx [])) := up
  have oA : Own P F H A := o.le fun a => by rw [List.count_append]; omega
  have oB : Own P F H B := o.le fun a => by rw [List.count_append]; omega
  have dj : ∀ a ∈ B, a ∉ A := fun a m m' => by
    have k1 := List.count_pos_iff.mpr m
    have k2 := List.count_pos_iff.mpr m'
    have k3 := o.nd a
    rw [List.count_append] at k3
    omega
  have xA : x ∉ A := fun m => by obtain ⟨q, e⟩ := h1.there x m; rw [nx] at e; cases e
  have xB : x ∉ B := fun m => by obtain ⟨q, e⟩ := h2.there x m; rw [nx] at e; cases e
  have Px : P x = none := by cases e : P x with
    | none => rfl
    | some q => have := oA.pH x q e; rw [nx] at this; cases this
  have Fx : F x = none := by cases e : F x with
    | none => rfl
    | some q => have := oA.fH x q e; rw [nx] at this; cases this
  have r0 : RO T F (upd (upd H dx (.own x)) x (.ins (T.cA c) dx [])) (.ins c []) (.ref x) [x] := ⟨x, dx, [], [], hc, rfl, rfl, upd_same, rfl, rfl⟩
  refine ⟨plus P H A, F, .lent (.ins c []) :: p.1, x :: B, ⟨_, _, [x], B, rfl, rfl, r0, h2.mono (Same.refl _) fun a _ q e => up a q e⟩, ⟨fun a => ?_, fun a m => ?_, fun a m => ?_, (plus_same oA.pH).trans sm, oA.fH.trans sm, fun a q e => ?_⟩, ?_⟩
  · rw [List.count_cons]
    have := oB.nd a
    by_cases k : x = a
    · subst k
      have : B.count x = 0 := List.count_eq_zero.mpr xB
      rw [this]
      split <;> omega
    · rw [if_neg (by simpa using k)]
      omega
  · rcases List.mem_cons.mp m with e | m
    · rw [e]; exact plus_none Px xA
    · exact plus_none (oB.nP a m) (dj a m)
  · rcases List.mem_cons.mp m with e | m
    · rw [e]; exact Fx
    · exact oB.nF a m
  · by_cases m : a ∈ A
    · exact oA.nF a m
    · rw [plus_out m] at e
      exact oA.pF a q e
  have q : Post T RX W P z F Q (match cl C.init (.lent (.ins c []) :: p.1) with
    | .ret (.d .non) (o :: ls) => opt (giveBack σ p.2 ls) fun σ => .ok (if C.frz then .d o.frz else .o o) σ
    | .exc x (_ :: ls) => opt (giveBack σ p.2 ls) fun σ => .exc x σ
    | _ => .bad) := by
    have q' := q
    unfold makeV at q'
    rw [eC] at q'
    exact q'
  have sA : AtA H (upd (upd H dx (.own x)) x (.ins (T.cA c) dx [])) A := fun a _ q e => up a q e
  revert q
  generalize cl C.init (.lent (.ins c []) :: p.1) = r
  intro q
  have keep : ∀ {F1 H1 : Hp} {B1 : List Addr}, Same F F1 → Own (plus P H A) F1 H1 B1 → RSl T F1 H1 σ z A ∧ Own P F1 H1 (A ++ B1) := fun {F1 H1 B1} s o1 => by
    obtain ⟨at_, o2⟩ := kept_of oA h1.there o1
    exact ⟨h1.mono s at_, o2⟩
  cases r with
  | bad => exact q.elim
  | ret v ls =>
    cases v with
    | d y => cases y with
      | non => cases ls with
        | nil => exact q.elim
        | cons o' ls =>
          rintro F1 H1 u s ⟨w, B1, C1, ew, rw_, rl, o1⟩
          have ew : O.d .non = w := Option.some.inj ew
          subst ew
          obtain ⟨rC, ru⟩ := rw_
          subst rC
          obtain ⟨v', lv, A1, A2, ev, eA, ro, rl⟩ := rl
          injection ev with e1 e2
          subst e1 e2 eA
          refine ⟨ru, ?_⟩
          obtain ⟨σ', e', q⟩ := Post.opt (show Post T RX W P z F Q (opt (giveBack σ p.2 ls) fun σ => .ok (if C.frz then .d o'.frz else .o o') σ) from q)
          obtain ⟨h', o2⟩ := keep s o1
          obtain ⟨A', h3, o3⟩ := give_ok (C := A1) h' rl (o2.le fun a => by simp only [List.count_append, List.nil_append]; omega) bk e'
          cases hf : C.frz with
          | true =>
            rw [hf] at q
            obtain ⟨s2, rd, o4⟩ := frz_c ro o3
            exact q _ H1 (.ref x) (s.trans s2) ⟨o4.rel (h3.mono s2 fun _ _ _ e => e), rd⟩
          | false =>
            rw [hf] at q
            exact q F1 H1 (.ref x) s (relV_of (o := o') h3 rfl ro o3)
      | _ => exact q.elim
    | _ => exact q.elim
  | exc y ls =>
    cases ls with
    | nil => exact q.elim
    | cons o' ls =>
      rintro F1 H1 c' d s ⟨B1, rl, o1⟩ rx
      obtain ⟨v', lv, A1, A2, ev, eA, ro, rl⟩ := rl
      injection ev with e1 e2
      subst e1 e2 eA
      obtain ⟨σ', e', q⟩ := Post.opt (show Post T RX W P z F Q (opt (giveBack σ p.2 ls) fun σ => .exc y σ) from q)
      obtain ⟨h', o2⟩ := keep s o1
      obtain ⟨A', h3, o3⟩ := give_ok (C := []) h' rl (o2.le fun a => by simp only [List.count_append, List.nil_append]; omega) bk e'
      exact q F1 H1 c' d s (o3.rel h3) rx
/-- C(..) at a state -/
theorem run_mkz {k : Nat} {f C : Addr} {sp : Sp} {pins : List (Addr × Obj)} {z : L2.St} {H : Hp} {s : Shared} {Q : VK} {us : List Value} {vs : List V} (M : Mk X.K C f) (F : FnR X.prog X.w X.K X.mg X.base (L2.CX X.prog X.w) k f sp) (hr : Room (k + 1) X.A) (tk : Takes X W) (I : Inv X pins z H s) (r : Vals vs us)
    (h : ∀ x dx, H x = Option.none → H dx = Option.none → dx ≠ x → sp (V.ref x :: vs) (upd (upd H dx (.own x)) x (.ins C dx [])) (fun v H2 => v = .non ∧ Q (.ref x) H2) fun c d H' => W c d z H') :
    wpAny (model X.prog X.w) X.A (call (.ref C) us) (EP X pins z Q) X.xe s := by
  have hq := h (s.heap.objs.size + 1) s.heap.objs.size (I.hok.fresh (Nat.le_succ _)) (I.hok.fresh (Nat.le_refl _)) (Nat.ne_of_lt (Nat.lt_succ_self _))
  have I2 := Inv.made (C := C) I
  have r2 : Vals (V.ref (s.heap.objs.size + 1) :: vs) (Value.ref (s.heap.objs.size + 1) :: us) := .cons rfl r
  refine wpAny_call (make_map (f := f) I.kIn M.makes M.init (beq_iff_eq.mp M.fn) (codeAny_mono (F _ X.stack _ _ (Value.ref (s.heap.objs.size + 1) :: us) _ _ _ (hr.make C us []) (I2.env0.make C us []) r2 hq) fun r s' hq' => ?_))
  cases r with
  | error e => exact tk e s' (XE.of_call I2 (fun _ _ _ h => h) hq')
  | ok fl =>
    cases fl with
    | ret u =>
      obtain ⟨v, H', I3, rv, ev, q3⟩ := I2.after hq'
      subst ev
      exact ⟨rv, ⟨V.ref (s.heap.objs.size + 1), H', I3, rfl, q3⟩⟩
    | next => exact False.elim hq'
    | brk => exact False.elim hq'
    | cont => exact False.elim hq'
theorem se_make {k c : Nat} {fA : Nat → Addr} {x : PySem.Str} {p pos : Pos} {es : List Expr} {as : Es} {C : ClsI} (hc : c < T.nc) (eC : G.clss[c]? = some C) (M : Mk X.K (T.cA c) (fA C.init)) (F : FnD X T RX cl k (fA C.init) C.init) (hr : Room (k + 1) X.A) (tk : Takes X W)
    (hg : Gl X x) (hm : X.mg x = some (.ref (T.cA c))) (hd : (x == ("__debug__" : PySem.Str)) = false) (ha : PArgs X es (RA T RX W (evAs G cl (modesOf G C.init).tail as))) : SE T RX W G cl X (.Call (.Name x p) es [] pos) (.make c as) :=
  SE.of (m := fun σ => (evAs G cl (modesOf G C.init).tail as σ).bind fun p σ => makeV G cl c p.1 p.2 σ) (fun _ => rfl) (fun md σ => by show (opt G.clss[c]? _).bind _ = _; rw [eC]; rfl) ⟨fun pins s z H Q I ⟨P, F0, σ, rel, q⟩ => by
    refine wpAny_Call_Name_kw (ld_glob I hg hm ?_ hd)
    refine ha.run (.ref (T.cA c)) [] pos M.kp pins s z H _ _ I (RA.bind rel q) fun vs us s' H' I' r ⟨F1, σ1, p, s1, arg, q1⟩ => ?_
    exact run_mkz M F hr tk I' r (make_ok hc eC arg q1)⟩
end
end Tf
end
section
set_option Elab.async false
set_option linter.all false
set_option maxRecDepth 100000
/-! Soundness, part 5: displays, operators. -/
namespace Tf
open PySem PySem.Spec PyProof.Rows L2
/-- the items of a display -/
def EvR (T : Tb) (P : Hp) (z : L2.St) (F H : Hp) (σ : Fr) (os : List O) (us : List V) : Prop := ∃ A B, RSl T F H σ z A ∧ ROs T F H os us B ∧ Own P F H (B ++ A)
def RV (T : Tb) (RX : XR) (W : WX) (m : Fr → Res (List O)) : TA := fun z H Q => ∃ P F σ, Rel T P F H σ z ∧ PostA T RX W P z F (EvR T P z) Q (m σ)
section
variable {T : Tb} {RX : XR} {W : WX} {X : Cx} {G : Prog} {cl : Call} {md : Md}
theorem plus_nil {P H : Hp} : plus P H [] = P := by
  funext a
  exact plus_out (by intro h; cases h)
/-- a value that is kept: others own it for a while -/
theorem RelV.asO {P F H : Hp} {σ : Fr} {z : L2.St} {v : Val} {u : V} {o : O} (h : RelV T P F H σ z v u) (e : asO v = some o) : ∃ B, RO T F H o u B ∧ Own P F H B ∧ Rel T (plus P H B) F H σ z := by
  cases v with
  | d x =>
    have e' : O.d x = o := Option.some.inj e
    subst e'
    obtain ⟨⟨A, k⟩, r⟩ := h
    exact ⟨[], ⟨rfl, r⟩, k.own.le fun a => by simp, by rw [plus_nil]; exact ⟨A, k⟩⟩
  | o o' =>
    have e' : o' = o := Option.some.inj e
    subst e'
    obtain ⟨A, B, k⟩ := h
    have ow : Own P F H (B ++ A) := ⟨nd_count.mp k.nd, k.nP, k.nF, k.pH, k.fH, k.pF⟩
    have oB : Own P F H B := ow.le fun a => by rw [List.count_append]; omega
    have oA : Own P F H A := ow.le fun a => by rw [List.count_append]; omega
    have dj : ∀ a ∈ A, a ∉ B := fun a m m' => by
      have k1 := List.count_pos_iff.mpr m
      have k2 := List.count_pos_iff.mpr m'
      have k3 := ow.nd a
      rw [List.count_append] at k3
      omega
    refine ⟨B, k.o, oB, Own.rel ⟨oA.nd, fun a m => plus_none (oA.nP a m) (dj a m), oA.nF, plus_same k.pH, k.fH, fun a q e => ?_⟩ k.s⟩
    by_cases m : a ∈ B
    · exact oB.nF a m
    · rw [plus_out m] at e
      exact k.pF a q e
  | b i o => cases e
theorem EvR.nil {P F H : Hp} {σ : Fr} {z : L2.St} (h : Rel T P F H σ z) : EvR T P z F H σ [] [] := by
  obtain ⟨A, k⟩ := h
  exact ⟨A, [], k.s, ⟨rfl, rfl⟩, k.own⟩
theorem EvR.cons {P F H F2 H2 : Hp} {σ2 : Fr} {z : L2.St} {os : List O} {us : List V} {o : O} {u : V} {B : List Addr} (ro : RO T F H o u B) (oB : Own P F H B) (s : Same F F2) (h : EvR T (plus P H B) z F2 H2 σ2 os us) : EvR T P z F2 H2 σ2 (o :: os) (u :: us) := by
  obtain ⟨A, C, h1, h2, ow⟩ := h
  obtain ⟨at_, o3⟩ := kept_of oB ro.there ow
  exact ⟨A, B ++ C, h1, ⟨u, us, B, C, rfl, rfl, RO.mono s at_ ro, h2⟩, by rw [List.append_assoc]; exact o3⟩
theorem EvR.ds {P F H : Hp} {σ : Fr} {z : L2.St} {os : List O} {us : List V} (h : EvR T P z F H σ os us) : ∀ {xs : List D} {vs : List V}, RDs T F xs vs → EvR T P z F H σ (xs.map O.d ++ os) (vs ++ us)
  | [], _, r => by have r' : _ = [] := r; subst r'; exact h
  | x :: xs, _, r => by
    obtain ⟨v, s, e, r1, r2⟩ := r
    subst e
    obtain ⟨A, C, h1, h2, ow⟩ := EvR.ds h r2
    exact ⟨A, C, h1, ⟨v, _, [], C, rfl, rfl, ⟨rfl, r1⟩, h2⟩, ow⟩
theorem EvR.rel {P F H : Hp} {σ : Fr} {z : L2.St} {os : List O} {us : List V} (h : EvR T P z F H σ os us) : Rel T P F H σ z := by
  obtain ⟨A, B, h1, h2, o⟩ := h
  exact (o.le fun a => by rw [List.count_append]; omega).rel h1
/-- all as data -/
theorem EvR.frz {P F H : Hp} {σ : Fr} {z : L2.St} {os : List O} {us : List V} (h : EvR T P z F H σ os us) : ∃ F', Same F F' ∧ Rel T P F' H σ z ∧ RDs T F' (O.frzL os) us := by
  obtain ⟨A, B, h1, h2, ow⟩ := h
  have oB : Own P F H B := ow.le fun a => by rw [List.count_append]; omega
  have oA : Own P F H A := ow.le fun a => by rw [List.count_append]; omega
  have sf : Same F (plus F H B) := same_plus oB.nF
  have dj : ∀ a ∈ A, a ∉ B := fun a m m' => by
    have k1 := List.count_pos_iff.mpr m
    have k2 := List.count_pos_iff.mpr m'
    have k3 := ow.nd a
    rw [List.count_append] at k3
    omega
  refine ⟨plus F H B, sf, Own.rel ⟨oA.nd, oA.nP, fun a m => plus_none (oA.nF a m) (dj a m), oA.pH, plus_same oA.fH, fun a q e => ?_⟩ (h1.mono sf fun _ _ _ e => e), ROs.frz h2 sf fun a m q e => by rw [plus_in m]; exact e⟩
  refine plus_none (oA.pF a q e) fun m => ?_
  rw [oB.nP a m] at e
  cases e
theorem pv_nil : PA X [] (RV T RX W (evs G cl .nil)) := impA pa_nil fun z H Q ⟨P, F, σ, rel, q⟩ => q F H [] (Same.refl _) (.nil rel)
theorem RV.tail {m : Fr → Res (List O)} {f : List O → List O} {z : L2.St} {H : Hp} {Q Q' : List V → Hp → Prop} {P P' F : Hp} {σ : Fr} (rel : Rel T P' F H σ z)
    (h : PostA T RX W P z F (EvR T P z) Q ((m σ).map f)) (hx : ∀ F2 H2 σ2, Same F F2 → Rel T P' F2 H2 σ2 z → Rel T P F2 H2 σ2 z)
    (k : ∀ F2 H2 σ2 p vs, Same F F2 → EvR T P' z F2 H2 σ2 p vs → (∀ vs', EvR T P z F2 H2 σ2 (f p) vs' → Q vs' H2) → Q' vs H2) : RV T RX W m z H Q' := by
  refine ⟨P', F, σ, rel, ?_⟩
  revert h
  generalize m σ = r
  intro h
  cases r with
  | ok p σ1 => exact fun F2 H2 vs s a => k F2 H2 σ1 p vs s a fun vs' a' => h F2 H2 vs' s a'
  | exc x σ1 => exact fun F2 H2 c d s r rx => h F2 H2 c d s (hx F2 H2 σ1 s r) rx
  | bad => exact h
theorem pv_cons {e : Expr} {es : List Expr} {ee : E} {er : Es} (ha : SE T RX W G cl X e ee) (hr : PA X es (RV T RX W (evs G cl er))) (hs : isStar e = false) : PA X (e :: es) (RV T RX W (evs G cl (.cons false ee er))) := by
  refine impA (pa_cons ha.v hr (star_of hs)) fun z H Q ⟨P, F, σ, rel, q⟩ => ?_
  have q : PostA T RX W P z F (EvR T P z) Q ((ev G cl .val ee σ).bind fun v σ => opt (asO v) fun o => (evs G cl er σ).map fun os => o :: os) := q
  refine ⟨P, F, σ, rel, ?_⟩
  revert q
  generalize ev G cl .val ee σ = r
  intro q
  cases r with
  | exc x σ1 => exact q
  | bad => exact q
  | ok v σ1 =>
    intro F1 H1 u s rv
    have q : PostA T RX W P z F (EvR T P z) Q (opt (asO v) fun o => (evs G cl er σ1).map fun os => o :: os) := q
    cases eo : asO v with
    | none => rw [eo] at q; exact q.elim
    | some o =>
      rw [eo] at q
      obtain ⟨B, ro, oB, rel1⟩ := rv.asO eo
      exact RV.tail rel1 (PostA.later s q) (fun _ _ _ _ r => r.weak oB.nP) fun F2 H2 σ2 os us s2 a q2 => q2 _ (EvR.cons ro oB s2 a)
theorem pv_star {e : Expr} {es : List Expr} {sp : Pos} {ee : E} {er : Es} (ha : SE T RX W G cl X e ee) (hr : PA X es (RV T RX W (evs G cl er))) : PA X (.Starred e sp :: es) (RV T RX W (evs G cl (.cons true ee er))) := by
  refine impA (StX.pa_star ha.p hr rfl) fun z H Q ⟨P, F, σ, rel, q⟩ => ?_
  have q : PostA T RX W P z F (EvR T P z) Q ((ev G cl .pk ee σ).bind fun v σ => opt (itemsV v) fun xs => (evs G cl er σ).map fun os => xs.map O.d ++ os) := q
  refine ⟨P, F, σ, rel, ?_⟩
  revert q
  generalize ev G cl .pk ee σ = r
  intro q
  cases r with
  | exc x σ1 => exact q
  | bad => exact q
  | ok v σ1 =>
    intro F1 H1 u s rv
    have q : PostA T RX W P z F (EvR T P z) Q (opt (itemsV v) fun xs => (evs G cl er σ1).map fun os => xs.map O.d ++ os) := q
    cases ex : itemsV v with
    | none => rw [ex] at q; exact q.elim
    | some xs =>
      rw [ex] at q
      obtain ⟨a, vs, eu, sq, rx⟩ := items_of (K := X.K) rv ex
      exact ⟨a, vs, eu, sq, RV.tail rv.rel (PostA.later s q) (fun _ _ _ _ r => r) fun F2 H2 σ2 os us s2 a q2 => q2 _ (a.ds (rx.mono s2))⟩
theorem RV.bind {m : Fr → Res (List O)} {f : List O → Fr → Res Val} {z : L2.St} {H : Hp} {Q : VK} {P F : Hp} {σ : Fr} (rel : Rel T P F H σ z) (h : Post T RX W P z F Q ((m σ).bind f)) :
    RV T RX W m z H fun vs H1 => ∃ F1 σ1 p, Same F F1 ∧ EvR T P z F1 H1 σ1 p vs ∧ Post T RX W P z F1 Q (f p σ1) := by
  refine ⟨P, F, σ, rel, ?_⟩
  revert h
  generalize m σ = r
  intro h
  cases r with
  | ok v σ1 => exact fun F1 H1 u s k => ⟨F1, σ1, v, s, k, Post.later s h⟩
  | exc x σ1 => exact h
  | bad => exact h
/-! ### something new -/
theorem same_upd {H : Hp} {p : Addr} {o : HO} (h : H p = none) : Same H (upd H p o) := fun a q e => by
  rw [upd_ne (fun k => by rw [k, h] at e; cases e)]
  exact e
theorem upd_same2 {F H : Hp} {p : Addr} {o : HO} (h : Same F H) : Same (upd F p o) (upd H p o) := fun a q e => by
  by_cases k : a = p
  · subst k
    rw [upd_same] at e ⊢
    exact e
  · rw [upd_ne k] at e ⊢
    exact h a q e
/-- a new thing, frozen at once -/
theorem Own.newF {P F H : Hp} {A : List Addr} {p : Addr} {o : HO} (ow : Own P F H A) (th : ∀ a ∈ A, ∃ q, H a = some q) (np : H p = none) : Own P (upd F p o) (upd H p o) A := by
  have nA : p ∉ A := fun m => by obtain ⟨q, e⟩ := th p m; rw [np] at e; cases e
  refine ⟨ow.nd, ow.nP, fun a m => ?_, ow.pH.trans (same_upd np), upd_same2 ow.fH, fun a q e => ?_⟩
  · rw [upd_ne (fun k => nA (by rw [← k]; exact m))]
    exact ow.nF a m
  · rw [upd_ne (fun k => ?_)]
    · exact ow.pF a q e
    · have := ow.pH a q e
      rw [k, np] at this
      cases this
theorem fnone {F H : Hp} {p : Addr} (h : Same F H) (n : H p = none) : F p = none := by
  cases e : F p with
  | none => rfl
  | some q => have := h p q e; rw [n] at this; cases this
theorem Rel.newF {P F H : Hp} {σ : Fr} {z : L2.St} {p : Addr} {o : HO} (h : Rel T P F H σ z) (np : H p = none) : Same F (upd F p o) ∧ Rel T P (upd F p o) (upd H p o) σ z := by
  obtain ⟨A, k⟩ := h
  have sf : Same F (upd F p o) := same_upd (fnone k.fH np)
  exact ⟨sf, (k.own.newF k.s.there np).rel (k.s.mono sf fun a _ q e => same_upd np a q e)⟩
/-- .. one's own -/
theorem Own.newO {P F H : Hp} {A : List Addr} {p : Addr} {o : HO} (ow : Own P F H A) (th : ∀ a ∈ A, ∃ q, H a = some q) (np : H p = none) : Own P F (upd H p o) (p :: A) := by
  have nA : p ∉ A := fun m => by obtain ⟨q, e⟩ := th p m; rw [np] at e; cases e
  refine ⟨fun a => ?_, fun a m => ?_, fun a m => ?_, ow.pH.trans (same_upd np), ow.fH.trans (same_upd np), ow.pF⟩
  · rw [List.count_cons]
    have := ow.nd a
    by_cases k : p = a
    · subst k
      have : A.count p = 0 := List.count_eq_zero.mpr nA
      rw [this]
      split <;> omega
    · rw [if_neg (by simpa using k)]
      omega
  · rcases List.mem_cons.mp m with e | m
    · rw [e]; exact fnone ow.pH np
    · exact ow.nP a m
  · rcases List.mem_cons.mp m with e | m
    · rw [e]; exact fnone ow.fH np
    · exact ow.nF a m
theorem EvR.lst {P F H : Hp} {σ : Fr} {z : L2.St} {os : List O} {us : List V} {p : Addr} (h : EvR T P z F H σ os us) (np : H p = none) : RelV T P F (upd H p (.lst us)) σ z (.o (.lst os)) (.ref p) := by
  obtain ⟨A, B, h1, h2, ow⟩ := h
  have th : ∀ a ∈ B ++ A, ∃ q, H a = some q := fun a m => (List.mem_append.mp m).elim (h2.there a) (h1.there a)
  have o2 := ow.newO (o := .lst us) th np
  exact relV_of (o := .lst os) (C := p :: B) (h1.mono (Same.refl _) fun a _ q e => same_upd np a q e) rfl ⟨p, us, B, rfl, rfl, upd_same, ROs.mono (Same.refl _) (fun a _ q e => same_upd np a q e) h2⟩ o2
theorem EvR.lstV {P F H : Hp} {σ : Fr} {z : L2.St} {os : List O} {us : List V} {p : Addr} {own : Bool} (h : EvR T P z F H σ os us) (np : H p = none) : ∃ F', Same F F' ∧ RelV T P F' (upd H p (.lst us)) σ z (lstV own os) (.ref p) := by
  cases own with
  | true => exact ⟨F, Same.refl _, h.lst np⟩
  | false =>
    obtain ⟨F', s, rel, rs⟩ := h.frz
    obtain ⟨s2, rel2⟩ := rel.newF (o := .lst us) np
    exact ⟨_, s.trans s2, rel2, p, us, rfl, upd_same, rs.mono s2⟩
theorem ROs_frz_len : ∀ {os : List O}, (O.frzL os).length = os.length
  | [] => rfl
  | o :: os => by show (o.frz :: O.frzL os).length = _; rw [List.length_cons, List.length_cons, ROs_frz_len]
theorem EvR.len {P F H : Hp} {σ : Fr} {z : L2.St} {os : List O} {us : List V} (h : EvR T P z F H σ os us) : os.length = us.length := by
  obtain ⟨A, B, h1, h2, ow⟩ := h
  exact h2.len
theorem se_tup {es : List Expr} {as : Es} {x1 : Nat} {pos : Pos} (ha : PA X es (RV T RX W (evs G cl as))) : SE T RX W G cl X (.Tuple es x1 pos) (.tup as) :=
  SE.of (fun _ => rfl) (fun _ _ => rfl) (impE (pe_tup ha) fun z H Q ⟨P, F, σ, rel, q⟩ => by
    refine (fun (h : RV T RX W (evs G cl as) z H fun us H1 => ∃ F1 σ1 os, Same F F1 ∧ EvR T P z F1 H1 σ1 os us ∧ Post T RX W P z F1 Q (if os.length ≤ lineN then .ok (.d (.tup (O.frzL os))) σ1 else .bad)) => ?_) (RV.bind rel q)
    obtain ⟨P', F', σ', rel', q'⟩ := h
    refine ⟨P', F', σ', rel', ?_⟩
    revert q'
    generalize evs G cl as σ' = r
    intro q'
    cases r with
    | exc x σ1 => exact q'
    | bad => exact q'
    | ok os σ1 =>
      intro F2 H2 us s2 ev2
      obtain ⟨F1, σ1, os, s, ev1, q1⟩ := q' F2 H2 us s2 ev2
      by_cases c : os.length ≤ lineN
      · rw [if_pos c] at q1
        refine ⟨by rw [← ev1.len]; exact c, fun p np => ?_⟩
        obtain ⟨F', s, rel, rs⟩ := ev1.frz
        obtain ⟨s2, rel2⟩ := rel.newF (o := .tup us) np
        exact q1 _ _ (.ref p) (s.trans s2) ⟨rel2, p, us, rfl, upd_same, rs.mono s2⟩
      · rw [if_neg c] at q1
        exact q1.elim)
theorem RV.mono {m : Fr → Res (List O)} {z : L2.St} {H : Hp} {Q Q' : List V → Hp → Prop} (h : RV T RX W m z H Q) (k : ∀ u H, Q u H → Q' u H) : RV T RX W m z H Q' := by
  obtain ⟨P, F, σ, rel, q⟩ := h
  refine ⟨P, F, σ, rel, ?_⟩
  revert q
  generalize m σ = r
  intro q
  cases r with
  | ok v σ1 => exact fun F H u s k' => k u H (q F H u s k')
  | exc x σ1 => exact q
  | bad => exact q
theorem se_lst {es : List Expr} {as : Es} {own : Bool} {pos : Pos} (ha : PA X es (RV T RX W (evs G cl as))) : SE T RX W G cl X (.List es pos) (.lst own as) :=
  SE.of (fun _ => rfl) (fun _ _ => rfl) (impE (pe_lst ha) fun z H Q ⟨P, F, σ, rel, q⟩ => by
    refine RV.mono (RV.bind rel q) fun us H1 ⟨F1, σ1, os, s, ev1, q1⟩ => ?_
    by_cases c : os.length ≤ lineN
    · rw [if_pos c] at q1
      refine ⟨by rw [← ev1.len]; exact c, fun p np => ?_⟩
      obtain ⟨F', s, rv⟩ := ev1.lstV (own := own) np
      exact q1 _ _ (.ref p) s rv
    · rw [if_neg c] at q1
      exact q1.elim)
/-! ### operators -/
/-- a binary operator's rule serves what the evaluator says -/
def BinOk (X : Cx) (T : Tb) (RX : XR) (W : WX) (G : Prog) (cl : Call) (op : Bop) (o : Operator) : Prop :=
  ∀ (pins : List (Addr × Obj)) (s : Shared) (P F H : Hp) (σ : Fr) (z : L2.St) (x y : D) (u1 u2 : V) (v1 v2 : Value) (Q : VK), Inv X pins z H s → L2.RelV u1 v1 → L2.RelV u2 v2 → Rel T P F H σ z → RD T F x u1 → RD T F y u2 →
    Post T RX W P z F Q (binV G cl op x y σ) → wpAny (model X.prog X.w) X.A (binaryOp o v1 v2) (EP X pins z Q) X.xe s
theorem se_bin {a b : Expr} {ea eb : E} {op : Bop} {o : Operator} {pos : Pos} (ok : BinOk X T RX W G cl op o) (ha : SE T RX W G cl X a ea) (hb : SE T RX W G cl X b eb) : SE T RX W G cl X (.BinOp a o b pos) (.bin op ea eb) :=
  SE.of (fun _ => rfl) (fun _ _ => rfl) ⟨fun pins s z H Q I ⟨P, F, σ, rel, q⟩ =>
    wpAny_BinOp (binT ha.v hb.v I (R.two rel q) fun v1 v2 s2 u1 u2 H2 I2 r1 r2 ⟨F2, σ2, x, y, rel2, rx, ry, q2⟩ => ok pins s2 P F2 H2 σ2 z x y u1 u2 v1 v2 Q I2 r1 r2 rel2 rx ry q2)⟩
/-- what an own operator asks of the text -/
def OwnBin (X : Cx) (T : Tb) (RX : XR) (G : Prog) (cl : Call) (k : Nat) (fA : Nat → Addr) (m : Nat) (nm : String) : Prop :=
  ∀ c f, c < T.nc → G.meth c m = some f → PySem.W.findIn X.K (.ref (T.cA c)) (PySem.dunder nm) = some (some (.ref (fA f))) ∧ PySem.W.isFn X.K (.ref (fA f)) = true ∧ PySem.W.selfFirst X.K (T.cA c) = true ∧ FnD X T RX cl k (fA f) f
theorem cmpBack_of {pins : List (Addr × Obj)} {z : L2.St} {Q : VK} {u : Value} {s : Shared} (h : EP X pins z Q u s) : PySem.W.CmpBack (EP X pins z Q) u s := by
  obtain ⟨v, H, I, r, q⟩ := h
  have h : EP X pins z Q u s := ⟨v, H, I, r, q⟩
  cases u <;> first | exact h | skip
  cases v <;> first | (obtain ⟨_, r⟩ := r; exact absurd r (by intro h; cases h)) | exact absurd (show Value.notImplemented = _ from r) (by intro h; cases h)
theorem inst_at {pins : List (Addr × Obj)} {z : L2.St} {H : Hp} {s : Shared} {a C dx : Addr} {gs : List (PySem.Str × V)} (I : Inv X pins z H s) (e : H a = some (.ins C dx gs)) : ∃ ox od, PySem.W.InstAt s.heap a ox C od := by
  obtain ⟨mA, O, _⟩ := ins_get I.hok e
  obtain ⟨od, J, _⟩ := O.look
  exact ⟨_, _, J⟩
/-- what is handed to an own operator -/
theorem arg_ds {P F H : Hp} {σ : Fr} {z : L2.St} (rel : Rel T P F H σ z) {xs : List D} {us : List V} (r : RDs T F xs us) : ArgR T P z F H σ (xs.map owned, []) us := by
  have := (ArgR.nil rel).owns r
  rw [List.append_nil us] at this
  simpa using this
theorem own_bin {k : Nat} {fA : Nat → Addr} {m : Nat} {nm : String} {o : Operator} {pins : List (Addr × Obj)} {s : Shared} {P F H : Hp} {σ : Fr} {z : L2.St} {c c' : Nat} {fs fs' : List (Nat × D)} {u1 u2 : V} {v1 v2 : Value} {Q : VK} (hr : Room k X.A) (tk : Takes X W)
    (hO : OwnBin X T RX G cl k fA m nm) (ho : o.info.2 = nm) (I : Inv X pins z H s) (r1 : L2.RelV u1 v1) (r2 : L2.RelV u2 v2) (rel : Rel T P F H σ z) (rx : RD T F (.ins c fs) u1) (ry : RD T F (.ins c' fs') u2) (hcc : c = c')
    (q : Post T RX W P z F Q (ownCall G cl (.ins c fs) m [.ins c' fs'] σ)) : wpAny (model X.prog X.w) X.A (binaryOp o v1 v2) (EP X pins z Q) X.xe s := by
  subst hcc
  obtain ⟨f, ef, q⟩ := Post.opt (show Post T RX W P z F Q (opt (G.meth c m) fun f => after (cl f (owned (.ins c fs) :: [D.ins c fs'].map owned)) [] σ) from q)
  obtain ⟨a, dx, gs, hc, e1, ea, rf⟩ := id rx
  obtain ⟨b, dy, gs', hc', e2, eb, rf'⟩ := id ry
  subst e1 e2
  obtain rfl : v1 = Value.ref a := r1
  obtain rfl : v2 = Value.ref b := r2
  obtain ⟨A, k1⟩ := id rel
  obtain ⟨h1, h2, h3, FD⟩ := hO c f hc ef
  obtain ⟨ox, od, J⟩ := inst_at I (k1.fH _ _ ea)
  obtain ⟨ox', od', J'⟩ := inst_at I (k1.fH _ _ eb)
  obtain ⟨mm, hF⟩ := I.fr
  refine PySem.W.binop_K hF I.ok.mod.kin J J'.type h3 (by rw [ho]; exact h1) h2 ?_
  refine wpAny_mono (wpAny_call (run_z FD hr tk I (us := [.ref a, .ref b]) (vs := [.ref a, .ref b]) (.cons rfl (.cons rfl .nil)) (call_ok (arg_ds rel (xs := [.ins c fs, .ins c fs']) ⟨_, _, rfl, rx, _, _, rfl, ry, rfl⟩) q))) (fun u s' h => cmpBack_of h) fun _ _ h => h
theorem RDs.append {F : Hp} : ∀ {xs ys : List D} {us vs : List V}, RDs T F xs us → RDs T F ys vs → RDs T F (xs ++ ys) (us ++ vs)
  | [], _, _, _, r, r' => by have e : _ = [] := r; subst e; exact r'
  | x :: xs, ys, _, _, r, r' => by
    obtain ⟨v, s, e, r1, r2⟩ := r
    subst e
    exact ⟨v, s ++ _, rfl, r1, RDs.append r2 r'⟩
theorem RDs.rep {F : Hp} {xs : List D} {us : List V} (r : RDs T F xs us) : ∀ n : Nat, RDs T F (List.replicate n xs).flatten (List.replicate n us).flatten
  | 0 => rfl
  | n + 1 => by
    rw [List.replicate_succ, List.replicate_succ, List.flatten_cons, List.flatten_cons]
    exact r.append (RDs.rep r n)
theorem post_int {P F H : Hp} {σ : Fr} {z : L2.St} {Q : VK} {i : Int} (rel : Rel T P F H σ z) (q : Post T RX W P z F Q (.ok (.d (.int i)) σ)) : Q (.int i) H := q F H _ (Same.refl _) ⟨rel, rfl⟩
theorem post_bl {P F H : Hp} {σ : Fr} {z : L2.St} {Q : VK} {i : Bool} (rel : Rel T P F H σ z) (q : Post T RX W P z F Q (.ok (bl i) σ)) : Q (.bl i) H := q F H _ (Same.refl _) ⟨rel, rfl⟩
theorem post_str {P F H : Hp} {σ : Fr} {z : L2.St} {Q : VK} {i : PySem.Str} (rel : Rel T P F H σ z) (q : Post T RX W P z F Q (.ok (.d (.str i)) σ)) : Q (.str i) H := q F H _ (Same.refl _) ⟨rel, rfl⟩
/-- a new list of data -/
theorem post_lst {P F H : Hp} {σ : Fr} {z : L2.St} {Q : VK} {xs : List D} {us : List V} {p : Addr} (rel : Rel T P F H σ z) (r : RDs T F xs us) (np : H p = none) (q : Post T RX W P z F Q (.ok (.d (.lst xs)) σ)) : Q (.ref p) (upd H p (.lst us)) := by
  obtain ⟨s2, rel2⟩ := rel.newF (o := .lst us) np
  exact q _ _ _ s2 ⟨rel2, p, us, rfl, upd_same, r.mono s2⟩
theorem post_tup {P F H : Hp} {σ : Fr} {z : L2.St} {Q : VK} {xs : List D} {us : List V} {p : Addr} (rel : Rel T P F H σ z) (r : RDs T F xs us) (np : H p = none) (q : Post T RX W P z F Q (.ok (.d (.tup xs)) σ)) : Q (.ref p) (upd H p (.tup us)) := by
  obtain ⟨s2, rel2⟩ := rel.newF (o := .tup us) np
  exact q _ _ _ s2 ⟨rel2, p, us, rfl, upd_same, r.mono s2⟩
theorem bin_d {P F : Hp} {z : L2.St} {Q : VK} {op : Bop} {x y : D} {σ : Fr} (hx : ∀ c fs, x ≠ .ins c fs) (q : Post T RX W P z F Q (binV G cl op x y σ)) : ∃ d, binD op x y = some d ∧ Post T RX W P z F Q (.ok (.d d) σ) := by
  cases x with
  | ins c fs => exact absurd rfl (hx c fs)
  | _ => exact Post.opt (show Post T RX W P z F Q (opt (binD op _ y) fun z => .ok (.d z) σ) from q)
theorem binD_int {op : Bop} {i : Int} {y d : D} (h : binD op (.int i) y = some d) : ∃ j k, y = .int j ∧ binI op i j = some k ∧ d = .int k := by
  cases y with
  | int j =>
    have h : (binI op i j).map D.int = some d := by cases op <;> exact h
    obtain ⟨k, e, e2⟩ := Option.map_eq_some_iff.mp h
    exact ⟨j, k, rfl, e, e2.symm⟩
  | _ => cases op <;> cases h
theorem bin_intR {op : Bop} {o : Operator} {C : Int → Int → Prop} {g : Int → Int → Int} (ho : OpR X (binaryOp o) (rI C fun i j => .int (g i j))) (hI : ∀ i j k, binI op i j = some k → C i j ∧ k = g i j) {pins : List (Addr × Obj)} {s : Shared} {P F H : Hp} {σ : Fr} {z : L2.St} {i : Int} {y : D} {u1 u2 : V} {v1 v2 : Value} {Q : VK}
    (I : Inv X pins z H s) (r1 : L2.RelV u1 v1) (r2 : L2.RelV u2 v2) (rel : Rel T P F H σ z) (rx : RD T F (.int i) u1) (ry : RD T F y u2) (q : Post T RX W P z F Q (binV G cl op (.int i) y σ)) : wpAny (model X.prog X.w) X.A (binaryOp o v1 v2) (EP X pins z Q) X.xe s := by
  obtain ⟨d, ed, q⟩ := bin_d (by intros; intro h; cases h) q
  obtain ⟨j, k, rfl, eI, rfl⟩ := binD_int ed
  obtain ⟨hC, rfl⟩ := hI i j k eI
  exact ho pins s z H u1 u2 v1 v2 Q I r1 r2 ⟨i, j, rx, ry, hC, post_int rel q⟩
theorem rI_of {f : Value → Value → Sem Value} {g : Int → Int → V} (h : OpR X f (rI0 g)) : OpR X f (rI (fun _ _ => True) g) := fun pins s σ H x y v u Q I r1 r2 ⟨i, j, e1, e2, _, q⟩ => h pins s σ H x y v u Q I r1 r2 ⟨i, j, e1, e2, q⟩
theorem own_q {P F : Hp} {z : L2.St} {Q : VK} {op : Bop} {m c : Nat} {fs : List (Nat × D)} {y : D} {σ : Fr} (hm : opm op = some m) (q : Post T RX W P z F Q (binV G cl op (.ins c fs) y σ)) :
    ∃ c' fs', y = .ins c' fs' ∧ c = c' ∧ Post T RX W P z F Q (ownCall G cl (.ins c fs) m [y] σ) := by
  cases y with
  | ins c' fs' =>
    have q : Post T RX W P z F Q (if c = c' then opt (opm op) fun m => ownCall G cl (.ins c fs) m [.ins c' fs'] σ else .bad) := q
    by_cases h : c = c'
    · rw [if_pos h, hm] at q
      exact ⟨c', fs', rfl, h, q⟩
    · rw [if_neg h] at q
      exact q.elim
  | _ => exact (show False from q).elim
theorem bo_sub {k : Nat} {fA : Nat → Addr} (hr : Room k X.A) (tk : Takes X W) (hO : OwnBin X T RX G cl k fA m_sub "sub") : BinOk X T RX W G cl .sub .Sub := by
  intro pins s P F H σ z x y u1 u2 v1 v2 Q I r1 r2 rel rx ry q
  cases x with
  | int i => exact bin_intR (op := .sub) (g := fun i j => i - j) (rI_of op_sub) (fun i j k e => ⟨trivial, (Option.some.inj (show some (i - j) = some k from e)).symm⟩) I r1 r2 rel rx ry q
  | ins c fs =>
    obtain ⟨c', fs', rfl, hc, q⟩ := own_q rfl q
    exact own_bin hr tk hO rfl I r1 r2 rel rx ry hc q
  | _ => obtain ⟨d, ed, _⟩ := bin_d (by intros; intro h; cases h) q; cases y <;> cases ed
theorem ite_some {α : Type} {c : Prop} [Decidable c] {a b : α} (h : (if c then some a else none) = some b) : c ∧ a = b := by
  by_cases k : c
  · rw [if_pos k] at h; exact ⟨k, Option.some.inj h⟩
  · rw [if_neg k] at h; cases h
theorem op_fdivZ : OpR X (binaryOp .FloorDiv) (rI (fun _ j => j ≠ 0 ∧ j.natAbs.log2 < 9000) fun i j => .int (i.fdiv j)) := opI fun _ _ _ _ _ _ _ hc q => floordiv_int hc.1 q (.inl (PyProof.noPylong_of_log2 hc.2))
theorem bo_fdiv : BinOk X T RX W G cl .fdiv .FloorDiv := by
  intro pins s P F H σ z x y u1 u2 v1 v2 Q I r1 r2 rel rx ry q
  cases x with
  | int i => exact bin_intR (op := .fdiv) (g := fun i j => i.fdiv j) op_fdivZ (fun i j k e => have e := ite_some (show (if j ≠ 0 ∧ j.natAbs.log2 < 9000 then some (i.fdiv j) else none) = some k from e); ⟨e.1, e.2.symm⟩) I r1 r2 rel rx ry q
  | ins c fs => cases y <;> first | exact (show False from q).elim | skip
                rename_i c' fs'
                have q : Post T RX W P z F Q (if c = c' then .bad else .bad) := q
                split at q <;> exact q.elim
  | _ => obtain ⟨d, ed, _⟩ := bin_d (by intros; intro h; cases h) q; cases y <;> cases ed
theorem bo_mod : BinOk X T RX W G cl .mod .Mod := by
  intro pins s P F H σ z x y u1 u2 v1 v2 Q I r1 r2 rel rx ry q
  cases x with
  | int i => exact bin_intR (op := .mod) (g := fun i j => i % j) op_mod (fun i j k e => have e := ite_some (show (if 0 < j then some (i % j) else none) = some k from e); ⟨e.1, e.2.symm⟩) I r1 r2 rel rx ry q
  | ins c fs => cases y <;> first | exact (show False from q).elim | skip
                rename_i c' fs'
                have q : Post T RX W P z F Q (if c = c' then .bad else .bad) := q
                split at q <;> exact q.elim
  | _ => obtain ⟨d, ed, _⟩ := bin_d (by intros; intro h; cases h) q; cases y <;> cases ed
theorem bo_pow : BinOk X T RX W G cl .pow .Pow := by
  intro pins s P F H σ z x y u1 u2 v1 v2 Q I r1 r2 rel rx ry q
  cases x with
  | int i => exact bin_intR (op := .pow) (g := fun i j => i ^ j.toNat) op_pow (fun i j k e => have e := ite_some (show (if 0 ≤ j ∧ j ≤ 1000000 ∧ i.natAbs < 18446744073709551616 then some (i ^ j.toNat) else none) = some k from e); ⟨e.1, e.2.symm⟩) I r1 r2 rel rx ry q
  | ins c fs => cases y <;> first | exact (show False from q).elim | skip
                rename_i c' fs'
                have q : Post T RX W P z F Q (if c = c' then .bad else .bad) := q
                split at q <;> exact q.elim
  | _ => obtain ⟨d, ed, _⟩ := bin_d (by intros; intro h; cases h) q; cases y <;> cases ed
theorem bo_add {k : Nat} {fA : Nat → Addr} (hr : Room k X.A) (tk : Takes X W) (hO : OwnBin X T RX G cl k fA m_add "add") : BinOk X T RX W G cl .add .Add := by
  intro pins s P F H σ z x y u1 u2 v1 v2 Q I r1 r2 rel rx ry q
  obtain ⟨A, k1⟩ := id rel
  cases x with
  | int i => exact bin_intR (op := .add) (g := fun i j => i + j) (rI_of op_add) (fun i j k e => ⟨trivial, (Option.some.inj (show some (i + j) = some k from e)).symm⟩) I r1 r2 rel rx ry q
  | ins c fs =>
    obtain ⟨c', fs', rfl, hc, q⟩ := own_q rfl q
    exact own_bin hr tk hO rfl I r1 r2 rel rx ry hc q
  | lst xs =>
    obtain ⟨d, ed, q⟩ := bin_d (by intros; intro h; cases h) q
    cases y with
    | lst ys =>
      obtain ⟨hz, ed⟩ := ite_some (show (if xs.length + ys.length ≤ lineN then some (D.lst (xs ++ ys)) else none) = some d from ed)
      subst ed
      obtain ⟨a, us, e1, ea, ra⟩ := id rx
      obtain ⟨b, vs, e2, eb, rb⟩ := id ry
      subst e1 e2
      rw [ra.len, rb.len] at hz
      exact op_cat pins s z H _ _ v1 v2 Q I r1 r2 ⟨a, b, us, vs, rfl, rfl, k1.fH _ _ ea, k1.fH _ _ eb, hz, fun p np => post_lst rel (ra.append rb) np q⟩
    | _ => cases ed
  | tup xs =>
    obtain ⟨d, ed, q⟩ := bin_d (by intros; intro h; cases h) q
    cases y with
    | tup ys =>
      obtain ⟨hz, ed⟩ := ite_some (show (if xs.length + ys.length ≤ lineN then some (D.tup (xs ++ ys)) else none) = some d from ed)
      subst ed
      obtain ⟨a, us, e1, ea, ra⟩ := id rx
      obtain ⟨b, vs, e2, eb, rb⟩ := id ry
      subst e1 e2
      rw [ra.len, rb.len] at hz
      refine op_catA pins s z H _ _ v1 v2 Q I r1 r2 ⟨a, b, us, vs, rfl, rfl, .of (k1.fH _ _ ea), .of (k1.fH _ _ eb), hz, fun e => ?_, fun _ e => ?_, fun _ _ p np => post_tup rel (ra.append rb) np q⟩
      · subst e
        refine q F H _ (Same.refl _) ⟨rel, b, vs, rfl, eb, ?_⟩
        have : xs = [] := List.length_eq_zero_iff.mp ra.len
        rw [this]
        exact rb
      · subst e
        refine q F H _ (Same.refl _) ⟨rel, a, us, rfl, ea, ?_⟩
        have : ys = [] := List.length_eq_zero_iff.mp rb.len
        rw [this, List.append_nil]
        exact ra
    | _ => cases ed
  | str a =>
    obtain ⟨d, ed, q⟩ := bin_d (by intros; intro h; cases h) q
    cases y with
    | str b =>
      obtain ⟨hz, ed⟩ := ite_some (show (if a.length + b.length ≤ lineN then some (D.str (a ++ b)) else none) = some d from ed)
      subst ed
      exact op_add_str pins s z H u1 u2 v1 v2 Q I r1 r2 ⟨a, b, rx, ry, hz, post_str rel q⟩
    | _ => cases ed
  | _ => obtain ⟨d, ed, _⟩ := bin_d (by intros; intro h; cases h) q; cases y <;> cases ed
theorem mulOk_c {i j : Int} (h : mulOk i j = true) : CMul i j ∨ CMulW i j := by
  unfold mulOk at h
  simp only [Bool.or_eq_true, decide_eq_true_eq] at h
  rcases h with (h | h) | h
  · exact .inl (.inl (by omega))
  · exact .inl (.inr (by omega))
  · exact .inr h
theorem bo_mul {k : Nat} {fA : Nat → Addr} (hr : Room k X.A) (tk : Takes X W) (hO : OwnBin X T RX G cl k fA m_mul "mul") : BinOk X T RX W G cl .mul .Mult := by
  intro pins s P F H σ z x y u1 u2 v1 v2 Q I r1 r2 rel rx ry q
  obtain ⟨A, k1⟩ := id rel
  cases x with
  | int i =>
    obtain ⟨d, ed, q⟩ := bin_d (by intros; intro h; cases h) q
    obtain ⟨j, k, rfl, eI, rfl⟩ := binD_int ed
    obtain ⟨hm, ek⟩ := ite_some (show (if mulOk i j = true then some (i * j) else none) = some k from eI)
    subst ek
    rcases mulOk_c hm with h | h
    · exact op_mul pins s z H u1 u2 v1 v2 Q I r1 r2 ⟨i, j, rx, ry, h, post_int rel q⟩
    · exact op_mulW pins s z H u1 u2 v1 v2 Q I r1 r2 ⟨i, j, rx, ry, h, post_int rel q⟩
  | ins c fs =>
    obtain ⟨c', fs', rfl, hc, q⟩ := own_q rfl q
    exact own_bin hr tk hO rfl I r1 r2 rel rx ry hc q
  | lst xs =>
    obtain ⟨d, ed, q⟩ := bin_d (by intros; intro h; cases h) q
    cases y with
    | int n =>
      obtain ⟨hz, ed⟩ := ite_some (show (if n < 9223372036854775808 ∧ -9223372036854775808 ≤ n ∧ xs.length * n.toNat ≤ lineN then some (D.lst ((List.replicate n.toNat xs).flatten)) else none) = some d from ed)
      subst ed
      obtain ⟨a, us, e1, ea, ra⟩ := id rx
      have e2 : u2 = .int n := ry
      subst e1 e2
      rw [ra.len] at hz
      exact op_rep pins s z H _ _ v1 v2 Q I r1 r2 ⟨a, n, us, rfl, rfl, k1.fH _ _ ea, by omega, by omega, hz.2.2, fun p np => post_lst rel (ra.rep _) np q⟩
    | _ => cases ed
  | _ => obtain ⟨d, ed, _⟩ := bin_d (by intros; intro h; cases h) q; cases y <;> cases ed
/-! ### minus -/
def OwnUn (X : Cx) (T : Tb) (RX : XR) (G : Prog) (cl : Call) (k : Nat) (fA : Nat → Addr) (m : Nat) (nm : PySem.Str) : Prop :=
  ∀ c f, c < T.nc → G.meth c m = some f → PySem.W.findIn X.K (.ref (T.cA c)) nm = some (some (.ref (fA f))) ∧ PySem.W.isFn X.K (.ref (fA f)) = true ∧ FnD X T RX cl k (fA f) f
theorem se_neg {k : Nat} {fA : Nat → Addr} {a : Expr} {ea : E} {pos : Pos} (hr : Room k X.A) (tk : Takes X W) (hO : OwnUn X T RX G cl k fA m_neg "__neg__") (ha : SE T RX W G cl X a ea) : SE T RX W G cl X (.UnaryOp .USub a pos) (.neg ea) :=
  SE.of (fun _ => rfl) (fun _ _ => rfl) ⟨fun pins s z H Q I ⟨P, F, σ, rel, q⟩ => by
    refine UnaryOp_ (thn (ha.v.run pins s z H _ I (R.one rel q)) fun v s1 ⟨u, H1, I1, ru, F1, σ1, x, rel1, rx, q1⟩ => ?_)
    obtain ⟨A, k1⟩ := id rel1
    cases x with
    | int i => exact un_neg pins s1 z H1 u v Q I1 ru ⟨i, rx, post_int rel1 q1⟩
    | ins c fs =>
      obtain ⟨f, ef, q1⟩ := Post.opt (show Post T RX W P z F1 Q (opt (G.meth c m_neg) fun f => after (cl f (owned (.ins c fs) :: [].map owned)) [] σ1) from q1)
      obtain ⟨a, dx, gs, hc, e1, ea, rf⟩ := id rx
      subst e1
      obtain rfl : v = Value.ref a := ru
      obtain ⟨h1, h2, FD⟩ := hO c f hc ef
      obtain ⟨ox, od, J⟩ := inst_at I1 (k1.fH _ _ ea)
      obtain ⟨mm, hF⟩ := I1.fr
      exact PySem.W.ksp_neg hF I1.ok.mod.kin J h1 h2 (wpAny_call (run_z FD hr tk I1 (us := [.ref a]) (vs := [.ref a]) (.cons rfl .nil) (call_ok (arg_ds rel1 (xs := [.ins c fs]) ⟨_, _, rfl, rx, rfl⟩) q1)))
    | _ => exact (show False from q1).elim⟩
end
end Tf
end
section
set_option Elab.async false
set_option linter.all false
set_option maxRecDepth 100000
/-! Soundness, part 6: subscripts, slices. -/
namespace Tf
open PySem PySem.Spec PyProof.Rows L2
section
variable {T : Tb} {RX : XR} {W : WX} {X : Cx} {G : Prog} {cl : Call} {md : Md}
/-- a part's root, put aside for a while, is back -/
theorem StB.back {P F H F2 H2 : Hp} {σ σ2 : Fr} {z : L2.St} {i : Nat} {o : O} {u : V} {s : Sl} {x : Option V} {Ai C B : List Addr} (h : StB T P F H σ z i o u s x Ai C B) (sF : Same F F2) (r2 : Rel T (plus P H Ai) F2 H2 σ2 z) :
    ∃ C', StB T P F2 H2 (σ2.put i (some s)) z i o u s x Ai C' B := by
  obtain ⟨A2, k2⟩ := r2
  have oA : Own P F H Ai := ⟨fun a => by have := nd_count.mp h.nd a; rw [List.count_append] at this; omega, fun a m => h.nP a (List.mem_append_left _ m), fun a m => h.nF a (List.mem_append_left _ m), h.pH, h.fH, h.pF⟩
  obtain ⟨at_, o3⟩ := kept_of oA h.r.there k2.own
  have hi : i < σ2.length := by rw [k2.s.len]; exact (List.getElem?_eq_some_iff.mp h.val).1
  obtain ⟨s0, e0⟩ : ∃ s0, σ2[i]? = some s0 := ⟨_, List.getElem?_eq_getElem hi⟩
  obtain ⟨x0, Aj, C', _, _, h2, pm⟩ := k2.s.split e0
  have o4 : Own P F2 H2 (Ai ++ C') := o3.le fun a => by
    have e1 := pm.count_eq a
    rw [List.count_append] at e1
    rw [List.count_append, List.count_append]
    omega
  refine ⟨C', ?_, h.val, ?_, h.r.mono sF at_, h.o.mono sF fun a m => at_ a (h.sub a m), h.sub, nd_count.mpr o4.nd, o4.nP, o4.nF, o4.pH, o4.fH, o4.pF⟩
  · show (σ2.set i (some s))[i]? = _
    rw [List.getElem?_set_self hi]
  · show RSl T F2 H2 ((σ2.set i (some s)).set i none) z C'
    rw [List.set_set]
    exact h2
theorem StB.own {P F H : Hp} {σ : Fr} {z : L2.St} {i : Nat} {o : O} {u : V} {s : Sl} {x : Option V} {Ai C B : List Addr} (h : StB T P F H σ z i o u s x Ai C B) : Own P F H (Ai ++ C) := ⟨nd_count.mp h.nd, h.nP, h.nF, h.pH, h.fH, h.pF⟩
theorem StB.hide {P F H : Hp} {σ : Fr} {z : L2.St} {i : Nat} {o : O} {u : V} {s : Sl} {x : Option V} {Ai C B : List Addr} (h : StB T P F H σ z i o u s x Ai C B) : Own P F H Ai ∧ Rel T (plus P H Ai) F H (σ.set i none) z := by
  have ow := h.own
  have oA : Own P F H Ai := ow.le fun a => by rw [List.count_append]; omega
  have oC : Own P F H C := ow.le fun a => by rw [List.count_append]; omega
  have dj : ∀ a ∈ C, a ∉ Ai := fun a m m' => by
    have h1 := List.count_pos_iff.mpr m
    have h2 := List.count_pos_iff.mpr m'
    have h3 := ow.nd a
    rw [List.count_append] at h3
    omega
  refine ⟨oA, Own.rel ⟨oC.nd, fun a m => plus_none (oC.nP a m) (dj a m), oC.nF, plus_same h.pH, h.fH, fun a q e => ?_⟩ h.rs⟩
  by_cases m : a ∈ Ai
  · exact oA.nF a m
  · rw [plus_out m] at e
    exact h.pF a q e
theorem PostA.post {P F : Hp} {z : L2.St} {Q : VK} {r : Res Val} (h : PostA T RX W P z F (fun F H σ kv uk => RelV T P F H σ z kv uk) Q r) : Post T RX W P z F Q r := by
  cases r with
  | ok v σ => exact h
  | exc x σ => exact h
  | bad => exact h
/-- any run with the root hidden -/
theorem hid_run {α β : Type} {P F H : Hp} {σ : Fr} {z : L2.St} {i : Nat} {o : O} {u : V} {s : Sl} {x : Option V} {Ai C B : List Addr} {m : Fr → Res α} {f : α → Fr → Res Val} {Q : VK} (h : StB T P F H σ z i o u s x Ai C B) (q : Post T RX W P z F Q ((hidden i σ m).bind f))
    (Rl : Hp → Hp → Fr → α → β → Prop) : PostA T RX W (plus P H Ai) z F Rl (fun b H1 => ∃ F1 σ1 a, Same F F1 ∧ Rl F1 H1 σ1 a b ∧ Post T RX W P z F1 Q (f a (σ1.put i (some s)))) (m (σ.put i none)) := by
  have q : Post T RX W P z F Q ((match σ[i]? with
    | some (some s) => (match m (σ.put i none) with
      | .ok a σ' => Res.ok a (σ'.put i (some s))
      | .exc x σ' => Res.exc x (σ'.put i (some s))
      | .bad => Res.bad)
    | _ => Res.bad).bind f) := q
  rw [h.at_] at q
  dsimp only at q
  revert q
  generalize m (σ.put i none) = r
  intro q
  cases r with
  | ok a σ1 => exact fun F1 H1 b s1 rl => ⟨F1, σ1, a, s1, rl, Post.later s1 q⟩
  | exc y σ1 => exact fun F1 H1 c d s1 r1 rx => q F1 H1 c d s1 (unhide h.val h.r h.hide.1 s1 r1) rx
  | bad => exact q
theorem place_ix {n : Nat} {i : Int} {k : Nat} (h : place n i = some k) : ixN n i = some k := by
  unfold place at h
  unfold ixN
  by_cases c : 0 ≤ i
  · rw [if_pos c] at h ⊢
    exact h
  · rw [if_neg c] at h ⊢
    by_cases d : 0 ≤ i + n
    · rw [if_pos d] at h
      rw [if_pos (by omega)]
      exact h
    · rw [if_neg d] at h
      cases h
theorem RDs.get {F : Hp} : ∀ {xs : List D} {us : List V} {k : Nat} {x : D}, RDs T F xs us → xs[k]? = some x → ∃ u, us[k]? = some u ∧ RD T F x u
  | [], _, _, _, _, e => by simp at e
  | y :: ys, _, 0, x, r, e => by
    obtain ⟨v, s, eu, r1, _⟩ := r
    subst eu
    have e' : y = x := by simpa using e
    subst e'
    exact ⟨v, rfl, r1⟩
  | y :: ys, _, k + 1, x, r, e => by
    obtain ⟨v, s, eu, _, r2⟩ := r
    subst eu
    obtain ⟨u, e1, r1⟩ := RDs.get r2 (k := k) (by simpa using e)
    exact ⟨u, by simpa using e1, r1⟩
theorem ROs.get {F H : Hp} : ∀ {xs : List O} {us : List V} {A : List Addr} {k : Nat} {x : O}, ROs T F H xs us A → xs[k]? = some x → ∃ u B, us[k]? = some u ∧ RO T F H x u B ∧ ∀ a ∈ B, a ∈ A
  | [], _, _, _, _, _, e => by simp at e
  | y :: ys, _, _, 0, x, r, e => by
    obtain ⟨v, s, A1, A2, eu, eA, r1, _⟩ := r
    subst eu eA
    have e' : y = x := by simpa using e
    subst e'
    exact ⟨v, A1, rfl, r1, fun a m => List.mem_append_left _ m⟩
  | y :: ys, _, _, k + 1, x, r, e => by
    obtain ⟨v, s, A1, A2, eu, eA, _, r2⟩ := r
    subst eu eA
    obtain ⟨u, B, e1, r1, hs⟩ := ROs.get r2 (k := k) (by simpa using e)
    exact ⟨u, B, by simpa using e1, r1, fun a m => List.mem_append_right _ (hs a m)⟩
theorem atI_of {α : Type} {us : List α} {i : Int} {k : Nat} {u : α} {n : Nat} (hn : n = us.length) (h : place n i = some k) (e : us[k]? = some u) : atI us i = some u := by
  unfold atI
  rw [← hn, place_ix h]
  exact e
theorem ite_some' {c : Prop} [Decidable c] {α : Type} {a : Option α} {b : α} (h : (if c then a else none) = some b) : c ∧ a = some b := by
  by_cases hc : c
  · rw [if_pos hc] at h; exact ⟨hc, h⟩
  · rw [if_neg hc] at h; cases h
/-- a subscript, by values -/
theorem sel_ok {a b : Expr} {pins : List (Addr × Obj)} {s : Shared} {P F H : Hp} {σ : Fr} {z : L2.St} {vv w : Val} {k : D} {u uk : V} {v vk : Value} {Q : VK} (I : Inv X pins z H s) (ru : L2.RelV u v) (rk : L2.RelV uk vk) (rv : RelV T P F H σ z vv u) (rd : RD T F k uk) (e : selV vv k = some w) (hs : PlainIx b)
    (q : ∀ y, RelV T P F H σ z w y → Q y H) : wpAny (model X.prog X.w) X.A (subscriptTail a b v vk) (EP X pins z Q) X.xe s := by
  cases vv with
  | d x =>
    obtain ⟨x', ex, e⟩ := Option.map_eq_some_iff.mp (show (selD x k).map Val.d = some w from e)
    subst e
    obtain ⟨rel, r⟩ := rv
    obtain ⟨A, kk⟩ := id rel
    cases x with
    | lst xs => cases k with
      | int i =>
        obtain ⟨j, ej, ex⟩ := Option.bind_eq_some_iff.mp (show ((place xs.length i).bind fun k => xs[k]?) = some x' from ex)
        obtain ⟨p, us, e1, e2, r⟩ := r
        obtain ⟨y, ey, ry⟩ := r.get ex
        exact ix_list a b pins s z H u uk v vk Q I ru rk ⟨p, us, i, y, e1, rd, .of (kk.fH _ _ e2), atI_of r.len ej ey, q y ⟨rel, ry⟩⟩ (hs _ _)
      | _ => cases ex
    | tup xs => cases k with
      | int i =>
        obtain ⟨j, ej, ex⟩ := Option.bind_eq_some_iff.mp (show ((place xs.length i).bind fun k => xs[k]?) = some x' from ex)
        obtain ⟨p, us, e1, e2, r⟩ := r
        obtain ⟨y, ey, ry⟩ := r.get ex
        exact ix_tup a b pins s z H u uk v vk Q I ru rk ⟨p, us, i, y, e1, rd, .of (kk.fH _ _ e2), atI_of r.len ej ey, q y ⟨rel, ry⟩⟩ (hs _ _)
      | _ => cases ex
    | scr ns => cases k with
      | int i =>
        obtain ⟨j, ej, ex⟩ := Option.bind_eq_some_iff.mp (show ((place ns.length i).bind fun k => (ns[k]?).map D.int) = some x' from ex)
        obtain ⟨n, en, ex⟩ := Option.map_eq_some_iff.mp ex
        subst ex
        obtain ⟨p, ob, e1, e2⟩ := r
        exact ix_list a b pins s z H u uk v vk Q I ru rk ⟨p, ns.map V.int, i, .int n, e1, rd, .inl (.inr ⟨ob, kk.fH _ _ e2⟩), atI_of (by simp) ej (by simp [en]), q _ ⟨rel, rfl⟩⟩ (hs _ _)
      | _ => cases ex
    | str t => cases k with
      | int i =>
        obtain ⟨hz, ex⟩ := ite_some' (show (if t.length ≤ lineN then ((place t.cps.toList.length i).bind fun k => (t.cps.toList)[k]?).map (fun c => D.str ⟨#[c]⟩) else none) = some x' from ex)
        obtain ⟨c, ec, ex⟩ := Option.map_eq_some_iff.mp ex
        subst ex
        obtain ⟨j, ej, ec⟩ := Option.bind_eq_some_iff.mp ec
        exact ix_str a b pins s z H u uk v vk Q I ru rk ⟨t, i, c, r, rd, hz, atI_of rfl ej ec, q _ ⟨rel, rfl⟩⟩ (hs _ _)
      | _ => cases ex
    | _ => cases ex
  | b i o =>
    obtain ⟨sl, x, Ai, C, B, kk⟩ := rv
    cases o with
    | lst xs => cases k with
      | int j =>
        obtain ⟨x', ex, e⟩ := Option.map_eq_some_iff.mp (show ((place xs.length j).bind fun k => xs[k]?).map (Val.ofO i) = some w from e)
        subst e
        obtain ⟨j', ej, ex⟩ := Option.bind_eq_some_iff.mp ex
        obtain ⟨p, us, B', e1, eB, e2, r⟩ := kk.o
        obtain ⟨y, B2, ey, ry, hb⟩ := r.get ex
        exact ix_list a b pins s z H u uk v vk Q I ru rk ⟨p, us, j, y, e1, rd, .of e2, atI_of r.len ej ey, q y (kk.part ry fun a m => by rw [eB]; exact List.mem_cons_of_mem _ (hb a m))⟩ (hs _ _)
      | _ => cases e
    | _ => cases e
  | o o => cases e
theorem R.of_post {m : Fr → Res Val} {P F H : Hp} {σ : Fr} {z : L2.St} {Q : VK} (rel : Rel T P F H σ z) (h : Post T RX W P z F Q (m σ)) : R T RX W m z H Q := ⟨P, F, σ, rel, h⟩
theorem se_idx {a b : Expr} {ea eb : E} {pos : Pos} (ha : SE T RX W G cl X a ea) (hb : SE T RX W G cl X b eb) (hs : PlainIx b) : SE T RX W G cl X (.Subscript a b pos) (.idx ea eb) :=
  SE.of (fun _ => rfl) (fun _ _ => rfl) ⟨fun pins s z H Q I ⟨P, F, σ, rel, q⟩ => by
    refine Subscript_ (thn (ha.p.run pins s z H _ I (R.bind rel q)) fun v s1 ⟨u, H1, I1, ru, F1, σ1, vv, sF, rv, q1⟩ => ?_)
    cases vv with
    | o o => exact (show False from q1).elim
    | d x =>
      have q1 : Post T RX W P z F1 Q ((ev G cl .val eb σ1).bind fun k σ => opt ((toD k).bind fun k => selV (.d x) k) fun v => .ok v σ) := q1
      refine thn (hb.v.run pins s1 z H1 _ I1 (R.bind rv.1 q1)) fun vk s2 ⟨uk, H2, I2, rk, F2, σ2, kv, sF2, rkv, q2⟩ => ?_
      obtain ⟨w, ew, q2⟩ := Post.opt q2
      obtain ⟨k, ek, ew⟩ := Option.bind_eq_some_iff.mp ew
      obtain ⟨F3, s3, rel3, rd⟩ := rkv.toD ek
      exact sel_ok I2 ru rk (vv := .d x) ⟨rel3, rv.2.mono (sF2.trans s3)⟩ rd ew hs fun y ry => q2 F3 H2 y s3 ry
    | b r o =>
      obtain ⟨sl, x, Ai, C, B, kk⟩ := id rv
      have q1 : Post T RX W P z F1 Q ((hidden r σ1 fun σ => ev G cl .val eb σ).bind fun k σ => opt ((toD k).bind fun k => selV (.b r o) k) fun v => .ok v σ) := q1
      have hr := hid_run kk q1 (fun F H σ kv uk => RelV T (plus P H1 Ai) F H σ z kv uk)
      refine thn (hb.v.run pins s1 z H1 (fun uk H2 => ∃ F2 σ2 kv, Same F1 F2 ∧ RelV T (plus P H1 Ai) F2 H2 σ2 z kv uk ∧ Post T RX W P z F2 Q (opt ((toD kv).bind fun k => selV (.b r o) k) fun v => .ok v (σ2.put r (some sl)))) I1 ⟨_, F1, _, kk.hide.2, ?_⟩) fun vk s2 ⟨uk, H2, I2, rk, F2, σ2, kv, sF2, rkv, q2⟩ => ?_
      · exact PostA.post hr
      · obtain ⟨w, ew, q2⟩ := Post.opt q2
        obtain ⟨k, ek, ew⟩ := Option.bind_eq_some_iff.mp ew
        obtain ⟨F3, s3, rel3, rd⟩ := rkv.toD ek
        obtain ⟨C', kb⟩ := kk.back (sF2.trans s3) rel3
        exact sel_ok I2 ru rk (vv := .b r o) ⟨sl, x, Ai, C', B, kb⟩ rd ew hs fun y ry => q2 F3 H2 y s3 ry⟩
/-! ### slices -/
/-- a slice's part -/
def PartR (T : Tb) (P : Hp) (z : L2.St) (F H : Hp) (σ : Fr) (a b : Option Int) : Prop := a = b ∧ Rel T P F H σ z
def RO1 (T : Tb) (RX : XR) (W : WX) (m : Fr → Res (Option Int)) : TO := fun z H Q => ∃ P F σ, Rel T P F H σ z ∧ PostA T RX W P z F (PartR T P z) Q (m σ)
theorem impO {e : Option Expr} {t t' : TO} (h : PO X e t) (k : ∀ z H Q, t' z H Q → t z H Q) : PO X e t' := ⟨fun pins s σ H Q I q => h.run pins s σ H Q I (k σ H Q q)⟩
theorem po_noneR : PO X none (RO1 T RX W (evO G cl .none)) := impO po_none fun z H Q ⟨P, F, σ, rel, q⟩ => q F H none (Same.refl _) ⟨rfl, rel⟩
theorem po_someR {e : Expr} {ee : E} (ha : SE T RX W G cl X e ee) : PO X (some e) (RO1 T RX W (evO G cl (.some ee))) := impO (po_some ha.v) fun z H Q ⟨P, F, σ, rel, q⟩ => by
  have q : PostA T RX W P z F (PartR T P z) Q ((ev G cl .val ee σ).bind fun v σ => match v with
    | .d (.int i) => Res.ok (some i) σ
    | _ => Res.bad) := q
  refine ⟨P, F, σ, rel, ?_⟩
  revert q
  generalize ev G cl .val ee σ = r
  intro q
  cases r with
  | exc x σ1 => exact q
  | bad => exact q
  | ok v σ1 =>
    intro F1 H1 u s rv
    cases v with
    | d x => cases x with
      | int i => exact ⟨i, rv.2, q F1 H1 (some i) s ⟨rfl, rv.1⟩⟩
      | _ => exact (show False from q).elim
    | _ => exact (show False from q).elim
theorem cutL_v {α : Type} (xs : List α) (lo hi : Option Int) (n : Nat) (hn : xs.length = n) : cutL xs lo hi = (xs.drop (HT.sIx n 0 lo)).take (HT.sIx n n hi - HT.sIx n 0 lo) := by
  have e : ∀ (n d : Nat) (o : Option Int), cutAt n d o = HT.sIx n d o := fun n d o => by
    cases o with
    | none => rfl
    | some v =>
      show (if 0 ≤ v then min v.toNat n else (v + n).toNat) = if v < 0 then (v + (n : Int)).toNat else min v.toNat n
      by_cases h : 0 ≤ v
      · rw [if_pos h, if_neg (by omega)]
      · rw [if_neg h, if_pos (by omega)]
  unfold cutL
  rw [e, e, hn, List.drop_take]
theorem RDs.take {F : Hp} : ∀ {xs : List D} {us : List V} (n : Nat), RDs T F xs us → RDs T F (xs.take n) (us.take n)
  | _, _, 0, _ => by rw [List.take_zero, List.take_zero]; rfl
  | [], _, n + 1, r => by rw [show _ = [] from r]; rfl
  | x :: xs, _, n + 1, r => by
    obtain ⟨v, s, e, r1, r2⟩ := r
    subst e
    exact ⟨v, _, rfl, r1, RDs.take n r2⟩
theorem RDs.drop {F : Hp} : ∀ {xs : List D} {us : List V} (n : Nat), RDs T F xs us → RDs T F (xs.drop n) (us.drop n)
  | _, _, 0, r => by rw [List.drop_zero, List.drop_zero]; exact r
  | [], _, n + 1, r => by rw [show _ = [] from r]; rfl
  | x :: xs, _, n + 1, r => by
    obtain ⟨v, s, e, _, r2⟩ := r
    subst e
    exact RDs.drop n r2
theorem RDs.cut {F : Hp} {xs : List D} {us : List V} (r : RDs T F xs us) (lo hi : Option Int) : RDs T F (cutL xs lo hi) (cutV us lo hi) := by
  rw [cutL_v xs lo hi us.length r.len]
  exact (r.drop _).take _
/-- of a list or a tuple -/
def rSl1 (K : PySem.W.Frag) : V → Option Int → Option Int → Hp → VK → Prop := fun x lo hi H Q => (rSlL K x lo hi H Q ∨ rSlA K x lo hi H Q) ∨ rSlS x lo hi H Q
theorem slc_of {P F H : Hp} {σ : Fr} {z : L2.St} {v w : Val} {u : V} {lo hi : Option Int} {Q : VK} (rv : RelV T P F H σ z v u) (e : slcV v lo hi = some w) (q : Post T RX W P z F Q (.ok w σ)) : rSl1 X.K u lo hi H Q := by
  cases v with
  | d x =>
    obtain ⟨rel, r⟩ := rv
    obtain ⟨A, kk⟩ := id rel
    cases x with
    | lst xs =>
      have e' : Val.d (.lst (cutL xs lo hi)) = w := Option.some.inj e
      subst e'
      obtain ⟨a, us, e1, e2, r⟩ := r
      exact .inl (.inl ⟨a, us, e1, .of (kk.fH _ _ e2), fun p np => post_lst rel (r.cut lo hi) np q⟩)
    | tup xs =>
      have e' : Val.d (.tup (cutL xs lo hi)) = w := Option.some.inj e
      subst e'
      obtain ⟨a, us, e1, e2, r⟩ := r
      refine .inl (.inr ⟨a, us, e1, .of (kk.fH _ _ e2), fun hw => ?_, fun _ p np => post_tup rel (r.cut lo hi) np q⟩)
      refine q F H _ (Same.refl _) ⟨rel, a, us, rfl, e2, ?_⟩
      have := r.cut lo hi
      unfold cutV at this
      rw [hw.1, hw.2, Nat.sub_zero, List.drop_zero, List.take_length] at this
      exact this
    | scr ns =>
      have e' : Val.d (.lst ((cutL ns lo hi).map D.int)) = w := Option.some.inj e
      subst e'
      obtain ⟨a, ob, e1, e2⟩ := r
      refine .inl (.inl ⟨a, ns.map V.int, e1, .inr ⟨ob, kk.fH _ _ e2⟩ |> .inl, fun p np => post_lst rel ?_ np q⟩)
      have : ∀ ms : List Int, RDs T F (ms.map D.int) (ms.map V.int) := fun ms => by
        induction ms with
        | nil => rfl
        | cons n ms ih => exact ⟨_, _, rfl, rfl, ih⟩
      have h := this (cutL ns lo hi)
      rw [cutL_v ns lo hi ns.length rfl] at h ⊢
      unfold cutV
      rw [List.length_map, List.map_take, List.map_drop] at *
      rw [List.map_take, List.map_drop] at h
      exact h
    | str t =>
      obtain ⟨hz, e'⟩ := ite_some (show (if t.length ≤ lineN then some (Val.d (.str (L2.cutS t lo hi))) else none) = some w from e)
      subst e'
      exact .inr ⟨t, r, hz, post_str rel q⟩
    | _ => cases e
  | b i o =>
    obtain ⟨sl, x, Ai, C, B, kk⟩ := id rv
    cases o with
    | lst os =>
      obtain ⟨xs, ex, e'⟩ := Option.map_eq_some_iff.mp (show (allD os).map (fun xs => Val.d (.lst (cutL xs lo hi))) = some w from e)
      subst e'
      obtain ⟨p, us, B', e1, eB, e2, r⟩ := kk.o
      exact .inl (.inl ⟨p, us, e1, .of e2, fun p np => post_lst rv.rel ((allD_of r ex).cut lo hi) np q⟩)
    | _ => cases e
  | o o => cases e
theorem RO1.mono {m : Fr → Res (Option Int)} {z : L2.St} {H : Hp} {Q Q' : Option Int → Hp → Prop} (h : RO1 T RX W m z H Q) (k : ∀ u H, Q u H → Q' u H) : RO1 T RX W m z H Q' := by
  obtain ⟨P, F, σ, rel, q⟩ := h
  refine ⟨P, F, σ, rel, ?_⟩
  revert q
  generalize m σ = r
  intro q
  cases r with
  | ok v σ1 => exact fun F H u s k' => k u H (q F H u s k')
  | exc x σ1 => exact q
  | bad => exact q
/-- two parts, then the rest -/
theorem parts {ml mh : Fr → Res (Option Int)} {P F H : Hp} {σ : Fr} {z : L2.St} {Q : Option Int × Option Int → Hp → Prop} (rel : Rel T P F H σ z)
    (h : PostA T RX W P z F (fun F H σ (a b : Option Int × Option Int) => a = b ∧ Rel T P F H σ z) Q ((ml σ).bind fun l σ => (mh σ).map fun h => (l, h))) : RO1 T RX W ml z H fun l H1 => RO1 T RX W mh z H1 fun u H2 => Q (l, u) H2 := by
  refine ⟨P, F, σ, rel, ?_⟩
  revert h
  generalize ml σ = r
  intro h
  cases r with
  | exc x σ1 => exact h
  | bad => exact h
  | ok l σ1 =>
    rintro F1 H1 l' s ⟨e, rel1⟩
    subst e
    refine ⟨P, F1, σ1, rel1, ?_⟩
    have h : PostA T RX W P z F (fun F H σ (a b : Option Int × Option Int) => a = b ∧ Rel T P F H σ z) Q ((mh σ1).map fun h => (l, h)) := h
    have h := PostA.later s h
    revert h
    generalize mh σ1 = r
    intro h
    cases r with
    | exc x σ1 => exact h
    | bad => exact h
    | ok u σ2 =>
      rintro F2 H2 u' s2 ⟨e, rel2⟩
      subst e
      exact h F2 H2 _ s2 ⟨rfl, rel2⟩
theorem PostA.mono {α β : Type} {P F : Hp} {z : L2.St} {Rl : Hp → Hp → Fr → α → β → Prop} {Q Q' : β → Hp → Prop} {r : Res α} (h : PostA T RX W P z F Rl Q r) (k : ∀ b H, Q b H → Q' b H) : PostA T RX W P z F Rl Q' r := by
  cases r with
  | ok v σ => exact fun F H u s k' => k u H (h F H u s k')
  | exc x σ => exact h
  | bad => exact h
theorem PostA.bind1 {α β : Type} {P F : Hp} {z : L2.St} {Rl : Hp → Hp → Fr → α → β → Prop} {Q : VK} {r : Res α} {f : α → Fr → Res Val} (h : Post T RX W P z F Q (r.bind f)) : PostA T RX W P z F Rl (fun b H1 => ∃ F1 σ1 a, Same F F1 ∧ Rl F1 H1 σ1 a b ∧ Post T RX W P z F1 Q (f a σ1)) r := by
  cases r with
  | ok v σ => exact fun F1 H1 u s rl => ⟨F1, σ, v, s, rl, Post.later s h⟩
  | exc x σ => exact h
  | bad => exact h
theorem se_slc {a : Expr} {ea : E} {lo hi : Option Expr} {elo ehi : Eo} {p2 pos : Pos} (ha : SE T RX W G cl X a ea) (hl : PO X lo (RO1 T RX W (evO G cl elo))) (hh : PO X hi (RO1 T RX W (evO G cl ehi))) : SE T RX W G cl X (.Subscript a (.Slice lo hi none p2) pos) (.slc ea elo ehi) :=
  SE.of (fun _ => rfl) (fun _ _ => rfl) (impE (pe_slice (SlR.or (SlR.or sl_list sl_tupA) sl_str) ha.p hl hh) fun z H Q ⟨P, F, σ, rel, q⟩ => by
    refine R.mono (R.bind rel q) fun u H1 ⟨F1, σ1, v, sF, rv, q1⟩ => ?_
    cases v with
    | o o => exact (show False from q1).elim
    | d x =>
      have q1 : Post T RX W P z F1 Q (((evO G cl elo σ1).bind fun l σ => (evO G cl ehi σ).map fun h => (l, h)).bind fun lh σ => opt (slcV (.d x) lh.1 lh.2) fun v => .ok v σ) := q1
      refine RO1.mono (parts rv.1 (PostA.bind1 q1)) fun l H2 h2 => RO1.mono h2 fun h H3 ⟨F3, σ3, lh, s3, ⟨e, rel3⟩, q3⟩ => ?_
      subst e
      obtain ⟨w, ew, q3⟩ := Post.opt q3
      exact slc_of (X := X) (v := .d x) ⟨rel3, rv.2.mono s3⟩ ew q3
    | b r o =>
      obtain ⟨sl, x, Ai, C, B, kk⟩ := id rv
      have q1 : Post T RX W P z F1 Q ((hidden r σ1 fun σ => (evO G cl elo σ).bind fun l σ => (evO G cl ehi σ).map fun h => (l, h)).bind fun lh σ => opt (slcV (.b r o) lh.1 lh.2) fun v => .ok v σ) := q1
      have hr := hid_run kk q1 (fun F H σ (a b : Option Int × Option Int) => a = b ∧ Rel T (plus P H1 Ai) F H σ z)
      refine RO1.mono (parts kk.hide.2 hr) fun l H2 h2 => RO1.mono h2 fun h H3 ⟨F3, σ3, lh, s3, ⟨e, rel3⟩, q3⟩ => ?_
      subst e
      obtain ⟨w, ew, q3⟩ := Post.opt q3
      obtain ⟨C', kb⟩ := kk.back s3 rel3
      exact slc_of (X := X) (v := .b r o) ⟨sl, x, Ai, C', B, kb⟩ ew q3)
end
end Tf
end
section
set_option Elab.async false
set_option linter.all false
set_option maxRecDepth 100000
/-! == by the evaluator. -/
namespace Tf
open PySem PySem.Spec PyProof.Rows L2
theorem map_inj {α β : Type} {f : α → β} (hf : ∀ a b, f a = f b → a = b) : ∀ {xs ys : List α}, xs.map f = ys.map f → xs = ys
  | [], [], _ => rfl
  | [], _ :: _, h => by cases h
  | _ :: _, [], h => by cases h
  | x :: xs, y :: ys, h => by
    rw [List.map_cons, List.map_cons] at h
    injection h with h1 h2
    rw [hf _ _ h1, map_inj hf h2]
/-- data at a value is one alone -/
structure RDone (T : Tb) (F : Hp) : Prop where
  c : ∀ c c', c < T.nc → c' < T.nc → T.cA c = T.cA c' → c = c'
  f : ∀ f g, f < T.nf → g < T.nf → T.fN f = T.fN g → f = g
  n : ∀ c, c < T.nc → F (T.cA c) = none
mutual
theorem RD.inj {T : Tb} {F : Hp} (k : RDone T F) : ∀ {x y : D} {u : V}, RD T F x u → RD T F y u → x = y
  | .non, y, u, h1, h2 => by
    have e : u = .non := h1
    subst e
    cases y with
    | non => rfl
    | bl b' => cases (show V.non = .bl b' from h2)
    | int i' => cases (show V.non = .int i' from h2)
    | str s' => cases (show V.non = .str s' from h2)
    | tup xs' => obtain ⟨b, vs, e2, eb, r2⟩ := h2; cases e2
    | lst xs' => obtain ⟨b, vs, e2, eb, r2⟩ := h2; cases e2
    | ins c' fs' => obtain ⟨b, dy, hs, hc2, e2, eb, r2⟩ := h2; cases e2
    | dcI kvs' => obtain ⟨b, vs, e2, eb, r2⟩ := h2; cases e2
    | dcT kvs' => obtain ⟨b, vs, e2, eb, r2⟩ := h2; cases e2
    | cls c' => cases h2.2
    | scr ns' => obtain ⟨b, ob2, e2, eb⟩ := h2; cases e2
  | .bl b, y, u, h1, h2 => by
    have e : u = .bl b := h1
    subst e
    cases y with
    | non => cases (show V.bl b = .non from h2)
    | bl b' => injection (show V.bl b = .bl b' from h2) with e; rw [e]
    | int i' => cases (show V.bl b = .int i' from h2)
    | str s' => cases (show V.bl b = .str s' from h2)
    | tup xs' => obtain ⟨b, vs, e2, eb, r2⟩ := h2; cases e2
    | lst xs' => obtain ⟨b, vs, e2, eb, r2⟩ := h2; cases e2
    | ins c' fs' => obtain ⟨b, dy, hs, hc2, e2, eb, r2⟩ := h2; cases e2
    | dcI kvs' => obtain ⟨b, vs, e2, eb, r2⟩ := h2; cases e2
    | dcT kvs' => obtain ⟨b, vs, e2, eb, r2⟩ := h2; cases e2
    | cls c' => cases h2.2
    | scr ns' => obtain ⟨b, ob2, e2, eb⟩ := h2; cases e2
  | .int i, y, u, h1, h2 => by
    have e : u = .int i := h1
    subst e
    cases y with
    | non => cases (show V.int i = .non from h2)
    | bl b' => cases (show V.int i = .bl b' from h2)
    | int i' => injection (show V.int i = .int i' from h2) with e; rw [e]
    | str s' => cases (show V.int i = .str s' from h2)
    | tup xs' => obtain ⟨b, vs, e2, eb, r2⟩ := h2; cases e2
    | lst xs' => obtain ⟨b, vs, e2, eb, r2⟩ := h2; cases e2
    | ins c' fs' => obtain ⟨b, dy, hs, hc2, e2, eb, r2⟩ := h2; cases e2
    | dcI kvs' => obtain ⟨b, vs, e2, eb, r2⟩ := h2; cases e2
    | dcT kvs' => obtain ⟨b, vs, e2, eb, r2⟩ := h2; cases e2
    | cls c' => cases h2.2
    | scr ns' => obtain ⟨b, ob2, e2, eb⟩ := h2; cases e2
  | .str s, y, u, h1, h2 => by
    have e : u = .str s := h1
    subst e
    cases y with
    | non => cases (show V.str s = .non from h2)
    | bl b' => cases (show V.str s = .bl b' from h2)
    | int i' => cases (show V.str s = .int i' from h2)
    | str s' => injection (show V.str s = .str s' from h2) with e; rw [e]
    | tup xs' => obtain ⟨b, vs, e2, eb, r2⟩ := h2; cases e2
    | lst xs' => obtain ⟨b, vs, e2, eb, r2⟩ := h2; cases e2
    | ins c' fs' => obtain ⟨b, dy, hs, hc2, e2, eb, r2⟩ := h2; cases e2
    | dcI kvs' => obtain ⟨b, vs, e2, eb, r2⟩ := h2; cases e2
    | dcT kvs' => obtain ⟨b, vs, e2, eb, r2⟩ := h2; cases e2
    | cls c' => cases h2.2
    | scr ns' => obtain ⟨b, ob2, e2, eb⟩ := h2; cases e2
  | .tup xs, y, u, h1, h2 => by
    obtain ⟨a, us, e, ea, r⟩ := h1
    subst e
    cases y with
    | non => cases (show V.ref _ = .non from h2)
    | bl b' => cases (show V.ref _ = .bl b' from h2)
    | int i' => cases (show V.ref _ = .int i' from h2)
    | str s' => cases (show V.ref _ = .str s' from h2)
    | tup xs' => obtain ⟨b, vs, e2, eb, r2⟩ := h2; injection e2 with e2; subst e2; rw [ea] at eb; injection eb with eb; injection eb with e3; subst e3; rw [RDs.inj k r r2]
    | lst xs' => obtain ⟨b, vs, e2, eb, r2⟩ := h2; injection e2 with e2; subst e2; rw [ea] at eb; cases eb
    | ins c' fs' => obtain ⟨b, dy, hs, hc2, e2, eb, r2⟩ := h2; injection e2 with e2; subst e2; rw [ea] at eb; cases eb
    | dcI kvs' => obtain ⟨b, vs, e2, eb, r2⟩ := h2; injection e2 with e2; subst e2; rw [ea] at eb; cases eb
    | dcT kvs' => obtain ⟨b, vs, e2, eb, r2⟩ := h2; injection e2 with e2; subst e2; rw [ea] at eb; cases eb
    | cls c' => obtain ⟨hc2, e2⟩ := h2; injection e2 with e2; rw [e2, k.n _ hc2] at ea; cases ea
    | scr ns' => obtain ⟨b, ob2, e2, eb⟩ := h2; injection e2 with e2; subst e2; rw [ea] at eb; cases eb
  | .lst xs, y, u, h1, h2 => by
    obtain ⟨a, us, e, ea, r⟩ := h1
    subst e
    cases y with
    | non => cases (show V.ref _ = .non from h2)
    | bl b' => cases (show V.ref _ = .bl b' from h2)
    | int i' => cases (show V.ref _ = .int i' from h2)
    | str s' => cases (show V.ref _ = .str s' from h2)
    | tup xs' => obtain ⟨b, vs, e2, eb, r2⟩ := h2; injection e2 with e2; subst e2; rw [ea] at eb; cases eb
    | lst xs' => obtain ⟨b, vs, e2, eb, r2⟩ := h2; injection e2 with e2; subst e2; rw [ea] at eb; injection eb with eb; injection eb with e3; subst e3; rw [RDs.inj k r r2]
    | ins c' fs' => obtain ⟨b, dy, hs, hc2, e2, eb, r2⟩ := h2; injection e2 with e2; subst e2; rw [ea] at eb; cases eb
    | dcI kvs' => obtain ⟨b, vs, e2, eb, r2⟩ := h2; injection e2 with e2; subst e2; rw [ea] at eb; cases eb
    | dcT kvs' => obtain ⟨b, vs, e2, eb, r2⟩ := h2; injection e2 with e2; subst e2; rw [ea] at eb; cases eb
    | cls c' => obtain ⟨hc2, e2⟩ := h2; injection e2 with e2; rw [e2, k.n _ hc2] at ea; cases ea
    | scr ns' => obtain ⟨b, ob2, e2, eb⟩ := h2; injection e2 with e2; subst e2; rw [ea] at eb; cases eb
  | .ins c fs, y, u, h1, h2 => by
    obtain ⟨a, dx, gs, hc, e, ea, r⟩ := h1
    subst e
    cases y with
    | non => cases (show V.ref _ = .non from h2)
    | bl b' => cases (show V.ref _ = .bl b' from h2)
    | int i' => cases (show V.ref _ = .int i' from h2)
    | str s' => cases (show V.ref _ = .str s' from h2)
    | tup xs' => obtain ⟨b, vs, e2, eb, r2⟩ := h2; injection e2 with e2; subst e2; rw [ea] at eb; cases eb
    | lst xs' => obtain ⟨b, vs, e2, eb, r2⟩ := h2; injection e2 with e2; subst e2; rw [ea] at eb; cases eb
    | ins c' fs' => obtain ⟨b, dy, hs, hc2, e2, eb, r2⟩ := h2; injection e2 with e2; subst e2; rw [ea] at eb; injection eb with eb; injection eb with e3 e4 e5; subst e5; rw [k.c _ _ hc hc2 e3, RDf.inj k r r2]
    | dcI kvs' => obtain ⟨b, vs, e2, eb, r2⟩ := h2; injection e2 with e2; subst e2; rw [ea] at eb; cases eb
    | dcT kvs' => obtain ⟨b, vs, e2, eb, r2⟩ := h2; injection e2 with e2; subst e2; rw [ea] at eb; cases eb
    | cls c' => obtain ⟨hc2, e2⟩ := h2; injection e2 with e2; rw [e2, k.n _ hc2] at ea; cases ea
    | scr ns' => obtain ⟨b, ob2, e2, eb⟩ := h2; injection e2 with e2; subst e2; rw [ea] at eb; cases eb
  | .dcI kvs, y, u, h1, h2 => by
    obtain ⟨a, us, e, ea, r⟩ := h1
    subst e
    cases y with
    | non => cases (show V.ref _ = .non from h2)
    | bl b' => cases (show V.ref _ = .bl b' from h2)
    | int i' => cases (show V.ref _ = .int i' from h2)
    | str s' => cases (show V.ref _ = .str s' from h2)
    | tup xs' => obtain ⟨b, vs, e2, eb, r2⟩ := h2; injection e2 with e2; subst e2; rw [ea] at eb; cases eb
    | lst xs' => obtain ⟨b, vs, e2, eb, r2⟩ := h2; injection e2 with e2; subst e2; rw [ea] at eb; cases eb
    | ins c' fs' => obtain ⟨b, dy, hs, hc2, e2, eb, r2⟩ := h2; injection e2 with e2; subst e2; rw [ea] at eb; cases eb
    | dcI kvs' => obtain ⟨b, vs, e2, eb, r2⟩ := h2; injection e2 with e2; subst e2; rw [ea] at eb; injection eb with eb; injection eb with e3; subst e3; rw [RDi.inj k r r2]
    | dcT kvs' => obtain ⟨b, vs, e2, eb, r2⟩ := h2; injection e2 with e2; subst e2; rw [ea] at eb; cases eb
    | cls c' => obtain ⟨hc2, e2⟩ := h2; injection e2 with e2; rw [e2, k.n _ hc2] at ea; cases ea
    | scr ns' => obtain ⟨b, ob2, e2, eb⟩ := h2; injection e2 with e2; subst e2; rw [ea] at eb; cases eb
  | .dcT kvs, y, u, h1, h2 => by
    obtain ⟨a, us, e, ea, r⟩ := h1
    subst e
    cases y with
    | non => cases (show V.ref _ = .non from h2)
    | bl b' => cases (show V.ref _ = .bl b' from h2)
    | int i' => cases (show V.ref _ = .int i' from h2)
    | str s' => cases (show V.ref _ = .str s' from h2)
    | tup xs' => obtain ⟨b, vs, e2, eb, r2⟩ := h2; injection e2 with e2; subst e2; rw [ea] at eb; cases eb
    | lst xs' => obtain ⟨b, vs, e2, eb, r2⟩ := h2; injection e2 with e2; subst e2; rw [ea] at eb; cases eb
    | ins c' fs' => obtain ⟨b, dy, hs, hc2, e2, eb, r2⟩ := h2; injection e2 with e2; subst e2; rw [ea] at eb; cases eb
    | dcI kvs' => obtain ⟨b, vs, e2, eb, r2⟩ := h2; injection e2 with e2; subst e2; rw [ea] at eb; cases eb
    | dcT kvs' => obtain ⟨b, vs, e2, eb, r2⟩ := h2; injection e2 with e2; subst e2; rw [ea] at eb; injection eb with eb; injection eb with e3; subst e3; rw [RDt.inj k r r2]
    | cls c' => obtain ⟨hc2, e2⟩ := h2; injection e2 with e2; rw [e2, k.n _ hc2] at ea; cases ea
    | scr ns' => obtain ⟨b, ob2, e2, eb⟩ := h2; injection e2 with e2; subst e2; rw [ea] at eb; cases eb
  | .cls c, y, u, h1, h2 => by
    obtain ⟨hc, e⟩ := h1
    subst e
    cases y with
    | non => cases (show V.ref _ = .non from h2)
    | bl b' => cases (show V.ref _ = .bl b' from h2)
    | int i' => cases (show V.ref _ = .int i' from h2)
    | str s' => cases (show V.ref _ = .str s' from h2)
    | tup xs' => obtain ⟨b, vs, e2, eb, r2⟩ := h2; injection e2 with e2; rw [← e2, k.n _ hc] at eb; cases eb
    | lst xs' => obtain ⟨b, vs, e2, eb, r2⟩ := h2; injection e2 with e2; rw [← e2, k.n _ hc] at eb; cases eb
    | ins c' fs' => obtain ⟨b, dy, hs, hc2, e2, eb, r2⟩ := h2; injection e2 with e2; rw [← e2, k.n _ hc] at eb; cases eb
    | dcI kvs' => obtain ⟨b, vs, e2, eb, r2⟩ := h2; injection e2 with e2; rw [← e2, k.n _ hc] at eb; cases eb
    | dcT kvs' => obtain ⟨b, vs, e2, eb, r2⟩ := h2; injection e2 with e2; rw [← e2, k.n _ hc] at eb; cases eb
    | cls c' => obtain ⟨hc2, e2⟩ := h2; injection e2 with e2; rw [k.c _ _ hc hc2 e2]
    | scr ns' => obtain ⟨b, ob2, e2, eb⟩ := h2; injection e2 with e2; rw [← e2, k.n _ hc] at eb; cases eb
  | .scr ns, y, u, h1, h2 => by
    obtain ⟨a, ob, e, ea⟩ := h1
    subst e
    cases y with
    | non => cases (show V.ref _ = .non from h2)
    | bl b' => cases (show V.ref _ = .bl b' from h2)
    | int i' => cases (show V.ref _ = .int i' from h2)
    | str s' => cases (show V.ref _ = .str s' from h2)
    | tup xs' => obtain ⟨b, vs, e2, eb, r2⟩ := h2; injection e2 with e2; subst e2; rw [ea] at eb; cases eb
    | lst xs' => obtain ⟨b, vs, e2, eb, r2⟩ := h2; injection e2 with e2; subst e2; rw [ea] at eb; cases eb
    | ins c' fs' => obtain ⟨b, dy, hs, hc2, e2, eb, r2⟩ := h2; injection e2 with e2; subst e2; rw [ea] at eb; cases eb
    | dcI kvs' => obtain ⟨b, vs, e2, eb, r2⟩ := h2; injection e2 with e2; subst e2; rw [ea] at eb; cases eb
    | dcT kvs' => obtain ⟨b, vs, e2, eb, r2⟩ := h2; injection e2 with e2; subst e2; rw [ea] at eb; cases eb
    | cls c' => obtain ⟨hc2, e2⟩ := h2; injection e2 with e2; rw [e2, k.n _ hc2] at ea; cases ea
    | scr ns' => obtain ⟨b, ob2, e2, eb⟩ := h2; injection e2 with e2; subst e2; rw [ea] at eb; injection eb with eb; injection eb with e3 e4; injection e4 with e4; rw [map_inj (fun _ _ q => V.int.inj q) e4]
theorem RDs.inj {T : Tb} {F : Hp} (k : RDone T F) : ∀ {xs ys : List D} {us : List V}, RDs T F xs us → RDs T F ys us → xs = ys
  | [], [], _, _, _ => rfl
  | [], y :: ys, _, h1, h2 => by
    obtain ⟨w, s, e', s1, s2⟩ := h2
    rw [show _ = [] from h1] at e'
    cases e'
  | x :: xs, [], _, h1, h2 => by
    obtain ⟨v, r, e, r1, r2⟩ := h1
    rw [show _ = [] from h2] at e
    cases e
  | x :: xs, y :: ys, _, h1, h2 => by
    obtain ⟨v, r, e, r1, r2⟩ := h1
    obtain ⟨w, s, e', s1, s2⟩ := h2
    subst e
    injection e' with e1 e2
    subst e1 e2
    rw [RD.inj k r1 s1, RDs.inj k r2 s2]
theorem RDf.inj {T : Tb} {F : Hp} (k : RDone T F) : ∀ {xs ys : List (Nat × D)} {us : List (PySem.Str × V)}, RDf T F xs us → RDf T F ys us → xs = ys
  | [], [], _, _, _ => rfl
  | [], (j, y) :: ys, _, h1, h2 => by
    obtain ⟨w, s, hk', e', s1, s2⟩ := h2
    rw [show _ = [] from h1] at e'
    cases e'
  | (i, x) :: xs, [], _, h1, h2 => by
    obtain ⟨v, r, hk, e, r1, r2⟩ := h1
    rw [show _ = [] from h2] at e
    cases e
  | (i, x) :: xs, (j, y) :: ys, _, h1, h2 => by
    obtain ⟨v, r, hk, e, r1, r2⟩ := h1
    obtain ⟨w, s, hk', e', s1, s2⟩ := h2
    subst e
    injection e' with e1 e2
    injection e1 with e1 e3
    subst e2 e3
    rw [k.f _ _ hk hk' e1, RD.inj k r1 s1, RDf.inj k r2 s2]
theorem RDi.inj {T : Tb} {F : Hp} (k : RDone T F) : ∀ {xs ys : List (Int × D)} {us : List (Key × V)}, RDi T F xs us → RDi T F ys us → xs = ys
  | [], [], _, _, _ => rfl
  | [], (j, y) :: ys, _, h1, h2 => by
    obtain ⟨w, s, e', s1, s2⟩ := h2
    rw [show _ = [] from h1] at e'
    cases e'
  | (i, x) :: xs, [], _, h1, h2 => by
    obtain ⟨v, r, e, r1, r2⟩ := h1
    rw [show _ = [] from h2] at e
    cases e
  | (i, x) :: xs, (j, y) :: ys, _, h1, h2 => by
    obtain ⟨v, r, e, r1, r2⟩ := h1
    obtain ⟨w, s, e', s1, s2⟩ := h2
    subst e
    injection e' with e1 e2
    injection e1 with e1 e3
    injection e1 with e1
    subst e1 e2 e3
    rw [RD.inj k r1 s1, RDi.inj k r2 s2]
theorem RDt.inj {T : Tb} {F : Hp} (k : RDone T F) : ∀ {xs ys : List (List Int × D)} {us : List (List Key × V)}, RDt T F xs us → RDt T F ys us → xs = ys
  | [], [], _, _, _ => rfl
  | [], (j, y) :: ys, _, h1, h2 => by
    obtain ⟨w, s, e', s1, s2⟩ := h2
    rw [show _ = [] from h1] at e'
    cases e'
  | (i, x) :: xs, [], _, h1, h2 => by
    obtain ⟨v, r, e, r1, r2⟩ := h1
    rw [show _ = [] from h2] at e
    cases e
  | (i, x) :: xs, (j, y) :: ys, _, h1, h2 => by
    obtain ⟨v, r, e, r1, r2⟩ := h1
    obtain ⟨w, s, e', s1, s2⟩ := h2
    subst e
    injection e' with e1 e2
    injection e1 with e1 e3
    subst e2 e3
    rw [map_inj (fun _ _ q => Sum.inl.inj q) e1, RD.inj k r1 s1, RDt.inj k r2 s2]
end
end Tf
end
section
set_option Elab.async false
set_option linter.all false
set_option maxRecDepth 100000
/-! == by the evaluator: the proof. -/
namespace Tf
open PySem PySem.Spec PyProof.Rows L2
section
variable {T : Tb} {RX : XR} {W : WX} {X : Cx} {G : Prog} {cl : Call} {md : Md}
/-- an own == says True of a thing and itself -/
def Refl (G : Prog) (cl : Call) : Prop := ∀ c fs f b, G.meth c m_eq = some f → ansB (cl f [owned (.ins c fs), owned (.ins c fs)]) = some b → b = true
/-- the type of a value, for own comparisons -/
def tyD (T : Tb) : D → Option Value
  | .non => some (.type "NoneType")
  | .bl _ => some (.type "bool")
  | .int _ => some (.type "int")
  | .str _ => some (.type "str")
  | .tup _ => some (.type "tuple")
  | .lst _ => some (.type "list")
  | .ins c _ => some (.ref (T.cA c))
  | .scr _ => some (.type "list")
  | _ => none
def DVal (T : Tb) : D → Prop
  | .ins c _ => c < T.nc
  | _ => True
theorem RD.val {F : Hp} {x : D} {u : V} (h : RD T F x u) : DVal T x := by
  cases x with
  | ins c fs => obtain ⟨a, dx, gs, hc, _⟩ := h; exact hc
  | _ => trivial
/-- what an own == asks of the text -/
structure EqOk (X : Cx) (T : Tb) (RX : XR) (G : Prog) (cl : Call) (k : Nat) (fA : Nat → Addr) : Prop where
  at_ : ∀ c f, c < T.nc → G.meth c m_eq = some f → PySem.W.findIn X.K (.ref (T.cA c)) "__eq__" = some (some (.ref (fA f))) ∧ PySem.W.isFn X.K (.ref (fA f)) = true ∧ FnD X T RX cl k (fA f) f ∧
    ∀ y t, DVal T y → tyD T y = some t → PySem.W.notFirst X.K (T.cA c) t = true
  refl : Refl G cl
  one : ∀ (pins : List (Addr × Obj)) (z : L2.St) (F H : Hp) (s : Shared), Inv X pins z H s → Same F H → RDone T F
theorem looks_ty {pins : List (Addr × Obj)} {z : L2.St} {F H : Hp} {s : Shared} {y : D} {u : V} {v t : Value} (I : Inv X pins z H s) (sF : Same F H) (r : L2.RelV u v) (rd : RD T F y u) (e : tyD T y = some t) : PySem.W.Looks (model X.prog X.w) s.heap (typeOf v) t := by
  have obj : ∀ {a : Addr} {o : Obj} {c : Value}, s.heap.get? a = some o → o.cls = c → v = .ref a → PySem.W.Looks (model X.prog X.w) s.heap (typeOf v) c := fun {a o c} h hc hv => by
    subst hv hc
    exact PySem.W.Looks.andThen (PySem.W.Looks.ld (part := some headPart) h) .now
  cases y with
  | non => cases (Option.some.inj e); cases (show u = .non from rd); cases (show v = Value.none from r); exact PySem.W.Looks.of_pure rfl
  | bl b => cases (Option.some.inj e); cases (show u = .bl b from rd); cases (show v = Value.bool b from r); exact PySem.W.Looks.of_pure rfl
  | int i => cases (Option.some.inj e); cases (show u = .int i from rd); obtain ⟨tk, rfl⟩ := (show ∃ t, v = Value.int i t from r); exact PySem.W.Looks.of_pure rfl
  | str i => cases (Option.some.inj e); cases (show u = .str i from rd); obtain ⟨tk, rfl⟩ := (show ∃ t, v = Value.str i t from r); exact PySem.W.Looks.of_pure rfl
  | tup xs =>
    cases (Option.some.inj e)
    obtain ⟨a, us, rfl, ea, _⟩ := rd
    obtain ⟨_, its, _, hh⟩ := (show ObjOk X.prog X.w H s.heap a (.tup us) from I.hok a _ (sF _ _ ea))
    obtain ⟨o, h1, h2, _⟩ := hh
    exact obj h1 h2 r
  | lst xs =>
    cases (Option.some.inj e)
    obtain ⟨a, us, rfl, ea, _⟩ := rd
    obtain ⟨_, its, n, _, hh⟩ := (show ObjOk X.prog X.w H s.heap a (.lst us) from I.hok a _ (sF _ _ ea))
    exact obj hh rfl r
  | ins c fs =>
    cases (Option.some.inj e)
    obtain ⟨a, dx, gs, hc, rfl, ea, _⟩ := rd
    obtain ⟨ox, od, J⟩ := inst_at I (sF _ _ ea)
    cases (show v = Value.ref a from r)
    exact J.type
  | scr ns =>
    cases (Option.some.inj e)
    obtain ⟨a, ob, rfl, ea⟩ := rd
    obtain ⟨_, _, its, n, _, hh⟩ := (show ObjOk X.prog X.w H s.heap a (.frz ob (.lst (ns.map V.int))) from I.hok a _ (sF _ _ ea))
    exact obj hh rfl r
  | _ => cases e
theorem eqA_refl {rec : D → D → Option Bool} (hr : Refl G cl) (h : ∀ x b, rec x x = some b → b = true) (x : D) (b : Bool) (e : eqA G cl rec x x = some b) : b = true := by
  have hl : ∀ (xs : List D) (b : Bool), eqL rec xs xs = some b → b = true := fun xs => by
    induction xs with
    | nil => intro b e; exact (Option.some.inj e).symm
    | cons y ys ih =>
      intro b e
      have e : (match rec y y with
        | some true => eqL rec ys ys
        | some false => some false
        | none => none) = some b := e
      cases q : rec y y with
      | none => rw [q] at e; cases e
      | some c =>
        have := h y c q
        subst this
        rw [q] at e
        exact ih b e
  cases x with
  | non => exact (Option.some.inj e).symm
  | bl a => have e' := Option.some.inj (show some (a == a) = some b from e); rw [← e']; simp
  | int a => have e' := Option.some.inj (show some (a == a) = some b from e); rw [← e']; simp
  | str a => have e' := Option.some.inj (show some (a == a) = some b from e); rw [← e']; simp
  | lst xs =>
    have e : (if xs.length = xs.length then eqL rec xs xs else some false) = some b := e
    rw [if_pos rfl] at e
    exact hl xs b e
  | tup xs =>
    obtain ⟨c, ec, eb⟩ := Option.map_eq_some_iff.mp (show (eqL rec xs xs).map (fun b => b && decide (xs.length = xs.length)) = some b from e)
    have := hl xs c ec
    subst this
    rw [← eb]
    simp
  | ins c fs =>
    have e : (match G.meth c m_eq, eqTo (.ins c fs) with
    | some f, true => ansB (cl f [owned (.ins c fs), owned (.ins c fs)])
    | _, _ => none) = some b := e
    cases q : G.meth c m_eq with
    | none => rw [q] at e; cases e
    | some f => rw [q] at e; exact hr c fs f b q e
  | _ => cases e
theorem eqD_refl (hr : Refl G cl) : ∀ (d : Nat) (x : D) (b : Bool), eqD G cl d x x = some b → b = true
  | 0 => eqA_refl hr fun x b e => by cases e
  | d + 1 => eqA_refl hr (eqD_refl hr d)
/-- richCompare gives what rec says -/
def RcP (X : Cx) (T : Tb) (n : Nat) (rec : D → D → Option Bool) : Prop :=
  ∀ (x y : D) (b : Bool) (A : Around) (pins : List (Addr × Obj)) (s : Shared) (z : L2.St) (F H : Hp) (u1 u2 : V) (v1 v2 : Value), rec x y = some b → Sub X n A → Inv X pins z H s → L2.RelV u1 v1 → L2.RelV u2 v2 → Same F H → RD T F x u1 → RD T F y u2 →
    wpAny (model X.prog X.w) A (richCompare .Eq v1 v2) (fun r s' => r = .bool b ∧ ∃ H', Inv X pins z H' s' ∧ Ext H H') X.xe s
def EbP (X : Cx) (T : Tb) (n : Nat) (rec : D → D → Option Bool) : Prop :=
  ∀ (x y : D) (b : Bool) (A : Around) (pins : List (Addr × Obj)) (s : Shared) (z : L2.St) (F H : Hp) (u1 u2 : V) (v1 v2 : Value), rec x y = some b → Sub X n A → Inv X pins z H s → L2.RelV u1 v1 → L2.RelV u2 v2 → Same F H → RD T F x u1 → RD T F y u2 →
    wpAny (model X.prog X.w) A (eqBool v1 v2) (fun r s' => r = b ∧ ∃ H', Inv X pins z H' s' ∧ Ext H H') X.xe s
/-- the same state, below -/
theorem inv_at {n : Nat} {A : Around} {pins : List (Addr × Obj)} {z : L2.St} {H : Hp} {s : Shared} (sb : Sub X n A) (I : Inv X pins z H s) : Inv { X with A := A } pins z H s :=
  have ok : Cx.Ok { X with A := A } := ⟨I.ok.mod, I.ok.kind, I.ok.glob, I.ok.blt, I.ok.above, I.ok.inj, I.ok.has, I.ok.cab, fun _ => sb.room.hd, by show A.frames = _; rw [sb.fr]; exact I.ok.frames, I.ok.stk, I.ok.exf, I.ok.bs, I.ok.bsz, I.ok.noex, I.ok.exfs, I.ok.funs, I.ok.frf⟩
  ⟨ok, I.os, I.bare, I.base, I.loc, I.cell, I.free, I.freeC, I.pin, I.hok, I.len⟩
theorem inv_un {A : Around} {pins : List (Addr × Obj)} {z : L2.St} {H : Hp} {s : Shared} (ok : X.Ok) (I : Inv { X with A := A } pins z H s) : Inv X pins z H s := ⟨ok, I.os, I.bare, I.base, I.loc, I.cell, I.free, I.freeC, I.pin, I.hok, I.len⟩
theorem rc_scal {n : Nat} {A : Around} {pins : List (Addr × Obj)} {s : Shared} {z : L2.St} {H : Hp} {u1 u2 : V} {v1 v2 : Value} {b : Bool} (sb : Sub X n A) (I : Inv X pins z H s) (r1 : L2.RelV u1 v1) (r2 : L2.RelV u2 v2) (hs : scal u1 u2 = true) (hb : decide (u1 = u2) = b) :
    wpAny (model X.prog X.w) A (richCompare .Eq v1 v2) (fun r s' => r = .bool b ∧ ∃ H', Inv X pins z H' s' ∧ Ext H H') X.xe s := by
  have h := op_eq (X := { X with A := A }) pins s z H u1 u2 v1 v2 (fun v H' => v = .bl b ∧ H' = H) (inv_at sb I) r1 r2 ⟨hs, by rw [hb]; exact ⟨rfl, rfl⟩⟩
  have h : wpAny (model X.prog X.w) A (richCompare .Eq v1 v2) (EP { X with A := A } pins z fun v H' => v = .bl b ∧ H' = H) X.xe s := h
  refine wpAny_mono h (fun r s' ⟨v, H', I', rv, ev, eH⟩ => ?_) fun _ _ x => x
  subst ev eH
  exact ⟨rv, H', inv_un I.ok I', Ext.rfl'⟩
theorem ansB_some {r : CR} {b : Bool} (h : ansB r = some b) : r = .ret (.d (.bl b)) [] := by
  cases r with
  | ret v ls => cases v with
    | d x => cases x with
      | bl c => cases ls with
        | nil => cases (Option.some.inj h); rfl
        | cons _ _ => cases h
      | _ => cases h
    | _ => cases h
  | _ => cases h
theorem rc_own {k : Nat} {fA : Nat → Addr} (hO : EqOk X T RX G cl k fA) {c f : Nat} {fs : List (Nat × D)} {y : D} {b : Bool} {A : Around} {pins : List (Addr × Obj)} {s : Shared} {z : L2.St} {F H : Hp} {u1 u2 : V} {v1 v2 : Value} (ef : G.meth c m_eq = some f) (et : eqTo y = true) (ea : ansB (cl f [owned (.ins c fs), owned y]) = some b)
    (sb : Sub X k A) (I : Inv X pins z H s) (r1 : L2.RelV u1 v1) (r2 : L2.RelV u2 v2) (sF : Same F H) (rx : RD T F (.ins c fs) u1) (ry : RD T F y u2) :
    wpAny (model X.prog X.w) A (richCompare .Eq v1 v2) (fun r s' => r = .bool b ∧ ∃ H', Inv X pins z H' s' ∧ Ext H H') X.xe s := by
  obtain ⟨t, ht⟩ : ∃ t, tyD T y = some t := by cases y <;> first | exact ⟨_, rfl⟩ | cases et
  obtain ⟨a, dx, gs, hc, e1, eA, rf⟩ := id rx
  subst e1
  obtain rfl : v1 = Value.ref a := r1
  obtain ⟨h1, h2, FD, hnf⟩ := hO.at_ c f hc ef
  obtain ⟨ox, od, J⟩ := inst_at I (sF _ _ eA)
  obtain ⟨mm, hF⟩ := I.fr
  refine PySem.W.cmp_K (op := .Eq) sb.room.units0 hF I.ok.mod.kin J (looks_ty I sF r2 ry ht) (hnf y t ry.val ht) h1 h2 ?_
  have sp : spD T RX cl f [V.ref a, u2] H (fun v H' => v = .bl b ∧ Ext H H') fun _ _ _ => False := by
    refine ⟨fun a => if (F a).isSome then none else H a, F, [owned (.ins c fs), owned y], [], ⟨_, _, [], [], rfl, rfl, ⟨rfl, rx⟩, _, _, [], [], rfl, rfl, ⟨rfl, ry⟩, rfl, rfl⟩, ⟨fun a => by simp, fun a m => (by cases m), fun a m => (by cases m), fun a q e => ?_, sF, fun a q e => ?_⟩, ?_⟩
    · split at e
      · cases e
      · exact e
    · split at e
      · cases e
      · rename_i hn
        cases hh : F a with
        | none => rfl
        | some q => rw [hh] at hn; exact absurd rfl hn
    · rw [ansB_some ea]
      rintro F1 H1 u s1 ⟨o, B, C, eo, ro, rl, ow⟩
      have eo : O.d (.bl b) = o := Option.some.inj eo
      subst eo
      refine ⟨ro.2, fun a q e => ?_⟩
      cases hh : F a with
      | some q' =>
        have := sF _ _ hh
        rw [e] at this
        cases this
        exact ow.fH _ _ (s1 _ _ hh)
      | none =>
        refine ow.pH _ _ ?_
        show (if (F a).isSome then none else H a) = some q
        rw [hh]
        exact e
  have e0 : Env0 X.prog X.w X.K X.mg X.base A X.stack s H := by
    have e := I.env0
    exact ⟨by rw [sb.fr]; exact e.frames, e.mod, e.bs, e.bsz, e.funs, e.frf, e.hok, e.bare⟩
  refine wpAny_call (codeAny_mono (FD A X.stack s H [.ref a, v2] [.ref a, u2] _ _ sb.room e0 (.cons rfl (.cons r2 .nil)) sp) fun r s' hq => ?_)
  cases r with
  | error e =>
    obtain ⟨_, _, _, _, _, _, _, _, _, _, _, _, ff⟩ := hq
    exact ff.elim
  | ok fl =>
    cases fl with
    | ret w =>
      obtain ⟨zz, H', I', rz, ez, ex⟩ := I.after hq
      subst ez
      cases rz
      exact ⟨rfl, H', I', ex⟩
    | next => exact False.elim hq
    | brk => exact False.elim hq
    | cont => exact False.elim hq
theorem eqL_step {rec : D → D → Option Bool} {xs ys : List D} {i : Nat} {x y : D} {b : Bool} (ex : xs[i]? = some x) (ey : ys[i]? = some y) (h : eqL rec (xs.drop i) (ys.drop i) = some b) :
    ∃ c, rec x y = some c ∧ (c = true → eqL rec (xs.drop (i + 1)) (ys.drop (i + 1)) = some b) ∧ (c = false → b = false) := by
  obtain ⟨hx, ex⟩ := List.getElem?_eq_some_iff.mp ex
  obtain ⟨hy, ey⟩ := List.getElem?_eq_some_iff.mp ey
  rw [List.drop_eq_getElem_cons hx, List.drop_eq_getElem_cons hy, ex, ey] at h
  have h : (match rec x y with
    | some true => eqL rec (xs.drop (i + 1)) (ys.drop (i + 1))
    | some false => some false
    | none => none) = some b := h
  cases q : rec x y with
  | none => rw [q] at h; cases h
  | some c =>
    rw [q] at h
    cases c with
    | true => exact ⟨true, rfl, fun _ => h, fun e => (by cases e)⟩
    | false => exact ⟨false, rfl, fun e => (by cases e), fun _ => (Option.some.inj h).symm⟩
/-- item by item: the state of the walk -/
def WalkI (X : Cx) (pins : List (Addr × Obj)) (z : L2.St) (H : Hp) (rec : D → D → Option Bool) (xs ys : List D) (b : Bool) (i : Nat) (s' : Shared) : Prop := ∃ H', Inv X pins z H' s' ∧ Ext H H' ∧ eqL rec (xs.drop i) (ys.drop i) = some b
def WalkJ (X : Cx) (pins : List (Addr × Obj)) (z : L2.St) (H : Hp) (b : Bool) (s' : Shared) : Prop := ∃ H', Inv X pins z H' s' ∧ Ext H H' ∧ b = false
theorem walk_turn {n : Nat} {rec : D → D → Option Bool} (he : EbP X T n rec) {A : Around} (sb : Sub X (n + 1) A) {pins : List (Addr × Obj)} {z : L2.St} {F H : Hp} {xs ys : List D} {us1 us2 : List V} {its its2 : List Value} {b : Bool} (sF : Same F H) (rx : RDs T F xs us1) (ry : RDs T F ys us2) (r : Vals us1 its) (r2 : Vals us2 its2)
    (i : Nat) (h1 : i < its.toArray.size) (h2 : i < its2.toArray.size) (s' : Shared) (l : WalkI X pins z H rec xs ys b i s') :
    wpAny (model X.prog X.w) A.in1 (eqBool its.toArray[i] its2.toArray[i]) (fun r s2 => if r = true then WalkI X pins z H rec xs ys b (i + 1) s2 else WalkJ X pins z H b s2) X.xe s' := by
  obtain ⟨H1, I1, e1, hl⟩ := l
  have g1 : its[i]? = some its.toArray[i] := by
    have h1' : i < its.length := by simpa using h1
    rw [List.getElem?_eq_getElem h1'] <;> simp
  have g2 : its2[i]? = some its2.toArray[i] := by
    have h2' : i < its2.length := by simpa using h2
    rw [List.getElem?_eq_getElem h2'] <;> simp
  have k1 : i < us1.length := by rw [r.length]; simpa using h1
  have k2 : i < us2.length := by rw [r2.length]; simpa using h2
  have j1 : i < xs.length := by rw [rx.len]; exact k1
  have j2 : i < ys.length := by rw [ry.len]; exact k2
  obtain ⟨u, hu, rd1⟩ := rx.get (List.getElem?_eq_getElem j1)
  obtain ⟨v, hv, rd2⟩ := ry.get (List.getElem?_eq_getElem j2)
  obtain ⟨w1, hw1, rw1⟩ := r.get hu
  obtain ⟨w2, hw2, rw2⟩ := r2.get hv
  rw [g1] at hw1
  rw [g2] at hw2
  rw [Option.some.inj hw1, Option.some.inj hw2]
  obtain ⟨c, hc, ht, hf⟩ := eqL_step (List.getElem?_eq_getElem j1) (List.getElem?_eq_getElem j2) hl
  refine wpAny_mono (he _ _ c A.in1 pins s' z F H1 u v w1 w2 hc sb.in1 I1 rw1 rw2 (fun a o e => e1 a o (sF a o e)) rd1 rd2) (fun r s2 q => ?_) fun _ _ x => x
  obtain ⟨hr, H2, I2, e2⟩ := q
  subst hr
  cases r with
  | true => exact ⟨H2, I2, e1.trans e2, ht rfl⟩
  | false => exact ⟨H2, I2, e1.trans e2, hf rfl⟩
theorem rc_lst {n : Nat} {rec : D → D → Option Bool} (he : EbP X T n rec) {A : Around} (sb : Sub X (n + 1) A) {pins : List (Addr × Obj)} {s : Shared} {z : L2.St} {F H : Hp} {xs ys : List D} {b : Bool} {u1 u2 : V} {v1 v2 : Value} (e : (if xs.length = ys.length then eqL rec xs ys else some false) = some b) (I : Inv X pins z H s) (r1 : L2.RelV u1 v1) (r2 : L2.RelV u2 v2) (sF : Same F H)
    (rx : RD T F (.lst xs) u1) (ry : RD T F (.lst ys) u2) : wpAny (model X.prog X.w) A (richCompare .Eq v1 v2) (fun r s' => r = .bool b ∧ ∃ H', Inv X pins z H' s' ∧ Ext H H') X.xe s := by
  obtain ⟨l, us1, e1, el, rx⟩ := rx
  obtain ⟨m, us2, e2, em, ry⟩ := ry
  subst e1 e2
  obtain rfl : v1 = Value.ref l := r1
  obtain rfl : v2 = Value.ref m := r2
  have at_ : ∀ (H' : Hp) (s' : Shared), Inv X pins z H' s' → Ext H H' → ∃ (its its2 : List Value) (n n2 : Nat), Vals us1 its ∧ Vals us2 its2 ∧ s'.heap.get? l = some { cls := .type "list", data := .seq its.toArray n } ∧ s'.heap.get? m = some { cls := .type "list", data := .seq its2.toArray n2 } := fun H' s' I' ex => by
    obtain ⟨its, n, v, g, _⟩ := I'.lst (ex _ _ (sF _ _ el))
    obtain ⟨its2, n2, v2, g2, _⟩ := I'.lst (ex _ _ (sF _ _ em))
    exact ⟨its, its2, n, n2, v, v2, g, g2⟩
  obtain ⟨its, its2, n1, n2, v, v2, g, g2⟩ := at_ H s I Ext.rfl'
  refine PySem.wpAny_richCompare_same_room (op := .Eq) ⟨_, g, rfl⟩ ⟨_, g2, rfl⟩ PySem.F.slot_list_eq (GQ.call_here PySem.F.slot_list_eq ⟨_, g, rfl⟩ PySem.F.entry_list_eq (PySem.F.args_list_eq_2 _ _) ?_) sb.room.units0
  by_cases hlen : xs.length = ys.length
  · rw [if_pos hlen] at e
    have hN : us1.length = us2.length := by rw [← rx.len, ← ry.len, hlen]
    refine TfE.list_eq (R := wants (fun v s' => v ≠ .notImplemented ∧ (v = .bool b ∧ ∃ H', Inv X pins z H' s' ∧ Ext H H')) X.xe) l m us1.length (WalkI X pins z H rec xs ys b) (WalkJ X pins z H b) ?_ ?_ ?_ ?_ ⟨H, I, Ext.rfl', e⟩
    · rintro i s' ⟨H', I', ex, hl⟩
      obtain ⟨it1, it2, m1, m2, w1, w2, k1, k2⟩ := at_ H' s' I' ex
      refine ⟨it1.toArray, it2.toArray, m1, m2, k1, k2, by simpa using w1.length.symm, by rw [hN]; simpa using w2.length.symm, fun h1 h2 => ?_⟩
      exact walk_turn he sb sF rx ry w1 w2 i h1 h2 s' ⟨H', I', ex, hl⟩
    · rintro s' ⟨H', I', ex, hl⟩
      refine ⟨(fun x => nomatch x), ?_, H', I', ex⟩
      rw [List.drop_of_length_le (by rw [rx.len]; exact Nat.le_refl _)] at hl
      rw [← Option.some.inj hl]
    · rintro s' ⟨H', I', ex, hb⟩
      exact ⟨(fun x => nomatch x), by rw [hb], H', I', ex⟩
    · rintro s' ⟨H', I', ex, hb⟩
      obtain ⟨it1, it2, m1, m2, w1, w2, k1, k2⟩ := at_ H' s' I' ex
      exact ⟨it1.toArray, it2.toArray, m1, m2, k1, k2, by simpa using w1.length.symm, by rw [hN]; simpa using w2.length.symm⟩
  · rw [if_neg hlen] at e
    have hb := Option.some.inj e
    refine TfE.list_ne (R := wants (fun v s' => v ≠ .notImplemented ∧ (v = .bool b ∧ ∃ H', Inv X pins z H' s' ∧ Ext H H')) X.xe) l m its.toArray its2.toArray n1 n2 g g2 ?_ ⟨(fun x => nomatch x), by rw [← hb], H, I, Ext.rfl'⟩
    intro q
    apply hlen
    rw [rx.len, ry.len, v.length, v2.length]
    simpa using q
theorem rc_tup {n : Nat} {rec : D → D → Option Bool} (he : EbP X T n rec) {A : Around} (sb : Sub X (n + 1) A) {pins : List (Addr × Obj)} {s : Shared} {z : L2.St} {F H : Hp} {xs ys : List D} {b : Bool} {u1 u2 : V} {v1 v2 : Value} (e : (eqL rec xs ys).map (fun b => b && decide (xs.length = ys.length)) = some b) (I : Inv X pins z H s) (r1 : L2.RelV u1 v1) (r2 : L2.RelV u2 v2) (sF : Same F H)
    (rx : RD T F (.tup xs) u1) (ry : RD T F (.tup ys) u2) : wpAny (model X.prog X.w) A (richCompare .Eq v1 v2) (fun r s' => r = .bool b ∧ ∃ H', Inv X pins z H' s' ∧ Ext H H') X.xe s := by
  obtain ⟨b0, e0, eb⟩ := Option.map_eq_some_iff.mp e
  obtain ⟨l, us1, e1, el, rx⟩ := rx
  obtain ⟨m, us2, e2, em, ry⟩ := ry
  subst e1 e2
  obtain rfl : v1 = Value.ref l := r1
  obtain rfl : v2 = Value.ref m := r2
  obtain ⟨its, v, g, _⟩ := I.tuple (.of (sF _ _ el))
  obtain ⟨its2, v2, g2, _⟩ := I.tuple (.of (sF _ _ em))
  obtain ⟨⟨cls, dd, data, sl⟩, ho, hc, n1, hd⟩ := id g
  obtain ⟨⟨cls2, dd2, data2, sl2⟩, ho2, hc2, n2, hd2⟩ := id g2
  simp only at hc hd hc2 hd2
  subst hc hd hc2 hd2
  refine PySem.wpAny_richCompare_same_room (op := .Eq) ⟨_, ho, rfl⟩ ⟨_, ho2, rfl⟩ PySem.F.slot_tuple_eq (GQ.call_here PySem.F.slot_tuple_eq ⟨_, ho, rfl⟩ PySem.F.entry_tuple_eq (PySem.F.args_tuple_eq_2 _ _) ?_) sb.room.units0
  have L1 : its.toArray.size = xs.length := by rw [rx.len, v.length]; simp
  have L2' : its2.toArray.size = ys.length := by rw [ry.len, v2.length]; simp
  refine TfE.tuple_eq (R := wants (fun v s' => v ≠ .notImplemented ∧ (v = .bool b ∧ ∃ H', Inv X pins z H' s' ∧ Ext H H')) X.xe) l m its.toArray its2.toArray n1 n2 dd dd2 sl sl2 (WalkI X pins z H rec xs ys b0) (WalkJ X pins z H b0) ?_ ?_ ?_ ho ho2 ⟨H, I, Ext.rfl', e0⟩
  · exact fun i h1 h2 s' w => walk_turn he sb sF rx ry v v2 i h1 h2 s' w
  · rintro i s' ⟨H', I', ex, hl⟩ hi
    refine ⟨(fun x => nomatch x), ?_, H', I', ex⟩
    have hb0 : b0 = true := by
      rcases hi with hi | hi
      · rw [List.drop_of_length_le (by rw [← L1, hi]; exact Nat.le_refl _)] at hl
        exact (Option.some.inj hl).symm
      · rw [List.drop_of_length_le (l := ys) (by rw [← L2', hi]; exact Nat.le_refl _)] at hl
        cases q : xs.drop i with
        | nil => rw [q] at hl; exact (Option.some.inj hl).symm
        | cons x r => rw [q] at hl; exact (Option.some.inj hl).symm
    rw [← eb, hb0, L1, L2']
    simp [BEq.beq]
  · rintro s' ⟨H', I', ex, hb⟩
    exact ⟨(fun x => nomatch x), by rw [← eb, hb]; rfl, H', I', ex⟩
end
end Tf
end
section
set_option Elab.async false
set_option linter.all false
set_option maxRecDepth 100000
/-! == by the evaluator: joined. -/
namespace Tf
open PySem PySem.Spec PyProof.Rows L2
theorem eqBool_ne {prog : Program} {w : World} {A : Around} {E : Value → Shared → Prop} {s : Shared} {l : Addr} {v : Value} {Q : Bool → Shared → Prop} (hne : (Value.ref l == v) = false) (h : wpAny (model prog w) A (richCompare .Eq (.ref l) v) (fun v s' => ∃ r, v = .bool r ∧ Q r s') E s) : wpAny (model prog w) A (eqBool (.ref l) v) Q E s := by
  unfold eqBool
  refine wpAny_holding ?_
  refine wpAny_ite_split (fun hab => absurd hab (by rw [hne]; simp)) (fun _ => ?_)
  refine wpAny_bind (wpAny_mono h (fun v s' hv => ?_) fun _ _ x => x)
  obtain ⟨r, rfl, q⟩ := hv
  exact wpAny_truthy_bool q
section
variable {T : Tb} {RX : XR} {W : WX} {X : Cx} {G : Prog} {cl : Call} {md : Md}
/-- two scalars: what eqA says -/
theorem eqA_scal {rec : D → D → Option Bool} {F : Hp} {x y : D} {b : Bool} {u1 u2 : V} (hx : scalD x = true) (e : eqA G cl rec x y = some b) (r1 : RD T F x u1) (r2 : RD T F y u2) : scal u1 u2 = true ∧ decide (u1 = u2) = b ∧ flatV u1 = true ∧ flatV u2 = true ∧ eqV u1 u2 = b := by
  cases x with
  | non =>
    cases (show u1 = .non from r1)
    cases y with
    | non => cases (show u2 = .non from r2); cases (Option.some.inj e); exact ⟨rfl, rfl, rfl, rfl, rfl⟩
    | bl c => cases (show u2 = .bl c from r2); cases (Option.some.inj e); exact ⟨rfl, rfl, rfl, rfl, rfl⟩
    | int c => cases (show u2 = .int c from r2); cases (Option.some.inj e); exact ⟨rfl, rfl, rfl, rfl, rfl⟩
    | str c => cases (show u2 = .str c from r2); cases (Option.some.inj e); exact ⟨rfl, rfl, rfl, rfl, rfl⟩
    | _ => cases e
  | bl a =>
    cases (show u1 = .bl a from r1)
    cases y with
    | non => cases (show u2 = .non from r2); cases (Option.some.inj e); exact ⟨rfl, rfl, rfl, rfl, rfl⟩
    | bl c => cases (show u2 = .bl c from r2); cases (Option.some.inj (show some (a == c) = some b from e)); exact ⟨rfl, dec_bl, rfl, rfl, rfl⟩
    | str c => cases (show u2 = .str c from r2); cases (Option.some.inj e); exact ⟨rfl, rfl, rfl, rfl, rfl⟩
    | _ => cases e
  | int a =>
    cases (show u1 = .int a from r1)
    cases y with
    | non => cases (show u2 = .non from r2); cases (Option.some.inj e); exact ⟨rfl, rfl, rfl, rfl, rfl⟩
    | int c => cases (show u2 = .int c from r2); cases (Option.some.inj (show some (a == c) = some b from e)); exact ⟨rfl, dec_int, rfl, rfl, rfl⟩
    | str c => cases (show u2 = .str c from r2); cases (Option.some.inj e); exact ⟨rfl, rfl, rfl, rfl, rfl⟩
    | _ => cases e
  | str a =>
    cases (show u1 = .str a from r1)
    cases y with
    | non => cases (show u2 = .non from r2); cases (Option.some.inj e); exact ⟨rfl, rfl, rfl, rfl, rfl⟩
    | bl c => cases (show u2 = .bl c from r2); cases (Option.some.inj e); exact ⟨rfl, rfl, rfl, rfl, rfl⟩
    | int c => cases (show u2 = .int c from r2); cases (Option.some.inj e); exact ⟨rfl, rfl, rfl, rfl, rfl⟩
    | str c => cases (show u2 = .str c from r2); cases (Option.some.inj (show some (a == c) = some b from e)); exact ⟨rfl, dec_str, rfl, rfl, rfl⟩
    | _ => cases e
  | _ => cases hx
theorem rc_A {k n : Nat} {fA : Nat → Addr} {rec : D → D → Option Bool} (hO : EqOk X T RX G cl k fA) (hk : k ≤ n + 1) (he : EbP X T n rec) : RcP X T (n + 1) (eqA G cl rec) := by
  intro x y b A pins s z F H u1 u2 v1 v2 e sb I r1 r2 sF rx ry
  cases hx : scalD x with
  | true =>
    obtain ⟨h1, h2, _⟩ := eqA_scal hx e rx ry
    exact rc_scal sb I r1 r2 h1 h2
  | false =>
    cases x with
    | lst xs => cases y with
      | lst ys => exact rc_lst he sb e I r1 r2 sF rx ry
      | _ => cases e
    | tup xs => cases y with
      | tup ys => exact rc_tup he sb e I r1 r2 sF rx ry
      | _ => cases e
    | ins c fs =>
      have e : (match G.meth c m_eq, eqTo y with
        | some f, true => ansB (cl f [owned (.ins c fs), owned y])
        | _, _ => none) = some b := e
      cases q : G.meth c m_eq with
      | none => rw [q] at e; cases e
      | some f => cases q2 : eqTo y with
        | false => rw [q, q2] at e; cases e
        | true =>
          rw [q, q2] at e
          exact rc_own hO q q2 e (sb.mono hk) I r1 r2 sF rx ry
    | non => cases hx
    | bl a => cases hx
    | int a => cases hx
    | str a => cases hx
    | _ => cases e
theorem eb_A {k n : Nat} {fA : Nat → Addr} {rec : D → D → Option Bool} (hO : EqOk X T RX G cl k fA) (hr : ∀ x b, rec x x = some b → b = true) (h : RcP X T n (eqA G cl rec)) : EbP X T n (eqA G cl rec) := by
  intro x y b A pins s z F H u1 u2 v1 v2 e sb I r1 r2 sF rx ry
  cases hx : scalD x with
  | true =>
    obtain ⟨_, _, f1, f2, h3⟩ := eqA_scal hx e rx ry
    have q := eqAt_V (A := A) (s := s) r1 r2 f1 f2
    rw [h3] at q
    exact q X.prog X.w X.xe _ ⟨rfl, H, I, Ext.rfl'⟩
  | false =>
    obtain ⟨l, hl⟩ : ∃ l, v1 = Value.ref l := by
      cases x with
      | lst xs => obtain ⟨a, us, e1, _⟩ := rx; subst e1; exact ⟨a, r1⟩
      | tup xs => obtain ⟨a, us, e1, _⟩ := rx; subst e1; exact ⟨a, r1⟩
      | ins c fs => obtain ⟨a, dx, gs, hc, e1, _⟩ := rx; subst e1; exact ⟨a, r1⟩
      | non => cases hx
      | bl a => cases hx
      | int a => cases hx
      | str a => cases hx
      | _ => cases e
    subst hl
    cases hv : (Value.ref l == v2) with
    | false =>
      refine eqBool_ne hv (wpAny_mono (h x y b A pins s z F H u1 u2 _ v2 e sb I r1 r2 sF rx ry) (fun r s' q => ?_) fun _ _ x => x)
      exact ⟨b, q.1, rfl, q.2⟩
    | true =>
      have ev : Value.ref l = v2 := eq_of_beq hv
      subst ev
      have eu : u1 = u2 := r1.inj r2
      subst eu
      have exy := RD.inj (hO.one pins z F H s I sF) rx ry
      subst exy
      have hb := eqA_refl hO.refl hr x b e
      subst hb
      exact SeqAt.EqAt.same (A := A) (s := s) (.ref l) X.prog X.w X.xe _ ⟨rfl, H, I, Ext.rfl'⟩
theorem eq_all {k : Nat} {fA : Nat → Addr} (hO : EqOk X T RX G cl k fA) : ∀ d : Nat, RcP X T (k + d + 1) (eqD G cl d) ∧ EbP X T (k + d + 1) (eqD G cl d)
  | 0 => by
    have h0 : EbP X T (k + 0) (fun _ _ => none) := fun x y b A pins s z F H u1 u2 v1 v2 e => by cases e
    have h1 := rc_A hO (by omega) h0
    exact ⟨h1, eb_A hO (fun x b e => by cases e) h1⟩
  | d + 1 => by
    have ih := eq_all hO d
    have h1 := rc_A hO (by omega) ih.2
    exact ⟨h1, eb_A hO (eqD_refl hO.refl d) h1⟩
end
end Tf
end
section
set_option Elab.async false
set_option linter.all false
set_option maxRecDepth 100000
/-! != and in; comparisons. -/
namespace Tf
open PySem PySem.Spec PyProof.Rows L2
section
variable {T : Tb} {RX : XR} {W : WX} {X : Cx} {G : Prog} {cl : Call} {md : Md}
theorem rn_lst {n : Nat} {rec : D → D → Option Bool} (he : EbP X T n rec) {A : Around} (sb : Sub X (n + 1) A) {pins : List (Addr × Obj)} {s : Shared} {z : L2.St} {F H : Hp} {xs ys : List D} {b : Bool} {u1 u2 : V} {v1 v2 : Value} (e : (if xs.length = ys.length then eqL rec xs ys else some false) = some b) (I : Inv X pins z H s) (r1 : L2.RelV u1 v1) (r2 : L2.RelV u2 v2) (sF : Same F H)
    (rx : RD T F (.lst xs) u1) (ry : RD T F (.lst ys) u2) : wpAny (model X.prog X.w) A (richCompare .NotEq v1 v2) (fun r s' => r = .bool (!b) ∧ ∃ H', Inv X pins z H' s' ∧ Ext H H') X.xe s := by
  obtain ⟨l, us1, e1, el, rx⟩ := rx
  obtain ⟨m, us2, e2, em, ry⟩ := ry
  subst e1 e2
  obtain rfl : v1 = Value.ref l := r1
  obtain rfl : v2 = Value.ref m := r2
  have at_ : ∀ (H' : Hp) (s' : Shared), Inv X pins z H' s' → Ext H H' → ∃ (its its2 : List Value) (n n2 : Nat), Vals us1 its ∧ Vals us2 its2 ∧ s'.heap.get? l = some { cls := .type "list", data := .seq its.toArray n } ∧ s'.heap.get? m = some { cls := .type "list", data := .seq its2.toArray n2 } := fun H' s' I' ex => by
    obtain ⟨its, n, v, g, _⟩ := I'.lst (ex _ _ (sF _ _ el))
    obtain ⟨its2, n2, v2, g2, _⟩ := I'.lst (ex _ _ (sF _ _ em))
    exact ⟨its, its2, n, n2, v, v2, g, g2⟩
  obtain ⟨its, its2, n1, n2, v, v2, g, g2⟩ := at_ H s I Ext.rfl'
  refine PySem.wpAny_richCompare_same_room (op := .NotEq) ⟨_, g, rfl⟩ ⟨_, g2, rfl⟩ PySem.F.slot_list_ne (GQ.call_here PySem.F.slot_list_ne ⟨_, g, rfl⟩ PySem.F.entry_list_ne (PySem.F.args_list_ne_2 _ _) ?_) sb.room.units0
  by_cases hlen : xs.length = ys.length
  · rw [if_pos hlen] at e
    have hN : us1.length = us2.length := by rw [← rx.len, ← ry.len, hlen]
    refine TfE.list_neq (R := wants (fun v s' => v ≠ .notImplemented ∧ (v = .bool (!b) ∧ ∃ H', Inv X pins z H' s' ∧ Ext H H')) X.xe) l m us1.length (WalkI X pins z H rec xs ys b) (WalkJ X pins z H b) ?_ ?_ ?_ ?_ ⟨H, I, Ext.rfl', e⟩
    · rintro i s' ⟨H', I', ex, hl⟩
      obtain ⟨it1, it2, m1, m2, w1, w2, k1, k2⟩ := at_ H' s' I' ex
      refine ⟨it1.toArray, it2.toArray, m1, m2, k1, k2, by simpa using w1.length.symm, by rw [hN]; simpa using w2.length.symm, fun h1 h2 => ?_⟩
      exact walk_turn he sb sF rx ry w1 w2 i h1 h2 s' ⟨H', I', ex, hl⟩
    · rintro s' ⟨H', I', ex, hl⟩
      refine ⟨(fun x => nomatch x), ?_, H', I', ex⟩
      rw [List.drop_of_length_le (by rw [rx.len]; exact Nat.le_refl _)] at hl
      rw [← Option.some.inj hl]; rfl
    · rintro s' ⟨H', I', ex, hb⟩
      exact ⟨(fun x => nomatch x), by rw [hb]; rfl, H', I', ex⟩
    · rintro s' ⟨H', I', ex, hb⟩
      obtain ⟨it1, it2, m1, m2, w1, w2, k1, k2⟩ := at_ H' s' I' ex
      exact ⟨it1.toArray, it2.toArray, m1, m2, k1, k2, by simpa using w1.length.symm, by rw [hN]; simpa using w2.length.symm⟩
  · rw [if_neg hlen] at e
    have hb := Option.some.inj e
    refine TfE.list_nne (R := wants (fun v s' => v ≠ .notImplemented ∧ (v = .bool (!b) ∧ ∃ H', Inv X pins z H' s' ∧ Ext H H')) X.xe) l m its.toArray its2.toArray n1 n2 g g2 ?_ ⟨(fun x => nomatch x), by rw [← hb]; rfl, H, I, Ext.rfl'⟩
    intro q
    apply hlen
    rw [rx.len, ry.len, v.length, v2.length]
    simpa using q
theorem rn_tup {n : Nat} {rec : D → D → Option Bool} (he : EbP X T n rec) {A : Around} (sb : Sub X (n + 1) A) {pins : List (Addr × Obj)} {s : Shared} {z : L2.St} {F H : Hp} {xs ys : List D} {b : Bool} {u1 u2 : V} {v1 v2 : Value} (e : (eqL rec xs ys).map (fun b => b && decide (xs.length = ys.length)) = some b) (I : Inv X pins z H s) (r1 : L2.RelV u1 v1) (r2 : L2.RelV u2 v2) (sF : Same F H)
    (rx : RD T F (.tup xs) u1) (ry : RD T F (.tup ys) u2) : wpAny (model X.prog X.w) A (richCompare .NotEq v1 v2) (fun r s' => r = .bool (!b) ∧ ∃ H', Inv X pins z H' s' ∧ Ext H H') X.xe s := by
  obtain ⟨b0, e0, eb⟩ := Option.map_eq_some_iff.mp e
  obtain ⟨l, us1, e1, el, rx⟩ := rx
  obtain ⟨m, us2, e2, em, ry⟩ := ry
  subst e1 e2
  obtain rfl : v1 = Value.ref l := r1
  obtain rfl : v2 = Value.ref m := r2
  obtain ⟨its, v, g, _⟩ := I.tuple (.of (sF _ _ el))
  obtain ⟨its2, v2, g2, _⟩ := I.tuple (.of (sF _ _ em))
  obtain ⟨⟨cls, dd, data, sl⟩, ho, hc, n1, hd⟩ := id g
  obtain ⟨⟨cls2, dd2, data2, sl2⟩, ho2, hc2, n2, hd2⟩ := id g2
  simp only at hc hd hc2 hd2
  subst hc hd hc2 hd2
  refine PySem.wpAny_richCompare_same_room (op := .NotEq) ⟨_, ho, rfl⟩ ⟨_, ho2, rfl⟩ PySem.F.slot_tuple_ne (GQ.call_here PySem.F.slot_tuple_ne ⟨_, ho, rfl⟩ PySem.F.entry_tuple_ne (PySem.F.args_tuple_ne_2 _ _) ?_) sb.room.units0
  have L1 : its.toArray.size = xs.length := by rw [rx.len, v.length]; simp
  have L2' : its2.toArray.size = ys.length := by rw [ry.len, v2.length]; simp
  refine TfE.tuple_neq (R := wants (fun v s' => v ≠ .notImplemented ∧ (v = .bool (!b) ∧ ∃ H', Inv X pins z H' s' ∧ Ext H H')) X.xe) l m its.toArray its2.toArray n1 n2 dd dd2 sl sl2 (WalkI X pins z H rec xs ys b0) (WalkJ X pins z H b0) ?_ ?_ ?_ ho ho2 ⟨H, I, Ext.rfl', e0⟩
  · exact fun i h1 h2 s' w => walk_turn he sb sF rx ry v v2 i h1 h2 s' w
  · rintro i s' ⟨H', I', ex, hl⟩ hi
    refine ⟨(fun x => nomatch x), ?_, H', I', ex⟩
    have hb0 : b0 = true := by
      rcases hi with hi | hi
      · rw [List.drop_of_length_le (by rw [← L1, hi]; exact Nat.le_refl _)] at hl
        exact (Option.some.inj hl).symm
      · rw [List.drop_of_length_le (l := ys) (by rw [← L2', hi]; exact Nat.le_refl _)] at hl
        cases q : xs.drop i with
        | nil => rw [q] at hl; exact (Option.some.inj hl).symm
        | cons x r => rw [q] at hl; exact (Option.some.inj hl).symm
    rw [← eb, hb0, L1, L2']
    simp [bne, BEq.beq]
  · rintro s' ⟨H', I', ex, hb⟩
    exact ⟨(fun x => nomatch x), by rw [← eb, hb]; rfl, H', I', ex⟩
/-- a comparison serves what the evaluator says -/
def CmpOk (X : Cx) (T : Tb) (G : Prog) (cl : Call) (op : Cop) (o : CmpOp) : Prop :=
  ∀ (pins : List (Addr × Obj)) (s : Shared) (P F H : Hp) (σ : Fr) (z : L2.St) (x : D) (vv : Val) (c : Bool) (u1 u2 : V) (v1 v2 : Value), Inv X pins z H s → L2.RelV u1 v1 → L2.RelV u2 v2 → RD T F x u1 → RelV T P F H σ z vv u2 → cmpV G cl op x vv = some c →
    wpAny (model X.prog X.w) X.A (compareOp o v1 v2) (fun r s' => r = .bool c ∧ ∃ H', Inv X pins z H' s' ∧ Same H H') X.xe s
theorem toD_raw {P F H : Hp} {σ : Fr} {z : L2.St} {v : Val} {u : V} {x y : D} {w : V} (h : RelV T P F H σ z v u) (e : toD v = some y) (rx : RD T F x w) : ∃ F', RD T F' x w ∧ RD T F' y u ∧ Same F' H := by
  obtain ⟨F', s, rel, r⟩ := h.toD e
  obtain ⟨A, k⟩ := rel
  exact ⟨F', rx.mono s, r, k.fH⟩
theorem ex_same {H H' : Hp} (h : Ext H H') : Same H H' := h
/-- of two ints -/
theorem co_int {op : Cop} {o : CmpOp} {g : Int → Int → Bool} (ho : OpR X (compareOp o) (rI0 fun i j => .bl (g i j))) (hv : ∀ x vv c, cmpV G cl op x vv = some c → ∃ i j, x = .int i ∧ toD vv = some (.int j) ∧ c = g i j) : CmpOk X T G cl op o := by
  intro pins s P F H σ z x vv c u1 u2 v1 v2 I r1 r2 rx rv e
  obtain ⟨i, j, rfl, ey, rfl⟩ := hv x vv c e
  obtain ⟨F', _, ry, _⟩ := toD_raw rv ey rx
  refine wpAny_mono (ho pins s z H u1 u2 v1 v2 (fun v H' => v = .bl (g i j) ∧ H' = H) I r1 r2 ⟨i, j, rx, ry, rfl, rfl⟩) (fun r s' ⟨v, H', I', rv', ev, eH⟩ => ?_) fun _ _ x => x
  subst ev eH
  exact ⟨rv', H', I', Same.refl _⟩
theorem cmp_int {op : Cop} {x : D} {vv : Val} {c : Bool} {g : Int → Int → Bool} (h1 : cmpV G cl op x vv = (toD vv).bind fun y => cmpD G cl op x y) (h2 : ∀ i j, cmpD G cl op (.int i) (.int j) = some (g i j)) (h3 : ∀ x y c, cmpD G cl op x y = some c → ∃ i j, x = .int i ∧ y = .int j) (e : cmpV G cl op x vv = some c) :
    ∃ i j, x = .int i ∧ toD vv = some (.int j) ∧ c = g i j := by
  rw [h1] at e
  obtain ⟨y, ey, e⟩ := Option.bind_eq_some_iff.mp e
  obtain ⟨i, j, rfl, rfl⟩ := h3 x y c e
  rw [h2] at e
  exact ⟨i, j, rfl, ey, (Option.some.inj e).symm⟩
theorem co_lt : CmpOk X T G cl .lt .Lt := co_int op_lt fun x vv c e => cmp_int (g := fun i j => decide (i < j)) rfl (fun _ _ => rfl) (fun x y c h => by cases x <;> cases y <;> first | exact ⟨_, _, rfl, rfl⟩ | cases h) e
theorem co_le : CmpOk X T G cl .le .LtE := co_int op_le fun x vv c e => cmp_int (g := fun i j => decide (i ≤ j)) rfl (fun _ _ => rfl) (fun x y c h => by cases x <;> cases y <;> first | exact ⟨_, _, rfl, rfl⟩ | cases h) e
theorem co_gt : CmpOk X T G cl .gt .Gt := co_int op_gt fun x vv c e => cmp_int (g := fun i j => decide (j < i)) rfl (fun _ _ => rfl) (fun x y c h => by cases x <;> cases y <;> first | exact ⟨_, _, rfl, rfl⟩ | cases h) e
theorem co_ge : CmpOk X T G cl .ge .GtE := co_int op_ge fun x vv c e => cmp_int (g := fun i j => decide (j ≤ i)) rfl (fun _ _ => rfl) (fun x y c h => by cases x <;> cases y <;> first | exact ⟨_, _, rfl, rfl⟩ | cases h) e
theorem co_eq {k : Nat} {fA : Nat → Addr} (hO : EqOk X T RX G cl k fA) (hr : Room (k + 6) X.A) : CmpOk X T G cl .eq .Eq := by
  intro pins s P F H σ z x vv c u1 u2 v1 v2 I r1 r2 rx rv e
  obtain ⟨y, ey, e⟩ := Option.bind_eq_some_iff.mp (show ((toD vv).bind fun y => eqD G cl eqN x y) = some c from e)
  obtain ⟨F', rx', ry, sF⟩ := toD_raw rv ey rx
  exact (eq_all hO 5).1 x y c X.A pins s z F' H u1 u2 v1 v2 e ⟨hr, rfl⟩ I r1 r2 sF rx' ry
theorem non_or {F : Hp} {x : D} {u : V} (h : RD T F x u) : decide (u = .non) = isNon x := by
  cases x with
  | non => cases (show u = .non from h); rfl
  | bl a => cases (show u = .bl a from h); rfl
  | int a => cases (show u = .int a from h); rfl
  | str a => cases (show u = .str a from h); rfl
  | tup xs => obtain ⟨a, us, e, _⟩ := h; subst e; rfl
  | lst xs => obtain ⟨a, us, e, _⟩ := h; subst e; rfl
  | ins c fs => obtain ⟨a, dx, gs, hc, e, _⟩ := h; subst e; rfl
  | dcI xs => obtain ⟨a, us, e, _⟩ := h; subst e; rfl
  | dcT xs => obtain ⟨a, us, e, _⟩ := h; subst e; rfl
  | cls c => cases h.2; rfl
  | scr ns => obtain ⟨a, us, e, _⟩ := h; subst e; rfl
theorem co_is : CmpOk X T G cl .is_ .Is := by
  intro pins s P F H σ z x vv c u1 u2 v1 v2 I r1 r2 rx rv e
  obtain ⟨y, ey, e⟩ := Option.bind_eq_some_iff.mp (show ((toD vv).bind fun y => cmpD G cl .is_ x y) = some c from e)
  obtain ⟨F', rx', ry, sF⟩ := toD_raw rv ey rx
  cases y with
  | non =>
    have hc : decide (u1 = .non) = c := (non_or rx).trans (Option.some.inj (show some (isNon x) = some c from by cases x <;> exact e))
    refine wpAny_mono (op_isN pins s z H u1 u2 v1 v2 (fun v H' => v = .bl c ∧ H' = H) I r1 r2 ⟨ry, by rw [hc]; exact ⟨rfl, rfl⟩⟩) (fun r s' ⟨v, H', I', rv', ev, eH⟩ => ?_) fun _ _ x => x
    subst ev eH
    exact ⟨rv', H', I', Same.refl _⟩
  | _ => cases x <;> cases e
theorem co_isnot : CmpOk X T G cl .isnot .IsNot := by
  intro pins s P F H σ z x vv c u1 u2 v1 v2 I r1 r2 rx rv e
  obtain ⟨y, ey, e⟩ := Option.bind_eq_some_iff.mp (show ((toD vv).bind fun y => cmpD G cl .isnot x y) = some c from e)
  obtain ⟨F', rx', ry, sF⟩ := toD_raw rv ey rx
  cases y with
  | non =>
    have hc : (!decide (u1 = .non)) = c := by
      have e' : (!isNon x) = c := Option.some.inj (show some (!isNon x) = some c from by cases x <;> exact e)
      rw [non_or rx, ← e']
    refine wpAny_mono (op_notN pins s z H u1 u2 v1 v2 (fun v H' => v = .bl c ∧ H' = H) I r1 r2 ⟨ry, by rw [hc]; exact ⟨rfl, rfl⟩⟩) (fun r s' ⟨v, H', I', rv', ev, eH⟩ => ?_) fun _ _ x => x
    subst ev eH
    exact ⟨rv', H', I', Same.refl _⟩
  | _ => cases x <;> cases e
theorem co_ne {k : Nat} {fA : Nat → Addr} (hO : EqOk X T RX G cl k fA) (hr : Room (k + 6) X.A) : CmpOk X T G cl .ne .NotEq := by
  intro pins s P F H σ z x vv c u1 u2 v1 v2 I r1 r2 rx rv e
  obtain ⟨y, ey, e⟩ := Option.bind_eq_some_iff.mp (show ((toD vv).bind fun y => if neTo x then (eqD G cl eqN x y).map not else none) = some c from e)
  obtain ⟨F', rx', ry, sF⟩ := toD_raw rv ey rx
  have hn : neTo x = true := by cases q : neTo x with
    | true => rfl
    | false => rw [q] at e; cases e
  rw [hn] at e
  obtain ⟨b, eb, ec⟩ := Option.map_eq_some_iff.mp (show (eqD G cl eqN x y).map not = some c from e)
  have eb : eqA G cl (eqD G cl 4) x y = some b := eb
  have he := (eq_all hO 4).2
  subst ec
  cases hx : scalD x with
  | true =>
    obtain ⟨h1, h2, _⟩ := eqA_scal hx eb rx' ry
    refine wpAny_mono (op_ne pins s z H u1 u2 v1 v2 (fun v H' => v = .bl (!b) ∧ H' = H) I r1 r2 ⟨h1, by rw [h2]; exact ⟨rfl, rfl⟩⟩) (fun r s' ⟨v, H', I', rv', ev, eH⟩ => ?_) fun _ _ x => x
    subst ev eH
    exact ⟨rv', H', I', Same.refl _⟩
  | false =>
    cases x with
    | lst xs => cases y with
      | lst ys => exact rn_lst he ⟨hr, rfl⟩ eb I r1 r2 sF rx' ry
      | _ => cases eb
    | tup xs => cases y with
      | tup ys => exact rn_tup he ⟨hr, rfl⟩ eb I r1 r2 sF rx' ry
      | _ => cases eb
    | ins c fs => cases hn
    | non => cases hx
    | bl a => cases hx
    | int a => cases hx
    | str a => cases hx
    | _ => cases eb
/-! ### in -/
theorem memD_flat {F : Hp} {x : D} {u : V} (hx : scalD x = true) (rx : RD T F x u) : ∀ {ys : List D} {us : List V} {c : Bool}, ys.all scalD = true → RDs T F ys us → memD G cl x ys = some c → us.all flatV = true ∧ flatV u = true ∧ inV u us = c
  | [], _, c, _, r, e => by
    have r' : _ = [] := r
    subst r'
    refine ⟨rfl, ?_, Option.some.inj e⟩
    cases x with
    | non => cases (show u = .non from rx); rfl
    | bl a => cases (show u = .bl a from rx); rfl
    | int a => cases (show u = .int a from rx); rfl
    | str a => cases (show u = .str a from rx); rfl
    | _ => cases hx
  | y :: ys, _, c, h, r, e => by
    obtain ⟨v, s, e1, r1, r2⟩ := r
    subst e1
    rw [List.all_cons, Bool.and_eq_true] at h
    have e : (match eqA G cl (eqD G cl 4) y x with
      | some true => some true
      | some false => memD G cl x ys
      | none => none) = some c := e
    cases q : eqA G cl (eqD G cl 4) y x with
    | none => rw [q] at e; cases e
    | some b =>
      obtain ⟨_, _, f1, f2, h3⟩ := eqA_scal h.1 q r1 rx
      rw [q] at e
      cases b with
      | false =>
        obtain ⟨k1, k2, k3⟩ := memD_flat hx rx h.2 r2 e
        refine ⟨by rw [List.all_cons, f1, k1]; rfl, f2, ?_⟩
        show (eqV v u || inV u s) = c
        rw [h3, k3]
        rfl
      | true =>
        have ec : true = c := Option.some.inj e
        have al : ∀ (ys : List D) (s : List V), ys.all scalD = true → RDs T F ys s → s.all flatV = true := fun ys => by
          induction ys with
          | nil => intro s _ r; rw [show s = [] from r]; rfl
          | cons y ys ih =>
            intro s h r
            obtain ⟨v, s', e1, r1, r2⟩ := r
            subst e1
            rw [List.all_cons, Bool.and_eq_true] at h
            rw [List.all_cons, ih s' h.2 r2]
            cases y with
            | non => cases (show v = .non from r1); rfl
            | bl a => cases (show v = .bl a from r1); rfl
            | int a => cases (show v = .int a from r1); rfl
            | str a => cases (show v = .str a from r1); rfl
            | _ => cases h.1
        refine ⟨by rw [List.all_cons, f1, al ys s h.2 r2]; rfl, f2, ?_⟩
        show (eqV v u || inV u s) = c
        rw [h3, ← ec]
        rfl
end
end Tf
end
section
set_option Elab.async false
set_option linter.all false
set_option maxRecDepth 100000
/-! Soundness, part 7: in; comparisons as expressions; built-in functions. -/
namespace Tf
open PySem PySem.Spec PyProof.Rows L2
section
variable {T : Tb} {RX : XR} {W : WX} {X : Cx} {G : Prog} {cl : Call} {md : Md}
theorem memD_step {x : D} {ys : List D} {i : Nat} {y : D} {b : Bool} (ey : ys[i]? = some y) (h : memD G cl x (ys.drop i) = some b) :
    ∃ c, eqD G cl eqN y x = some c ∧ (c = false → memD G cl x (ys.drop (i + 1)) = some b) ∧ (c = true → b = true) := by
  obtain ⟨hy, ey⟩ := List.getElem?_eq_some_iff.mp ey
  rw [List.drop_eq_getElem_cons hy, ey] at h
  have h : (match eqD G cl eqN y x with
    | some true => some true
    | some false => memD G cl x (ys.drop (i + 1))
    | none => none) = some b := h
  cases q : eqD G cl eqN y x with
  | none => rw [q] at h; cases h
  | some c =>
    rw [q] at h
    cases c with
    | false => exact ⟨false, rfl, fun _ => h, fun e => (by cases e)⟩
    | true => exact ⟨true, rfl, fun e => (by cases e), fun _ => (Option.some.inj h).symm⟩
def WalkM (X : Cx) (pins : List (Addr × Obj)) (z : L2.St) (H : Hp) (G : Prog) (cl : Call) (x : D) (ys : List D) (b : Bool) (i : Nat) (s' : Shared) : Prop := ∃ H', Inv X pins z H' s' ∧ Ext H H' ∧ memD G cl x (ys.drop i) = some b
/-- contains, of a list -/
theorem con_lst {k : Nat} {fA : Nat → Addr} (hO : EqOk X T RX G cl k fA) (hr : Room (k + 7) X.A) {pins : List (Addr × Obj)} {s : Shared} {z : L2.St} {F H : Hp} {x : D} {ys : List D} {c : Bool} {u1 : V} {l : Addr} {us : List V} {v1 : Value} (I : Inv X pins z H s) (r1 : L2.RelV u1 v1) (sF : Same F H) (rx : RD T F x u1) (hl : H l = some (.lst us)) (ry : RDs T F ys us) (e : memD G cl x ys = some c) :
    wpAny (model X.prog X.w) X.A (contains (.ref l) v1) (fun r s' => r = c ∧ ∃ H', Inv X pins z H' s' ∧ Ext H H') X.xe s := by
  have at_ : ∀ (H' : Hp) (s' : Shared), Inv X pins z H' s' → Ext H H' → ∃ (its : List Value) (n : Nat), Vals us its ∧ s'.heap.get? l = some { cls := .type "list", data := .seq its.toArray n } := fun H' s' I' ex => by
    obtain ⟨its, n, v, g, _⟩ := I'.lst (ex _ _ hl)
    exact ⟨its, n, v, g⟩
  obtain ⟨its, n1, v, g⟩ := at_ H s I Ext.rfl'
  refine PySem.wpAny_contains_slot ⟨_, g, rfl⟩ PySem.F.slot_list_contains (GQ.call_here PySem.F.slot_list_contains ⟨_, g, rfl⟩ PySem.F.entry_list_contains (PySem.F.args_list_contains_2 _ _) ?_)
  refine TfE.list_in (R := wants (fun r s' => wpAny (model X.prog X.w) X.A (truthy r) (fun r s' => r = c ∧ ∃ H', Inv X pins z H' s' ∧ Ext H H') X.xe s') X.xe) l v1 us.length (WalkM X pins z H G cl x ys c) (fun s' => ∃ H', Inv X pins z H' s' ∧ Ext H H' ∧ c = true) ?_ ?_ ?_ ⟨H, I, Ext.rfl', e⟩
  · rintro i s' ⟨H', I', ex, hm⟩
    obtain ⟨it1, m1, w1, k1⟩ := at_ H' s' I' ex
    refine ⟨it1.toArray, m1, k1, by simpa using w1.length.symm, fun h1 => ?_⟩
    have g1 : it1[i]? = some it1.toArray[i] := by
      have h1' : i < it1.length := by simpa using h1
      rw [List.getElem?_eq_getElem h1'] <;> simp
    have k1 : i < us.length := by rw [w1.length]; simpa using h1
    have j1 : i < ys.length := by rw [ry.len]; exact k1
    obtain ⟨u, hu, rd1⟩ := ry.get (List.getElem?_eq_getElem j1)
    obtain ⟨w2, hw2, rw2⟩ := w1.get hu
    rw [g1] at hw2
    rw [Option.some.inj hw2]
    obtain ⟨b, hb, hf, ht⟩ := memD_step (List.getElem?_eq_getElem j1) hm
    refine wpAny_mono ((eq_all hO 5).2 _ x b X.A.in1 pins s' z F H' u u1 w2 v1 hb (Sub.in1 (n := k + 6) ⟨hr, rfl⟩) I' rw2 r1 (fun a o e => ex a o (sF a o e)) rd1 rx) (fun r s2 q => ?_) fun _ _ x => x
    obtain ⟨hr, H2, I2, e2⟩ := q
    subst hr
    cases r with
    | false => exact ⟨H2, I2, ex.trans e2, hf rfl⟩
    | true => exact ⟨H2, I2, ex.trans e2, ht rfl⟩
  · rintro s' ⟨H', I', ex, hm⟩
    rw [List.drop_of_length_le (by rw [ry.len]; exact Nat.le_refl _)] at hm
    exact wpAny_truthy_bool ⟨Option.some.inj hm, H', I', ex⟩
  · rintro s' ⟨H', I', ex, hc⟩
    exact wpAny_truthy_bool ⟨hc.symm, H', I', ex⟩
theorem items_lst {P F H : Hp} {σ : Fr} {z : L2.St} {v : Val} {u : V} {xs : List D} (h : RelV T P F H σ z v u) (e : itemsV v = some xs) (hl : isLstV v = true) : ∃ a vs, u = .ref a ∧ H a = some (.lst vs) ∧ RDs T F xs vs := by
  cases v with
  | d x =>
    obtain ⟨⟨A, k⟩, r⟩ := h
    cases x with
    | lst ys =>
      obtain ⟨a, vs, e1, e2, r⟩ := r
      have e' : ys = xs := Option.some.inj e
      subst e'
      exact ⟨a, vs, e1, k.fH _ _ e2, r⟩
    | _ => cases hl
  | b i o =>
    obtain ⟨s, x, Ai, C, B, k⟩ := h
    cases o with
    | lst os =>
      obtain ⟨a, vs, B', e1, eB, e2, r⟩ := k.o
      exact ⟨a, vs, e1, e2, allD_of r e⟩
    | _ => cases hl
  | o o => cases hl
theorem mem_cases {x : D} {v : Val} {c : Bool} (e : memO G cl x v = some c) : ∃ ys, itemsV v = some ys ∧ memD G cl x ys = some c ∧ ((scalD x = true ∧ ys.all scalD = true) ∨ isLstV v = true) := by
  obtain ⟨ys, ey, e⟩ := Option.bind_eq_some_iff.mp (show ((itemsV v).bind fun ys => if (scalD x && ys.all scalD) || isLstV v then memD G cl x ys else none) = some c from e)
  obtain ⟨h, e⟩ : ((scalD x && ys.all scalD) || isLstV v) = true ∧ memD G cl x ys = some c := by
    cases q : ((scalD x && ys.all scalD) || isLstV v) with
    | true => rw [q] at e; exact ⟨rfl, e⟩
    | false => rw [q] at e; cases e
  refine ⟨ys, ey, e, ?_⟩
  rw [Bool.or_eq_true, Bool.and_eq_true] at h
  exact h
theorem rel_of {P F H : Hp} {σ : Fr} {z : L2.St} {v : Val} {u : V} (h : RelV T P F H σ z v u) : Same F H := by
  obtain ⟨A, k⟩ := h.rel
  exact k.fH
theorem mem_two {x : D} {v : Val} {c : Bool} (e : memV G cl x v = some c) : memO G cl x v = some c ∨ ∃ t n, v = .d (.str t) ∧ x = .str ⟨#[n]⟩ ∧ c = decide (n ∈ t.cps.toList) := by
  unfold memV at e
  cases q : txtV v with
  | none => rw [q] at e; exact .inl e
  | some t =>
    rw [q] at e
    refine .inr ?_
    have ev : v = .d (.str t) := by
      cases v with
      | d y => cases y with
        | str y => cases (Option.some.inj (show some y = some t from q)); rfl
        | _ => cases q
      | _ => cases q
    cases x with
    | str y =>
      have e' : (match y.cps.toList with | [c] => some (decide (c ∈ t.cps.toList)) | _ => none) = some c := e
      cases yl : y.cps.toList with
      | nil => rw [yl] at e'; cases e'
      | cons n r => cases r with
        | nil =>
          rw [yl] at e'
          refine ⟨t, n, ev, ?_, (Option.some.inj e').symm⟩
          obtain ⟨⟨l⟩⟩ := y
          simp only at yl
          rw [yl]
        | cons m r => rw [yl] at e'; cases e'
    | _ => cases e
theorem co_in {k : Nat} {fA : Nat → Addr} (hO : EqOk X T RX G cl k fA) (hr : Room (k + 7) X.A) : CmpOk X T G cl .in_ .In := by
  intro pins s P F H σ z x vv c u1 u2 v1 v2 I r1 r2 rx rv e
  rcases mem_two (show memV G cl x vv = some c from e) with e | ⟨t, n, ev, ex, ec⟩
  case inr =>
    subst ev ex ec
    obtain ⟨rel, rt⟩ := rv
    refine wpAny_mono (op_in_sign pins s z H u1 u2 v1 v2 (fun v H' => v = .bl (decide (n ∈ t.cps.toList)) ∧ H' = H) I r1 r2 ⟨n, t, rx, rt, rfl, rfl⟩) (fun r s' ⟨v, H', I', rv', ev, eH⟩ => ?_) fun _ _ x => x
    subst ev eH
    exact ⟨rv', H', I', Same.refl _⟩
  obtain ⟨ys, ey, em, hc⟩ := mem_cases e
  rcases hc with ⟨h1, h2⟩ | hl
  · obtain ⟨a, us, eu, sq, ry⟩ := items_of (K := X.K) rv ey
    obtain ⟨f1, f2, f3⟩ := memD_flat h1 rx h2 ry em
    refine wpAny_mono (op_in_seq pins s z H u1 u2 v1 v2 (fun v H' => v = .bl c ∧ H' = H) I r1 r2 ⟨a, us, eu, sq.symm, f2, f1, by rw [f3]; exact ⟨rfl, rfl⟩⟩) (fun r s' ⟨v, H', I', rv', ev, eH⟩ => ?_) fun _ _ x => x
    subst ev eH
    exact ⟨rv', H', I', Same.refl _⟩
  · obtain ⟨l, us, eu, el, ry⟩ := items_lst rv ey hl
    subst eu
    obtain rfl : v2 = Value.ref l := r2
    show wpAny (model X.prog X.w) X.A (do return Value.bool (← contains (.ref l) v1)) _ X.xe s
    refine wpAny_bind (wpAny_mono (con_lst hO hr I r1 (rel_of rv) rx el ry em) (fun b s' ⟨hb, H', I', ex⟩ => ?_) fun _ _ x => x)
    subst hb
    exact wpAny_pure ⟨rfl, H', I', ex⟩
theorem co_notin {k : Nat} {fA : Nat → Addr} (hO : EqOk X T RX G cl k fA) (hr : Room (k + 7) X.A) : CmpOk X T G cl .notin .NotIn := by
  intro pins s P F H σ z x vv c u1 u2 v1 v2 I r1 r2 rx rv e
  obtain ⟨c0, e0, ec⟩ := Option.map_eq_some_iff.mp (show (memV G cl x vv).map not = some c from e)
  subst ec
  rcases mem_two e0 with e0 | ⟨t, n, ev, ex, ec⟩
  case inr =>
    subst ev ex ec
    obtain ⟨rel, rt⟩ := rv
    refine wpAny_mono (op_notIn_sign pins s z H u1 u2 v1 v2 (fun v H' => v = .bl (!decide (n ∈ t.cps.toList)) ∧ H' = H) I r1 r2 ⟨n, t, rx, rt, rfl, rfl⟩) (fun r s' ⟨v, H', I', rv', ev, eH⟩ => ?_) fun _ _ x => x
    subst ev eH
    exact ⟨rv', H', I', Same.refl _⟩
  obtain ⟨ys, ey, em, hc⟩ := mem_cases e0
  rcases hc with ⟨h1, h2⟩ | hl
  · obtain ⟨a, us, eu, sq, ry⟩ := items_of (K := X.K) rv ey
    obtain ⟨f1, f2, f3⟩ := memD_flat h1 rx h2 ry em
    refine wpAny_mono (op_notIn_seq pins s z H u1 u2 v1 v2 (fun v H' => v = .bl (!c0) ∧ H' = H) I r1 r2 ⟨a, us, eu, sq.symm, f2, f1, by rw [f3]; exact ⟨rfl, rfl⟩⟩) (fun r s' ⟨v, H', I', rv', ev, eH⟩ => ?_) fun _ _ x => x
    subst ev eH
    exact ⟨rv', H', I', Same.refl _⟩
  · obtain ⟨l, us, eu, el, ry⟩ := items_lst rv ey hl
    subst eu
    obtain rfl : v2 = Value.ref l := r2
    show wpAny (model X.prog X.w) X.A (do return Value.bool (!(← contains (.ref l) v1))) _ X.xe s
    refine wpAny_bind (wpAny_mono (con_lst hO hr I r1 (rel_of rv) rx el ry em) (fun b s' ⟨hb, H', I', ex⟩ => ?_) fun _ _ x => x)
    subst hb
    exact wpAny_pure ⟨rfl, H', I', ex⟩
/-- the heap has grown -/
theorem Rel.grow {P F H H' : Hp} {σ : Fr} {z : L2.St} (h : Rel T P F H σ z) (s : Same H H') : Rel T P F H' σ z := by
  obtain ⟨A, k⟩ := h
  exact ⟨A, k.s.mono (Same.refl _) fun a _ q e => s a q e, k.nd, k.nP, k.nF, k.pH.trans s, k.fH.trans s, k.pF⟩
theorem se_cmp {a b : Expr} {ea eb : E} {op : Cop} {o : CmpOp} {pos : Pos} (ok : CmpOk X T G cl op o) (ha : SE T RX W G cl X a ea) (hb : SE T RX W G cl X b eb) (hm : behindInMarks o b = false) : SE T RX W G cl X (.Compare a [o] [b] pos) (.cmp op ea eb) := by
  -- behind both operands
  have key : ∀ (pins : List (Addr × Obj)) (s : Shared) (z : L2.St) (H : Hp) (P F : Hp) (σ : Fr) (Q : VK), Inv X pins z H s → Rel T P F H σ z → Post T RX W P z F Q ((ev G cl .val ea σ).bind fun v σ => opt (toD v) fun x => (ev G cl .pk eb σ).bind fun u σ => opt (cmpV G cl op x u) fun c => .ok (bl c) σ) →
      ∀ (Qf : Value → Shared → Prop), (∀ c H' s', Inv X pins z H' s' → Q (.bl c) H' → Qf (.bool c) s') →
      wpAny (model X.prog X.w) X.A (eval a X.env) (fun v s₁ => wpAny (model X.prog X.w) X.A (eval b X.env) (fun u s₂ => wpAny (model X.prog X.w) X.A (compareOp o v u) Qf X.xe s₂) X.xe s₁) X.xe s := by
    intro pins s z H P F σ Q I rel q Qf hQ
    refine thn (ha.v.run pins s z H _ I (R.one rel q)) fun v1 s1 ⟨u1, H1, I1, r1, F1, σ1, x, rel1, rx, q1⟩ => ?_
    refine thn (hb.p.run pins s1 z H1 _ I1 (R.bind rel1 q1)) fun v2 s2 ⟨u2, H2, I2, r2, F2, σ2, vv, sF, rv, q2⟩ => ?_
    obtain ⟨c, ec, q2⟩ := Post.opt q2
    refine wpAny_mono (ok pins s2 P F2 H2 σ2 z x vv c u1 u2 v1 v2 I2 r1 r2 (rx.mono sF) rv ec) (fun r s' ⟨hr, H', I', sH⟩ => ?_) fun _ _ x => x
    subst hr
    exact hQ c H' s' I' (q2 F2 H' _ (Same.refl _) ⟨rv.rel.grow sH, rfl⟩)
  refine SE.raw (m := fun σ => (ev G cl .val ea σ).bind fun v σ => opt (toD v) fun x => (ev G cl .pk eb σ).bind fun u σ => opt (cmpV G cl op x u) fun c => .ok (bl c) σ) (fun _ _ => rfl) ⟨fun pins s z H Q I ⟨P, F, σ, rel, q⟩ => ?_⟩ fun _ => ⟨fun pins s z H Q I ⟨P, F, σ, rel, q⟩ => ?_⟩
  · exact wpAny_Compare1 (key pins s z H P F σ Q I rel q _ fun c H' s' I' hq => ⟨.bl c, H', I', rfl, hq⟩) hm
  · have q' : Post T RX W P z F (fun v H' => ∃ c, v = .bl c ∧ Q c H') ((ev G cl .val ea σ).bind fun v σ => opt (toD v) fun x => (ev G cl .pk eb σ).bind fun u σ => opt (cmpV G cl op x u) fun c => .ok (bl c) σ) := by
      have q : PostT T RX W P z F Q (((ev G cl .val ea σ).bind fun v σ => opt (toD v) fun x => (ev G cl .pk eb σ).bind fun u σ => opt (cmpV G cl op x u) fun c => .ok (bl c) σ).bind (fin .tst)) := q
      revert q
      generalize hr : ((ev G cl .val ea σ).bind fun v σ => opt (toD v) fun x => (ev G cl .pk eb σ).bind fun u σ => opt (cmpV G cl op x u) fun c => .ok (bl c) σ) = r
      intro q
      cases r with
      | exc x σ1 => exact q
      | bad => exact q
      | ok v σ1 =>
        obtain ⟨_, _, _, hr⟩ := Res.bind_ok hr
        obtain ⟨_, _, hr⟩ := opt_ok hr
        obtain ⟨_, _, _, hr⟩ := Res.bind_ok hr
        obtain ⟨c, _, hr⟩ := opt_ok hr
        injection hr with h1 h2
        subst h1
        obtain ⟨b, eb, q⟩ := (show PostT T RX W P z F Q (.ok (.d (.bl c)) σ1) from q)
        have : c = b := by injection eb with eb; injection eb
        subst this
        exact fun F1 H1 u s rv => ⟨c, rv.2, q F1 H1 s rv.1⟩
    have h := key pins s z H P F σ _ I rel q' (fun c s' => wpAny (model X.prog X.w) X.A (truthy c) (TP X pins z Q) X.xe s') fun c H' s' I' ⟨c', ec, hq⟩ => by
      have : c = c' := by injection ec
      subst this
      exact wpAny_truthy_bool ⟨H', I', hq⟩
    exact wpAny_isTrue_Compare1 h hm
end
end Tf
end
section
set_option Elab.async false
set_option linter.all false
set_option maxRecDepth 100000
/-! Soundness, part 8: built-in functions, isinstance. -/
namespace Tf
open PySem PySem.Spec PyProof.Rows L2
section
variable {T : Tb} {RX : XR} {W : WX} {X : Cx} {G : Prog} {cl : Call} {md : Md}
def BiR (X : Cx) (T : Tb) (RX : XR) (W : WX) (b : Bi) (f : Value) : Prop :=
  ∀ (pins : List (Addr × Obj)) (s : Shared) (P F H : Hp) (σ : Fr) (z : L2.St) (vv : Val) (u : V) (v : Value) (d : D) (Q : VK), Inv X pins z H s → L2.RelV u v → RelV T P F H σ z vv u → biV b vv = some d → Post T RX W P z F Q (.ok (.d d) σ) → wpAny (model X.prog X.w) X.A (call f [v]) (EP X pins z Q) X.xe s
theorem vals_1 {u : V} {v : Value} (r : L2.RelV u v) : Vals [u] [v] := .cons r .nil
theorem bi_len : BiR X T RX W .len (.builtin "len") := by
  intro pins s P F H σ z vv u v d Q I r rv e q
  obtain ⟨n, en, ed⟩ := Option.map_eq_some_iff.mp (show (lenV vv).map (fun (n : Nat) => D.int n) = some d from e)
  subst ed
  by_cases nt : ∀ t, vv ≠ .d (.str t)
  case neg =>
    obtain ⟨t, et⟩ := Classical.not_forall.mp nt
    have et := Classical.not_not.mp et
    subst et
    obtain ⟨hz, en⟩ := ite_some (show (if t.length ≤ lineN then some t.length else none) = some n from en)
    subst en
    exact call_len_str pins s z H [u] [v] Q I (vals_1 r) ⟨t, by rw [show u = .str t from rv.2], hz, post_int rv.1 q⟩
  refine call_len pins s z H [u] [v] Q I (vals_1 r) ⟨u, n, rfl, ?_, post_int rv.rel q⟩
  cases vv with
  | d x =>
    obtain ⟨⟨A, k⟩, rd⟩ := rv
    cases x with
    | lst xs =>
      obtain ⟨a, us, e1, e2, rs⟩ := rd
      subst e1
      cases (Option.some.inj (show some xs.length = some n from en))
      exact .inl ⟨us, .of (k.fH _ _ e2), rs.len⟩
    | tup xs =>
      obtain ⟨a, us, e1, e2, rs⟩ := rd
      subst e1
      cases (Option.some.inj (show some xs.length = some n from en))
      exact .inr ⟨us, .of (k.fH _ _ e2), rs.len⟩
    | scr ns =>
      obtain ⟨a, ob, e1, e2⟩ := rd
      subst e1
      cases (Option.some.inj (show some ns.length = some n from en))
      exact .inl ⟨ns.map V.int, .inl (.inr ⟨ob, k.fH _ _ e2⟩), by simp⟩
    | str t => exact absurd rfl (nt t)
    | _ => cases en
  | b i o =>
    obtain ⟨sl, x, Ai, C, B, k⟩ := rv
    cases o with
    | lst xs =>
      obtain ⟨a, us, B', e1, eB, e2, rs⟩ := k.o
      subst e1
      cases (Option.some.inj (show some xs.length = some n from en))
      exact .inl ⟨us, .of e2, rs.len⟩
    | _ => cases en
  | o o => cases en
theorem bi_abs : BiR X T RX W .abs (.builtin "abs") := by
  intro pins s P F H σ z vv u v d Q I r rv e q
  cases vv with
  | d x => cases x with
    | int i =>
      cases (Option.some.inj (show some (D.int (if i < 0 then -i else i)) = some d from e))
      exact call_abs pins s z H [u] [v] Q I (vals_1 r) ⟨i, by rw [show u = .int i from rv.2], post_int rv.1 q⟩
    | _ => cases e
  | _ => cases e
theorem bi_int : BiR X T RX W .int (.type "int") := by
  intro pins s P F H σ z vv u v d Q I r rv e q
  cases vv with
  | d x => cases x with
    | int i =>
      cases (Option.some.inj (show some (D.int i) = some d from e))
      exact call_int1 pins s z H [u] [v] Q I (vals_1 r) (.inl ⟨i, by rw [show u = .int i from rv.2], post_int rv.1 q⟩)
    | bl b =>
      cases (Option.some.inj (show some (D.int (if b then 1 else 0)) = some d from e))
      exact call_int1 pins s z H [u] [v] Q I (vals_1 r) (.inr ⟨b, by rw [show u = .bl b from rv.2], post_int rv.1 q⟩)
    | str t =>
      obtain ⟨hz, e⟩ := ite_some' (show (if t.length ≤ 640 then (PySem.intText? t).map D.int else none) = some d from e)
      obtain ⟨n, en, ed⟩ := Option.map_eq_some_iff.mp e
      subst ed
      exact call_int_str pins s z H [u] [v] Q I (vals_1 r) ⟨t, n, by rw [show u = .str t from rv.2], en, hz, post_int rv.1 q⟩
    | _ => cases e
  | _ => cases e
theorem bi_str : BiR X T RX W .str (.type "str") := by
  intro pins s P F H σ z vv u v d Q I r rv e q
  cases vv with
  | d x => cases x with
    | int i =>
      obtain ⟨hz, e⟩ := ite_some' (show (if i.natAbs.log2 < 1920 then some (D.str (PySem.Str.ofString (toString i))) else none) = some d from e)
      cases (Option.some.inj e)
      exact call_str_int pins s z H [u] [v] Q I (vals_1 r) ⟨i, by rw [show u = .int i from rv.2], hz, post_str rv.1 q⟩
    | str t =>
      cases (Option.some.inj (show some (D.str t) = some d from e))
      exact SkE.call_str_str pins s z H [u] [v] Q I (vals_1 r) ⟨t, by rw [show u = .str t from rv.2], post_str rv.1 q⟩
    | _ => cases e
  | _ => cases e
theorem bi_bool : BiR X T RX W .bool (.type "bool") := by
  intro pins s P F H σ z vv u v d Q I r rv e q
  cases vv with
  | d x => cases x with
    | int i =>
      cases (Option.some.inj (show some (D.bl (i != 0)) = some d from e))
      exact call_bool1 pins s z H [u] [v] Q I (vals_1 r) (.inl ⟨i, by rw [show u = .int i from rv.2], post_bl rv.1 q⟩)
    | bl b =>
      cases (Option.some.inj (show some (D.bl b) = some d from e))
      exact call_bool1 pins s z H [u] [v] Q I (vals_1 r) (.inr ⟨b, by rw [show u = .bl b from rv.2], post_bl rv.1 q⟩)
    | _ => cases e
  | _ => cases e
theorem bi_list : BiR X T RX W .list (.type "list") := by
  intro pins s P F H σ z vv u v d Q I r rv e q
  obtain ⟨xs, ex, ed⟩ := Option.map_eq_some_iff.mp (show (itemsV vv).map D.lst = some d from e)
  subst ed
  obtain ⟨a, us, eu, sq, rs⟩ := items_of (K := X.K) rv ex
  exact call_list_of pins s z H [u] [v] Q I (vals_1 r) ⟨a, us, by rw [eu], sq.symm, fun p np => post_lst rv.rel rs np q⟩
theorem bi_tuple : BiR X T RX W .tuple (.type "tuple") := by
  intro pins s P F H σ z vv u v d Q I r rv e q
  obtain ⟨xs, ex, ed⟩ := Option.map_eq_some_iff.mp (show (itemsV vv).map D.tup = some d from e)
  subst ed
  obtain ⟨a, us, eu, sq, rs⟩ := items_of (K := X.K) rv ex
  refine call_tuple_of pins s z H [u] [v] Q I (vals_1 r) ⟨a, us, by rw [eu], ?_⟩
  rcases sq with sq | sq
  · refine .inr ⟨sq, ?_⟩
    -- the tuple itself: it is data already
    cases vv with
    | d x =>
      obtain ⟨rel, rd⟩ := rv
      obtain ⟨A, k⟩ := id rel
      cases x with
      | tup ys =>
        cases (Option.some.inj (show some ys = some xs from ex))
        exact q F H _ (Same.refl _) ⟨rel, eu ▸ rd⟩
      | lst ys =>
        obtain ⟨a', us', e1, e2, _⟩ := rd
        rw [eu] at e1
        cases e1
        exfalso
        rcases sq with (sq | ⟨ob, sq⟩) | ⟨o, its, n, hl, _⟩
        · rw [k.fH _ _ e2] at sq; cases sq
        · rw [k.fH _ _ e2] at sq; cases sq
        · have := (I.bs a o (I.ok.mod.kin a o hl)).2
          rw [k.fH _ _ e2] at this
          cases this
      | scr ns =>
        obtain ⟨a', ob', e1, e2⟩ := rd
        rw [eu] at e1
        cases e1
        exfalso
        rcases sq with (sq | ⟨ob, sq⟩) | ⟨o, its, n, hl, _⟩
        · rw [k.fH _ _ e2] at sq; cases sq
        · rw [k.fH _ _ e2] at sq; injection sq with sq; injection sq with _ sq; cases sq
        · have := (I.bs a o (I.ok.mod.kin a o hl)).2
          rw [k.fH _ _ e2] at this
          cases this
      | _ => cases ex
    | b i o =>
      obtain ⟨sl, x, Ai, C, B, k⟩ := rv
      cases o with
      | lst os =>
        obtain ⟨a', us', B', e1, eB, e2, _⟩ := k.o
        rw [eu] at e1
        cases e1
        exfalso
        rcases sq with (sq | ⟨ob, sq⟩) | ⟨o, its, n, hl, _⟩
        · rw [e2] at sq; cases sq
        · rw [e2] at sq; cases sq
        · have := (I.bs a o (I.ok.mod.kin a o hl)).2
          rw [e2] at this
          cases this
      | _ => cases ex
    | o o => cases ex
  · exact .inl ⟨sq, fun p np => post_tup rv.rel rs np q⟩
/-! lists of ints, of bools -/
theorem lstItems_of {K : PySem.W.Frag} {P F H : Hp} {σ : Fr} {z : L2.St} {v : Val} {u : V} {xs : List D} (h : RelV T P F H σ z v u) (e : lstItems v = some xs) : ∃ a vs, u = .ref a ∧ SqL K H a vs ∧ RDs T F xs vs := by
  cases v with
  | d x =>
    obtain ⟨⟨A, k⟩, r⟩ := h
    cases x with
    | lst ys =>
      obtain ⟨a, vs, e1, e2, r⟩ := r
      cases (Option.some.inj (show some ys = some xs from e))
      exact ⟨a, vs, e1, .of (k.fH _ _ e2), r⟩
    | scr ns =>
      obtain ⟨a, ob, e1, e2⟩ := r
      cases (Option.some.inj (show some (ns.map D.int) = some xs from e))
      refine ⟨a, _, e1, .inl (.inr ⟨ob, k.fH _ _ e2⟩), ?_⟩
      clear e2 e
      induction ns with
      | nil => rfl
      | cons n ns ih => exact ⟨_, _, rfl, rfl, ih⟩
    | _ => cases e
  | b i o =>
    obtain ⟨s, x, Ai, C, B, k⟩ := h
    cases o with
    | lst os =>
      obtain ⟨a, vs, B', e1, eB, e2, r⟩ := k.o
      exact ⟨a, vs, e1, .of e2, allD_of r e⟩
    | _ => cases e
  | o o => cases e
theorem ints_of {F : Hp} : ∀ {xs : List D} {us : List V} {ns : List Int}, RDs T F xs us → D.ints xs = some ns → us = ns.map V.int
  | [], _, _, r, e => by rw [show _ = [] from r, ← Option.some.inj e]; rfl
  | x :: xs, _, _, r, e => by
    obtain ⟨v, s, eu, r1, r2⟩ := r
    subst eu
    cases x with
    | int i =>
      obtain ⟨ns, en, e⟩ := Option.map_eq_some_iff.mp (show (D.ints xs).map (i :: ·) = some _ from e)
      subst e
      rw [show v = .int i from r1, ints_of r2 en]
      rfl
    | _ => cases e
theorem bls_of {F : Hp} : ∀ {xs : List D} {us : List V} {ns : List Bool}, RDs T F xs us → D.bls xs = some ns → us = ns.map V.bl
  | [], _, _, r, e => by rw [show _ = [] from r, ← Option.some.inj e]; rfl
  | x :: xs, _, _, r, e => by
    obtain ⟨v, s, eu, r1, r2⟩ := r
    subst eu
    cases x with
    | bl i =>
      obtain ⟨ns, en, e⟩ := Option.map_eq_some_iff.mp (show (D.bls xs).map (i :: ·) = some _ from e)
      subst e
      rw [show v = .bl i from r1, bls_of r2 en]
      rfl
    | _ => cases e
theorem bi_sum (hc : X.calm = true) : BiR X T RX W .sum (.builtin "sum") := by
  intro pins s P F H σ z vv u v d Q I r rv e q
  obtain ⟨xs, ex, e⟩ := Option.bind_eq_some_iff.mp (show ((lstItems vv).bind fun xs => (D.ints xs).map fun ns => D.int ns.sum) = some d from e)
  obtain ⟨ns, en, e⟩ := Option.map_eq_some_iff.mp e
  subst e
  obtain ⟨a, us, eu, sq, rs⟩ := lstItems_of (K := X.K) rv ex
  rw [ints_of rs en] at sq
  exact cr_sum hc pins s z H [u] [v] Q I (vals_1 r) ⟨a, ns, by rw [eu], sq, post_int rv.rel q⟩
theorem bi_all (hc : X.calm = true) : BiR X T RX W .all (.builtin "all") := by
  intro pins s P F H σ z vv u v d Q I r rv e q
  obtain ⟨xs, ex, e⟩ := Option.bind_eq_some_iff.mp (show ((lstItems vv).bind fun xs => (D.bls xs).map fun ns => D.bl (ns.all id)) = some d from e)
  obtain ⟨ns, en, e⟩ := Option.map_eq_some_iff.mp e
  subst e
  obtain ⟨a, us, eu, sq, rs⟩ := lstItems_of (K := X.K) rv ex
  rw [bls_of rs en] at sq
  exact cr_all hc pins s z H [u] [v] Q I (vals_1 r) ⟨a, ns, by rw [eu], sq, post_bl rv.rel q⟩
theorem bi_any (hc : X.calm = true) : BiR X T RX W .any (.builtin "any") := by
  intro pins s P F H σ z vv u v d Q I r rv e q
  obtain ⟨xs, ex, e⟩ := Option.bind_eq_some_iff.mp (show ((lstItems vv).bind fun xs => (D.bls xs).map fun ns => D.bl (ns.any id)) = some d from e)
  obtain ⟨ns, en, e⟩ := Option.map_eq_some_iff.mp e
  subst e
  obtain ⟨a, us, eu, sq, rs⟩ := lstItems_of (K := X.K) rv ex
  rw [bls_of rs en] at sq
  exact cr_any hc pins s z H [u] [v] Q I (vals_1 r) ⟨a, ns, by rw [eu], sq, post_bl rv.rel q⟩
theorem maxI_fold : ∀ (r : List Int) (m : Int), (∀ y, y ∈ m :: r → y ≤ r.foldl (fun m b => if m < b then b else m) m) ∧ r.foldl (fun m b => if m < b then b else m) m ∈ m :: r
  | [], m => ⟨fun y h => by simp at h; rw [h]; exact Int.le_refl _, by simp⟩
  | b :: r, m => by
    have ih := maxI_fold r (if m < b then b else m)
    refine ⟨fun y h => ?_, ?_⟩
    · have hm := ih.1 _ List.mem_cons_self
      rcases List.mem_cons.mp h with h | h
      · subst h
        refine Int.le_trans ?_ hm
        split <;> omega
      · rcases List.mem_cons.mp h with h | h
        · subst h
          refine Int.le_trans ?_ hm
          split <;> omega
        · exact ih.1 y (List.mem_cons_of_mem _ h)
    · rcases List.mem_cons.mp ih.2 with h | h
      · show List.foldl _ (if m < b then b else m) r ∈ _
        rw [h]
        split
        · exact List.mem_cons_of_mem _ List.mem_cons_self
        · exact List.mem_cons_self
      · exact List.mem_cons_of_mem _ (List.mem_cons_of_mem _ h)
theorem minI_fold : ∀ (r : List Int) (m : Int), (∀ y, y ∈ m :: r → r.foldl (fun m b => if b < m then b else m) m ≤ y) ∧ r.foldl (fun m b => if b < m then b else m) m ∈ m :: r
  | [], m => ⟨fun y h => by simp at h; rw [h]; exact Int.le_refl _, by simp⟩
  | b :: r, m => by
    have ih := minI_fold r (if b < m then b else m)
    refine ⟨fun y h => ?_, ?_⟩
    · have hm := ih.1 _ List.mem_cons_self
      rcases List.mem_cons.mp h with h | h
      · subst h
        refine Int.le_trans hm ?_
        split <;> omega
      · rcases List.mem_cons.mp h with h | h
        · subst h
          refine Int.le_trans hm ?_
          split <;> omega
        · exact ih.1 y (List.mem_cons_of_mem _ h)
    · rcases List.mem_cons.mp ih.2 with h | h
      · show List.foldl _ (if b < m then b else m) r ∈ _
        rw [h]
        split
        · exact List.mem_cons_of_mem _ List.mem_cons_self
        · exact List.mem_cons_self
      · exact List.mem_cons_of_mem _ (List.mem_cons_of_mem _ h)
theorem bi_max (hc : X.calm = true) : BiR X T RX W .max (.builtin "max") := by
  intro pins s P F H σ z vv u v d Q I r rv e q
  obtain ⟨xs, ex, e⟩ := Option.bind_eq_some_iff.mp (show ((lstItems vv).bind fun xs => (D.ints xs).bind fun ns => if ns.isEmpty then none else some (D.int (maxI ns))) = some d from e)
  obtain ⟨ns, en, e⟩ := Option.bind_eq_some_iff.mp e
  obtain ⟨a, us, eu, sq, rs⟩ := lstItems_of (K := X.K) rv ex
  rw [ints_of rs en] at sq
  cases ns with
  | nil => cases e
  | cons n ns =>
    cases (Option.some.inj (show some (D.int (maxI (n :: ns))) = some d from e))
    refine cr_max hc pins s z H [u] [v] Q I (vals_1 r) ⟨a, n :: ns, by rw [eu], sq, by simp, fun m h1 h2 => ?_⟩
    have k := maxI_fold ns n
    have : m = maxI (n :: ns) := Int.le_antisymm (k.1 m h1) (h2 _ k.2)
    rw [this]
    exact post_int rv.rel q
theorem bi_min (hc : X.calm = true) : BiR X T RX W .min (.builtin "min") := by
  intro pins s P F H σ z vv u v d Q I r rv e q
  obtain ⟨xs, ex, e⟩ := Option.bind_eq_some_iff.mp (show ((lstItems vv).bind fun xs => (D.ints xs).bind fun ns => if ns.isEmpty then none else some (D.int (minI ns))) = some d from e)
  obtain ⟨ns, en, e⟩ := Option.bind_eq_some_iff.mp e
  obtain ⟨a, us, eu, sq, rs⟩ := lstItems_of (K := X.K) rv ex
  rw [ints_of rs en] at sq
  cases ns with
  | nil => cases e
  | cons n ns =>
    cases (Option.some.inj (show some (D.int (minI (n :: ns))) = some d from e))
    refine cr_min hc pins s z H [u] [v] Q I (vals_1 r) ⟨a, n :: ns, by rw [eu], sq, by simp, fun m h1 h2 => ?_⟩
    have k := minI_fold ns n
    have : m = minI (n :: ns) := Int.le_antisymm (h2 _ k.2) (k.1 m h1)
    rw [this]
    exact post_int rv.rel q
/-- the function at a built-in's name -/
def biFn : Bi → Value
  | .len => .builtin "len"
  | .abs => .builtin "abs"
  | .int => .type "int"
  | .bool => .type "bool"
  | .str => .type "str"
  | .list => .type "list"
  | .tuple => .type "tuple"
  | .sum => .builtin "sum"
  | .min => .builtin "min"
  | .max => .builtin "max"
  | .all => .builtin "all"
  | .any => .builtin "any"
  | .sorted => .builtin "sorted"
theorem bi_all_of (hc : X.calm = true) (b : Bi) : BiR X T RX W b (biFn b) := by
  cases b with
  | len => exact bi_len
  | abs => exact bi_abs
  | int => exact bi_int
  | bool => exact bi_bool
  | list => exact bi_list
  | tuple => exact bi_tuple
  | sum => exact bi_sum hc
  | min => exact bi_min hc
  | max => exact bi_max hc
  | all => exact bi_all hc
  | any => exact bi_any hc
  | str => exact bi_str
  | sorted => intro pins s P F H σ z vv u v d Q I r rv e; cases e
theorem biFn_or (b : Bi) : (∃ id, biFn b = .builtin id) ∨ ∃ t, biFn b = .type t := by
  cases b <;> first | exact .inl ⟨_, rfl⟩ | exact .inr ⟨_, rfl⟩
/-- one argument: as an argument list -/
theorem pa_1 {e : Expr} {te : TE} (h : PE X e te) (hs : isStar e = false) : PA X [e] (tCons te tNil) := pa_cons h pa_nil (star_of hs)
theorem se_bi {b : Bi} {a : Expr} {ea : E} {x : PySem.Str} {p pos : Pos} (hc : X.calm = true) (ha : SE T RX W G cl X a ea) (hs : isStar a = false) (hg : Gl X x) (hm : X.mg x = none) (hv : bootBuiltins x = some (biFn b)) (hn : x ≠ "__name__") (hd : (x == ("__debug__" : PySem.Str)) = false) :
    SE T RX W G cl X (.Call (.Name x p) [a] [] pos) (.bi b ea) :=
  SE.of (fun _ => rfl) (fun _ _ => rfl) ⟨fun pins s z H Q I ⟨P, F, σ, rel, q⟩ => by
    refine wpAny_Call_Name_kw (ld_blt I hg hm hv ?_ hn hd)
    have run := thn ((pa_1 ha.p hs).run pos pins s z H (fun us H1 => ∃ u F1 σ1 v, us = [u] ∧ Same F F1 ∧ RelV T P F1 H1 σ1 z v u ∧ Post T RX W P z F1 Q (opt (biV b v) fun x => .ok (.d x) σ1)) I (R.mono (R.bind rel q) fun u H1 ⟨F1, σ1, v, h⟩ => ⟨u, F1, σ1, v, rfl, h⟩))
      (Q' := fun us s₁ => wpAny (model X.prog X.w) X.A (call (biFn b) us) (EP X pins z Q) X.xe s₁) fun us s1 ⟨vs, H1, I1, r, u, F1, σ1, vv, eu, sF, rv, q1⟩ => by
        subst eu
        obtain ⟨v, e1, r1⟩ := vals1 r
        subst e1
        obtain ⟨d, ed, q1⟩ := Post.opt q1
        exact bi_all_of hc b pins s1 P F1 H1 σ1 z vv u v d Q I1 r1 rv ed q1
    have hpl : (backTo pos (starEach ([] : List Expr) X.env)).any (·.1) = false := rfl
    rcases biFn_or b with ⟨id, e⟩ | ⟨t, e⟩
    · rw [e] at run ⊢
      exact PyProof.Rows.callWith_builtin1 run (star_of hs) hpl
    · rw [e] at run ⊢
      exact PyProof.Rows.callWith_type1 run (star_of hs) hpl⟩
/-! ### isinstance -/
def csV (T : Tb) : Cs → Value
  | .own k => .ref (T.cA k)
  | .int => .type "int"
  | .bool => .type "bool"
  | .str => .type "str"
  | .list => .type "list"
  | .tuple => .type "tuple"
/-- what isinstance asks of the text's classes -/
structure TyC (K : PySem.W.Frag) (C : Addr) : Prop where
  ha : PySem.W.findIn K (.ref C) "__class__" = some (some (.builtin "object.__class__"))
  hn : PySem.W.specialIn K (.builtin "object.__class__") "__get__" = some (some (.builtin "getset_descriptor.__get__"))
  htk : PySem.W.takesIn K (.builtin "object.__class__") = some true
  hm : PySem.W.mroIn K C (.type "object") = some true
/-- isinstance of the class c -/
structure IsOk (K : PySem.W.Frag) (T : Tb) (c : Cs) : Prop where
  ty : ∀ k, k < T.nc → TyC K (T.cA k)
  kit : ∀ x t b, DVal T x → tyD T x = some t → isinD x c = some b → PySem.W.kitOne K t (csV T c) = some b
theorem ty_of {K : PySem.W.Frag} {F H : Hp} {x : D} {u : V} {c : Cs} {b : Bool} (ok : TbOk K T) (k : IsOk K T c) (sF : Same F H) (r : RD T F x u) (e : isinD x c = some b) : ∃ t, TyOf K H u t ∧ PySem.W.kitOne K t (csV T c) = some b := by
  cases x with
  | non => cases (show u = .non from r); exact ⟨_, .non, k.kit .non _ _ trivial rfl e⟩
  | bl a => cases (show u = .bl a from r); exact ⟨_, .bl a, k.kit (.bl a) _ _ trivial rfl e⟩
  | int a => cases (show u = .int a from r); exact ⟨_, .int a, k.kit (.int a) _ _ trivial rfl e⟩
  | str a => cases (show u = .str a from r); exact ⟨_, .str a, k.kit (.str a) _ _ trivial rfl e⟩
  | tup xs => obtain ⟨a, us, e1, ea, _⟩ := r; subst e1; exact ⟨_, .tup (sF _ _ ea), k.kit (.tup xs) _ _ trivial rfl e⟩
  | lst xs => obtain ⟨a, us, e1, ea, _⟩ := r; subst e1; exact ⟨_, .lst (sF _ _ ea), k.kit (.lst xs) _ _ trivial rfl e⟩
  | ins n fs =>
    obtain ⟨a, dx, gs, hc, e1, ea, _⟩ := r
    subst e1
    have y := k.ty n hc
    exact ⟨_, .ins (sF _ _ ea) (ok.cls n hc) y.ha y.hn y.htk y.hm, k.kit (.ins n fs) _ _ hc rfl e⟩
  | scr ns => obtain ⟨a, ob, e1, ea⟩ := r; subst e1; exact ⟨_, .frz (sF _ _ ea), k.kit (.scr ns) _ _ trivial rfl e⟩
  | dcI _ => cases c <;> cases e
  | dcT _ => cases c <;> cases e
  | cls _ => cases c <;> cases e
theorem se_isin {a b : Expr} {ea : E} {c : Cs} {vc : V} {p pos : Pos} (ok : TbOk X.K T) (k : IsOk X.K T c) (ha : SE T RX W G cl X a ea) (hs : isStar a = false) (hb : PE X b (tC vc)) (hbs : isStar b = false) (hvc : ∀ v, L2.RelV vc v → v = csV T c) (hg : Gl X "isinstance") (hm : X.mg "isinstance" = none) :
    SE T RX W G cl X (.Call (.Name "isinstance" p) [a, b] [] pos) (.isin ea c) :=
  SE.of (fun _ => rfl) (fun _ _ => rfl) ⟨fun pins s z H Q I ⟨P, F, σ, rel, q⟩ => by
    refine wpAny_Call_Name_kw (ld_blt I hg hm (by decide +kernel : bootBuiltins "isinstance" = some (.builtin "isinstance")) ?_ (by decide) (by decide))
    have pa : PA X [a, b] (tCons (R T RX W (ev G cl .val ea)) (tCons (tC vc) tNil)) := pa_cons ha.v (pa_1 hb hbs) (star_of hs)
    have run := thn (pa.run pos pins s z H (fun us H1 => ∃ u F1 σ1 x, us = [u, vc] ∧ Rel T P F1 H1 σ1 z ∧ RD T F1 x u ∧ Post T RX W P z F1 Q (opt (isinD x c) fun b => .ok (bl b) σ1)) I (R.mono (R.one rel q) fun u H1 ⟨F1, σ1, x, h⟩ => ⟨u, F1, σ1, x, rfl, h⟩))
      (Q' := fun us s₁ => wpAny (model X.prog X.w) X.A (call (.builtin "isinstance") us) (EP X pins z Q) X.xe s₁) fun us s1 ⟨vs, H1, I1, r, u, F1, σ1, x, eu, rel1, rx, q1⟩ => by
        subst eu
        obtain ⟨v, w', e1, r1, r2⟩ := vals2 r
        subst e1
        rw [hvc w' r2]
        obtain ⟨b, eb, q1⟩ := Post.opt q1
        obtain ⟨A, k1⟩ := id rel1
        obtain ⟨t, ty, kt⟩ := ty_of ok k k1.fH rx eb
        exact isinst_ok I1 r1 ty kt fun tk => ⟨.bl b, H1, I1.tok _, rfl, post_bl rel1 q1⟩
    refine PyProof.Rows.callWith_builtin1 run (star_of hs) ?_
    rw [star_of hbs]
    rfl⟩
end
end Tf
end
section
set_option Elab.async false
set_option linter.all false
set_option maxRecDepth 100000
/-! Soundness, part 9: what is walked, targets. -/
namespace Tf
open PySem PySem.Spec PyProof.Rows L2
section
variable {T : Tb} {RX : XR} {W : WX} {X : Cx} {G : Prog} {cl : Call} {md : Md}
theorem scr_ds {F : Hp} : ∀ ns : List Int, RDs T F (ns.map D.int) (ns.map V.int)
  | [] => rfl
  | n :: ns => ⟨_, _, rfl, rfl, scr_ds ns⟩
/-- J yields the data xs -/
structure ItOk (T : Tb) (F : Hp) (J : L2.It) (xs : List D) : Prop where
  go : ∀ i F1 H, i < xs.length → Same F F1 → Same F1 H → J.go i H
  yld : ∀ i F1 H x H', J.yld i H x H' → i < xs.length → Same F F1 → ∀ P σ z, Rel T P F1 H σ z → ∃ F2 y, xs[i]? = some y ∧ Same F1 F2 ∧ Rel T P F2 H' σ z ∧ RD T F2 y x
  stop : ∀ i F1 H, i = xs.length → Same F F1 → Same F1 H → J.stop i H
def RI (T : Tb) (RX : XR) (W : WX) (m : Fr → Res (List D)) : TI := fun z H R => ∃ P F σ, Rel T P F H σ z ∧ PostA T RX W P z F (fun F1 H1 σ1 xs J => Rel T P F1 H1 σ1 z ∧ ItOk T F1 J xs) R (m σ)
theorem impI {tg e : Expr} {t t' : TI} (h : PI X tg e t) (k : ∀ z H Q, t' z H Q → t z H Q) : PI X tg e t' := ⟨fun pins s σ H Q I q => h.run pins s σ H Q I (k σ H Q q)⟩
/-- over a list or a tuple -/
theorem pi_seq {tg l : Expr} {tl : TE} (hl : PE X l tl) : PI X tg l (fun z H R => tl z H fun x H1 => (∃ t, x = V.str t ∧ R (Its t) H1) ∨ ∃ a, x = V.ref a ∧ (((∃ xs, SqL X.K H1 a xs) ∧ R (Itl X.K a) H1) ∨ ((∃ xs, SqT X.K H1 a xs) ∧ R (Itt X.K a) H1))) := by
  refine ⟨fun pins s σ H R I h => ?_⟩
  refine thn (hl.run pins s σ H _ I h) fun v s1 ⟨x, H1, I1, r1, q0⟩ => ?_
  rcases q0 with ⟨t, e, q⟩ | ⟨a, e, q1⟩
  · subst e
    obtain ⟨k, rfl⟩ := r1
    cases ha : t.cps.all (· < 128)
    · exact wpAny_pyIter_wide ha (pi_one (tk := s1.toks) I1 _ (turn_str _ t k "str_iterator" (.inr rfl)) ⟨_, Heap.get?_push_size _ rfl, rfl, rfl⟩ q)
    · exact wpAny_pyIter_ascii ha (pi_one (tk := s1.toks) I1 _ (turn_str _ t k "str_ascii_iterator" (.inl rfl)) ⟨_, Heap.get?_push_size _ rfl, rfl, rfl⟩ q)
  subst e
  cases r1
  rcases q1 with ⟨⟨xs, hq⟩, q⟩ | ⟨⟨xs, hq⟩, q⟩
  · obtain ⟨its, rv, p, hz⟩ := I1.list hq
    refine PySem.wpAny_pyIter_list p.isList ?_
    refine ⟨s1.heap.objs.size, [s1.heap.objs.size], _, _, H1, rfl, I1.kept (t' := s1.toks) fun b o e => Heap.get?_push_of_some _ e, turn_list a _, ⟨_, Heap.get?_push_size _ rfl, rfl, rfl⟩, fun b hb => ?_, q⟩
    have e : b = s1.heap.objs.size := by simpa using hb
    subst e
    exact I1.fpOk (Nat.le_refl _) (I1.hok.fresh (Nat.le_refl _))
  · obtain ⟨its, rv, p, hz⟩ := I1.tuple hq
    refine PySem.wpAny_pyIter_tuple (show s1.heap.IsTuple a its.toArray from p) ?_
    refine ⟨s1.heap.objs.size, [s1.heap.objs.size], _, _, H1, rfl, I1.kept (t' := s1.toks) fun b o e => Heap.get?_push_of_some _ e, turn_tuple a _, ⟨_, Heap.get?_push_size _ rfl, rfl, rfl⟩, fun b hb => ?_, q⟩
    have e : b = s1.heap.objs.size := by simpa using hb
    subst e
    exact I1.fpOk (Nat.le_refl _) (I1.hok.fresh (Nat.le_refl _))
theorem it_lst {K : PySem.W.Frag} {F : Hp} {a : Addr} {xs : List D} {us : List V} (hL : ∀ F1 H, Same F F1 → Same F1 H → SqL K H a us) (rs : RDs T F xs us) : ItOk T F (Itl K a) xs where
  go := fun i F1 H hi s s1 => by
    obtain ⟨u, eu, _⟩ := rs.get (List.getElem?_eq_getElem hi)
    exact ⟨us, u, hL F1 H s s1, eu⟩
  yld := fun i F1 H x H' hy hi s P σ z rel => by
    obtain ⟨eH, hx⟩ := hy
    subst eH
    obtain ⟨A, k⟩ := id rel
    obtain ⟨u, eu, ru⟩ := rs.get (List.getElem?_eq_getElem hi)
    have := hx us (hL F1 H' s k.fH)
    rw [eu] at this
    cases this
    exact ⟨F1, _, List.getElem?_eq_getElem hi, Same.refl _, rel, ru.mono s⟩
  stop := fun i F1 H hi s s1 => ⟨us, hL F1 H s s1, by rw [hi, rs.len]; exact Nat.le_refl _⟩
theorem it_tup {K : PySem.W.Frag} {F : Hp} {a : Addr} {xs : List D} {us : List V} (hL : ∀ F1 H, Same F F1 → Same F1 H → SqT K H a us) (rs : RDs T F xs us) : ItOk T F (Itt K a) xs where
  go := fun i F1 H hi s s1 => by
    obtain ⟨u, eu, _⟩ := rs.get (List.getElem?_eq_getElem hi)
    exact ⟨us, u, hL F1 H s s1, eu⟩
  yld := fun i F1 H x H' hy hi s P σ z rel => by
    obtain ⟨eH, hx⟩ := hy
    subst eH
    obtain ⟨A, k⟩ := id rel
    obtain ⟨u, eu, ru⟩ := rs.get (List.getElem?_eq_getElem hi)
    have := hx us (hL F1 H' s k.fH)
    rw [eu] at this
    cases this
    exact ⟨F1, _, List.getElem?_eq_getElem hi, Same.refl _, rel, ru.mono s⟩
  stop := fun i F1 H hi s s1 => ⟨us, hL F1 H s s1, by rw [hi, rs.len]; exact Nat.le_refl _⟩
theorem it_str {F : Hp} {t : PySem.Str} : ItOk T F (Its t) (signs t) where
  go := fun i F1 H hi s s1 => by
    have hi : i < t.cps.size := by simpa [signs] using hi
    exact hi
  yld := fun i F1 H x H' hy hi s P σ z rel => by
    obtain ⟨eH, c, hc, hx⟩ := hy
    subst eH hx
    refine ⟨F1, .str ⟨#[c]⟩, ?_, Same.refl _, rel, rfl⟩
    simp [signs, hc]
  stop := fun i F1 H hi s s1 => by
    have hi : i = t.cps.size := by simpa [signs] using hi
    show t.cps.size ≤ i
    omega
theorem pi_seqR {tg a : Expr} {ea : E} (ha : SE T RX W G cl X a ea) : PI X tg a (RI T RX W (evIt G cl (.seq ea))) := impI (pi_seq ha.v) fun z H Q ⟨P, F, σ, rel, q⟩ => by
  have q : PostA T RX W P z F (fun F1 H1 σ1 xs J => Rel T P F1 H1 σ1 z ∧ ItOk T F1 J xs) Q ((ev G cl .val ea σ).bind fun v σ => opt ((toD v).bind iterD) fun xs => .ok xs σ) := q
  refine ⟨P, F, σ, rel, ?_⟩
  revert q
  generalize ev G cl .val ea σ = r
  intro q
  cases r with
  | exc x σ1 => exact q
  | bad => exact q
  | ok v σ1 =>
    intro F1 H1 u s rv
    have q : PostA T RX W P z F (fun F1 H1 σ1 xs J => Rel T P F1 H1 σ1 z ∧ ItOk T F1 J xs) Q (opt ((toD v).bind iterD) fun xs => .ok xs σ1) := q
    cases ex : (toD v).bind iterD with
    | none => rw [ex] at q; exact q.elim
    | some xs =>
      rw [ex] at q
      obtain ⟨x, e1, e2⟩ := Option.bind_eq_some_iff.mp ex
      obtain ⟨F2, s2, rel2, rd⟩ := rv.toD e1
      obtain ⟨A, k⟩ := id rel2
      cases x with
      | lst ys =>
        cases (Option.some.inj (show some ys = some xs from e2))
        obtain ⟨a, us, eu, ea', rs⟩ := rd
        exact .inr ⟨a, eu, .inl ⟨⟨us, .of (k.fH _ _ ea')⟩, q F2 H1 _ (s.trans s2) ⟨rel2, it_lst (fun F1 H s s1 => .of (s1 _ _ (s _ _ ea'))) rs⟩⟩⟩
      | tup ys =>
        cases (Option.some.inj (show some ys = some xs from e2))
        obtain ⟨a, us, eu, ea', rs⟩ := rd
        exact .inr ⟨a, eu, .inr ⟨⟨us, .of (k.fH _ _ ea')⟩, q F2 H1 _ (s.trans s2) ⟨rel2, it_tup (fun F1 H s s1 => .of (s1 _ _ (s _ _ ea'))) rs⟩⟩⟩
      | scr ns =>
        cases (Option.some.inj (show some (ns.map D.int) = some xs from e2))
        obtain ⟨a, ob, eu, ea'⟩ := rd
        exact .inr ⟨a, eu, .inl ⟨⟨ns.map V.int, .inl (.inr ⟨ob, k.fH _ _ ea'⟩)⟩, q F2 H1 _ (s.trans s2) ⟨rel2, it_lst (us := ns.map V.int) (fun F1 H s s1 => .inl (.inr ⟨ob, s1 _ _ (s _ _ ea')⟩)) (scr_ds ns)⟩⟩⟩
      | str t =>
        cases (Option.some.inj (show some (signs t) = some xs from e2))
        exact .inl ⟨t, rd, q F2 H1 _ (s.trans s2) ⟨rel2, it_str⟩⟩
      | _ => cases e2
theorem it_rng {F : Hp} {lo : Int} {n : Nat} : ItOk T F (Itr lo n) ((List.range n).map fun (k : Nat) => D.int (lo + k)) where
  go := fun i F1 H hi s s1 => by show i < n; simpa using hi
  yld := fun i F1 H x H' hy hi s P σ z rel => by
    obtain ⟨eH, hx⟩ := hy
    subst eH hx
    have hi : i < n := by simpa using hi
    exact ⟨F1, .int (lo + i), by simp [hi], Same.refl _, rel, rfl⟩
  stop := fun i F1 H hi s s1 => by
    have hi : i = n := by simpa using hi
    show n ≤ i
    omega
theorem rng_cases {os : List O} {us : List V} {P F H : Hp} {σ : Fr} {z : L2.St} {xs : List D} (h : EvR T P z F H σ os us) (e : rngOf (O.frzL os) = some xs) :
    (∃ n : Int, us = [.int n] ∧ -(2 ^ 62) ≤ n ∧ n < 2 ^ 62 ∧ xs = (List.range n.toNat).map fun (k : Nat) => D.int (0 + k)) ∨
    ∃ a b : Int, us = [.int a, .int b] ∧ (-(2 ^ 62) ≤ a ∧ a < 2 ^ 62 ∧ -(2 ^ 62) ≤ b ∧ b < 2 ^ 62) ∧ xs = (List.range (b - a).toNat).map fun (k : Nat) => D.int (a + k) := by
  obtain ⟨F', s, rel, rs⟩ := h.frz
  generalize O.frzL os = ds at e rs
  cases ds with
  | nil => cases e
  | cons d ds =>
    obtain ⟨v, r, eu, r1, r2⟩ := rs
    subst eu
    cases d with
    | int a =>
      cases ds with
      | nil =>
        rw [show r = [] from r2, show v = .int a from r1]
        obtain ⟨hb, ex⟩ := ite_some (show (if -4611686018427387904 ≤ a ∧ a < 4611686018427387904 then some ((List.range a.toNat).map fun (k : Nat) => D.int k) else none) = some xs from e)
        exact .inl ⟨a, rfl, by omega, by omega, by rw [← ex]; simp⟩
      | cons d2 ds =>
        obtain ⟨v2, r', eu, r3, r4⟩ := r2
        subst eu
        cases d2 with
        | int b =>
          cases ds with
          | nil =>
            rw [show r' = [] from r4, show v = .int a from r1, show v2 = .int b from r3]
            obtain ⟨hb, ex⟩ := ite_some (show (if -4611686018427387904 ≤ a ∧ a < 4611686018427387904 ∧ -4611686018427387904 ≤ b ∧ b < 4611686018427387904 then some ((List.range (b - a).toNat).map fun (k : Nat) => D.int (a + k)) else none) = some xs from e)
            exact .inr ⟨a, b, rfl, by omega, ex.symm⟩
          | cons _ _ => cases e
        | _ => cases e
    | _ => cases e
theorem pi_rng1R {tg a : Expr} {as : Es} {p pos : Pos} (hg : Gl X "range") (hm : X.mg "range" = none) (ha : PA X [a] (RV T RX W (evs G cl as))) (hs : isStar a = false) (h1 : ∀ (σ : Fr) (os : List O) (σ1 : Fr), evs G cl as σ = .ok os σ1 → os.length = 1) : PI X tg (.Call (.Name "range" p) [a] [] pos) (RI T RX W (evIt G cl (.rng as))) :=
  impI (pi_range1 hg hm ha (star_of hs)) fun z H Q ⟨P, F, σ, rel, q⟩ => by
    have q : PostA T RX W P z F (fun F1 H1 σ1 xs J => Rel T P F1 H1 σ1 z ∧ ItOk T F1 J xs) Q ((evs G cl as σ).bind fun os σ => opt (rngOf (O.frzL os)) fun xs => .ok xs σ) := q
    refine ⟨P, F, σ, rel, ?_⟩
    revert q
    generalize hr : evs G cl as σ = r
    intro q
    cases r with
    | exc x σ1 => exact q
    | bad => exact q
    | ok os σ1 =>
      intro F1 H1 us s ev1
      have q : PostA T RX W P z F (fun F1 H1 σ1 xs J => Rel T P F1 H1 σ1 z ∧ ItOk T F1 J xs) Q (opt (rngOf (O.frzL os)) fun xs => .ok xs σ1) := q
      cases ex : rngOf (O.frzL os) with
      | none => rw [ex] at q; exact q.elim
      | some xs =>
        rw [ex] at q
        rcases rng_cases ev1 ex with ⟨n, eu, b1, b2, exs⟩ | ⟨n, m, eu, _⟩
        · subst exs
          exact ⟨n, eu, b1, b2, q F1 H1 _ s ⟨ev1.rel, it_rng⟩⟩
        · have := h1 _ _ _ hr
          rw [ev1.len, eu] at this
          cases this
theorem pi_rng2R {tg a b : Expr} {as : Es} {p pos : Pos} (hg : Gl X "range") (hm : X.mg "range" = none) (ha : PA X [a, b] (RV T RX W (evs G cl as))) (hs : isStar a = false) (hs2 : isStar b = false) (h1 : ∀ (σ : Fr) (os : List O) (σ1 : Fr), evs G cl as σ = .ok os σ1 → os.length = 2) : PI X tg (.Call (.Name "range" p) [a, b] [] pos) (RI T RX W (evIt G cl (.rng as))) :=
  impI (pi_range2 hg hm ha (by rw [star_of hs, star_of hs2]; rfl) (star_of hs2)) fun z H Q ⟨P, F, σ, rel, q⟩ => by
    have q : PostA T RX W P z F (fun F1 H1 σ1 xs J => Rel T P F1 H1 σ1 z ∧ ItOk T F1 J xs) Q ((evs G cl as σ).bind fun os σ => opt (rngOf (O.frzL os)) fun xs => .ok xs σ) := q
    refine ⟨P, F, σ, rel, ?_⟩
    revert q
    generalize hr : evs G cl as σ = r
    intro q
    cases r with
    | exc x σ1 => exact q
    | bad => exact q
    | ok os σ1 =>
      intro F1 H1 us s ev1
      have q : PostA T RX W P z F (fun F1 H1 σ1 xs J => Rel T P F1 H1 σ1 z ∧ ItOk T F1 J xs) Q (opt (rngOf (O.frzL os)) fun xs => .ok xs σ1) := q
      cases ex : rngOf (O.frzL os) with
      | none => rw [ex] at q; exact q.elim
      | some xs =>
        rw [ex] at q
        rcases rng_cases ev1 ex with ⟨n, eu, _⟩ | ⟨n, m, eu, b1, exs⟩
        · have := h1 _ _ _ hr
          rw [ev1.len, eu] at this
          cases this
        · subst exs
          exact ⟨n, m, eu, b1, q F1 H1 _ s ⟨ev1.rel, it_rng⟩⟩
/-! ### targets -/
/-- a target takes data; fr: what is said of the slots and is kept -/
def TgR (T : Tb) (g : TG) (Kp : L2.St → Prop) (m : D → Fr → Option Fr) : Prop :=
  ∀ (P F H : Hp) (σ σ' : Fr) (z : L2.St) (x : D) (u : V) (Q : L2.St → Hp → Prop), Rel T P F H σ z → Kp z → RD T F x u → m x σ = some σ' → (∀ z', Rel T P F H σ' z' → Kp z' → Q z' H) → g u z H Q
theorem assign_ok {P F H : Hp} {σ : Fr} {z : L2.St} {v : Val} {u : V} {o : O} {i : Nat} (h : RelV T P F H σ z v u) (e : asO v = some o) (hi : i < σ.length) : Rel T P F H (σ.put i (some (.own o))) (z.set i (some u)) := by
  have main : ∀ (A C : List Addr), RSl T F H σ z A → RO T F H o u C → Own P F H (C ++ A) → Rel T P F H (σ.put i (some (.own o))) (z.set i (some u)) := fun A C h1 h2 ow => by
    obtain ⟨A', h3, ct⟩ := h1.put (s := some (.own o)) (x := some u) hi ⟨u, rfl, h2⟩
    exact (ow.le fun a => by rw [List.count_append]; exact ct a).rel h3
  cases v with
  | d x =>
    cases (Option.some.inj (show some (O.d x) = some o from e))
    obtain ⟨⟨A, k⟩, r⟩ := h
    exact main A [] k.s ⟨rfl, r⟩ k.own
  | o o' =>
    cases (Option.some.inj (show some o' = some o from e))
    obtain ⟨A, B, k⟩ := h
    exact main A B k.s k.o ⟨nd_count.mp k.nd, k.nP, k.nF, k.pH, k.fH, k.pF⟩
  | b i o => cases e
/-- the slots at lm stand as at the entry -/
def Keep (lm : List Nat) (z0 z : L2.St) : Prop := ∀ i, i ∈ lm → z[i]? = z0[i]?
theorem Keep.set {lm : List Nat} {z0 z : L2.St} {i : Nat} {x : Option V} (h : Keep lm z0 z) (hi : i ∉ lm) : Keep lm z0 (z.set i x) := fun j hj => by
  rw [List.getElem?_set_ne (fun e => hi (by rw [e]; exact hj))]
  exact h j hj
theorem asg_var {i : Nat} {x : D} {σ σ' : Fr} (h : asg (.var i) x σ = some σ') : i < σ.length ∧ σ' = σ.put i (some (owned x)) := by
  have h : (match σ[i]? with
    | some (some (.lent _)) => none
    | some _ => some (σ.put i (some (owned x)))
    | none => none) = some σ' := h
  cases e : σ[i]? with
  | none => rw [e] at h; cases h
  | some s =>
    have hi := (List.getElem?_eq_some_iff.mp e).1
    rw [e] at h
    cases s with
    | none => exact ⟨hi, (Option.some.inj h).symm⟩
    | some s => cases s with
      | own o => exact ⟨hi, (Option.some.inj h).symm⟩
      | lent o => cases h
theorem tg_var {i : Nat} {Kp : L2.St → Prop} (hK : ∀ z u, Kp z → Kp (z.set i (some u))) : TgR T (gName i) Kp (asg (.var i)) := by
  intro P F H σ σ' z x u Q rel kp rx e q
  obtain ⟨hi, rfl⟩ := asg_var e
  exact q _ (assign_ok (v := .d x) ⟨rel, rx⟩ rfl hi) (hK z u kp)
/-- several -/
def TgsR (T : Tb) (g : TGs) (Kp : L2.St → Prop) (m : List D → Fr → Option Fr) : Prop :=
  ∀ (P F H : Hp) (σ σ' : Fr) (z : L2.St) (xs : List D) (us : List V) (Q : L2.St → Hp → Prop), Rel T P F H σ z → Kp z → RDs T F xs us → m xs σ = some σ' → (∀ z', Rel T P F H σ' z' → Kp z' → Q z' H) → g us z H Q
theorem tgs_nil {Kp : L2.St → Prop} : TgsR T gNil Kp (asg.asgs []) := by
  intro P F H σ σ' z xs us Q rel kp rx e q
  cases xs with
  | nil =>
    cases (Option.some.inj (show some σ = some σ' from by simpa [asg.asgs] using e))
    exact ⟨rx, q z rel kp⟩
  | cons _ _ => simp [asg.asgs] at e
theorem tgs_cons {Kp : L2.St → Prop} {t : Tg} {ts : List Tg} {g : TG} {gs : TGs} (h1 : TgR T g Kp (asg t)) (h2 : TgsR T gs Kp (asg.asgs ts)) : TgsR T (gCons g gs) Kp (asg.asgs (t :: ts)) := by
  intro P F H σ σ' z xs us Q rel kp rx e q
  cases xs with
  | nil => simp [asg.asgs] at e
  | cons x xs =>
    obtain ⟨v, r, eu, r1, r2⟩ := rx
    rw [asg.asgs] at e
    obtain ⟨σ1, e1, e2⟩ := Option.bind_eq_some_iff.mp e
    exact ⟨v, r, eu, h1 P F H σ σ1 z x v _ rel kp r1 e1 fun z1 rel1 kp1 => h2 P F H σ1 σ' z1 xs r Q rel1 kp1 r2 e2 q⟩
theorem PG.or {tg : Expr} {t t' : TG} (h : PG X tg t) (h' : PG X tg t') : PG X tg (fun v σ H Q => t v σ H Q ∨ t' v σ H Q) := ⟨fun pins s σ H v u Q I r q => q.elim (h.run pins s σ H v u Q I r) (h'.run pins s σ H v u Q I r)⟩
theorem asgs_len {ts : List Tg} : ∀ {xs : List D} {σ σ' : Fr}, asg.asgs ts xs σ = some σ' → xs.length = ts.length := by
  induction ts with
  | nil => intro xs σ σ' e; cases xs with
    | nil => rfl
    | cons _ _ => simp [asg.asgs] at e
  | cons t ts ih => intro xs σ σ' e; cases xs with
    | nil => simp [asg.asgs] at e
    | cons x xs =>
      rw [asg.asgs] at e
      obtain ⟨σ1, e1, e2⟩ := Option.bind_eq_some_iff.mp e
      rw [List.length_cons, List.length_cons, ih e2]
/-- a row of targets: from a tuple or a list -/
def gSeq (K : PySem.W.Frag) (n : Nat) (t : TGs) : TG := fun v σ H Q => gTup K n t v σ H Q ∨ gUnl K n t v σ H Q
theorem tg_tup {Kp : L2.St → Prop} {ts : List Tg} {gs : TGs} {K : PySem.W.Frag} (h : TgsR T gs Kp (asg.asgs ts)) : TgR T (gSeq K ts.length gs) Kp (asg (.tup ts)) := by
  intro P F H σ σ' z x u Q rel kp rx e q
  rw [asg] at e
  obtain ⟨xs, ex, e⟩ := Option.bind_eq_some_iff.mp e
  obtain ⟨A, k⟩ := id rel
  have hl := asgs_len e
  cases x with
  | tup ys =>
    cases (Option.some.inj (show some ys = some xs from ex))
    obtain ⟨a, us, eu, ea, rs⟩ := rx
    exact .inl ⟨a, us, eu, .of (k.fH _ _ ea), by rw [← rs.len, hl], h P F H σ σ' z xs us Q rel kp rs e q⟩
  | lst ys =>
    cases (Option.some.inj (show some ys = some xs from ex))
    obtain ⟨a, us, eu, ea, rs⟩ := rx
    exact .inr ⟨a, us, eu, .of (k.fH _ _ ea), by rw [← rs.len, hl], h P F H σ σ' z xs us Q rel kp rs e q⟩
  | scr ns =>
    cases (Option.some.inj (show some (ns.map D.int) = some xs from ex))
    obtain ⟨a, ob, eu, ea⟩ := rx
    have rs : RDs T F (ns.map D.int) (ns.map V.int) := scr_ds ns
    exact .inr ⟨a, _, eu, .inl (.inr ⟨ob, k.fH _ _ ea⟩), by rw [← rs.len, hl], h P F H σ σ' z _ _ Q rel kp rs e q⟩
  | _ => cases ex
end
end Tf
end
section
set_option Elab.async false
set_option linter.all false
set_option maxRecDepth 100000
/-! Soundness, part 10: statements. -/
namespace Tf
open PySem PySem.Spec PyProof.Rows L2
/-- what is asked behind a statement -/
def PostS (T : Tb) (RX : XR) (W : WX) (lm : List Nat) (z0 : L2.St) (P F0 : Hp) (D : Ends) : RS → Prop
  | .next σ => ∀ F H z, Same F0 F → Rel T P F H σ z → Keep lm z0 z → D.nx z H
  | .brk σ => ∀ F H z, Same F0 F → Rel T P F H σ z → Keep lm z0 z → D.bk z H
  | .cont σ => ∀ F H z, Same F0 F → Rel T P F H σ z → Keep lm z0 z → D.ct z H
  | .ret v σ => ∀ F H z u, Same F0 F → RelV T P F H σ z v u → Keep lm z0 z → D.rt u H
  | .exc x σ => ∀ F H z c d, Same F0 F → Rel T P F H σ z → Keep lm z0 z → RX F H x c d → W c d z H
  | .bad => False
def RSt (T : Tb) (RX : XR) (W : WX) (lm : List Nat) (z0 : L2.St) (m : Fr → RS) : TS := fun D z H => ∃ P F σ, Rel T P F H σ z ∧ Keep lm z0 z ∧ PostS T RX W lm z0 P F D (m σ)
section
variable {T : Tb} {RX : XR} {W : WX} {X : Cx} {G : Prog} {cl : Call} {md : Md} {lm : List Nat} {z0 : L2.St} {w : Nat}
theorem PostS.later {P F0 F1 : Hp} {D : Ends} {r : RS} (h : Same F0 F1) (p : PostS T RX W lm z0 P F0 D r) : PostS T RX W lm z0 P F1 D r := by
  cases r with
  | next σ => exact fun F H z s => p F H z (h.trans s)
  | brk σ => exact fun F H z s => p F H z (h.trans s)
  | cont σ => exact fun F H z s => p F H z (h.trans s)
  | ret v σ => exact fun F H z u s => p F H z u (h.trans s)
  | exc x σ => exact fun F H z c d s => p F H z c d (h.trans s)
  | bad => exact p
/-- an expression, then the rest -/
theorem R.st {m : Fr → Res Val} {f : Val → Fr → RS} {z : L2.St} {H : Hp} {D : Ends} {P F : Hp} {σ : Fr} (rel : Rel T P F H σ z) (kp : Keep lm z0 z) (h : PostS T RX W lm z0 P F D ((m σ).st f)) :
    R T RX W m z H fun u H1 => ∃ F1 σ1 v, Same F F1 ∧ RelV T P F1 H1 σ1 z v u ∧ PostS T RX W lm z0 P F1 D (f v σ1) := by
  refine ⟨P, F, σ, rel, ?_⟩
  revert h
  generalize m σ = r
  intro h
  cases r with
  | ok v σ1 => exact fun F1 H1 u s k => ⟨F1, σ1, v, s, k, PostS.later s h⟩
  | exc x σ1 => exact fun F1 H1 c d s k rx => h F1 H1 z c d s k kp rx
  | bad => exact h
theorem RT.st {m : Fr → Res Val} {f : Val → Fr → RS} {z : L2.St} {H : Hp} {D : Ends} {P F : Hp} {σ : Fr} (rel : Rel T P F H σ z) (kp : Keep lm z0 z) (hm : ∀ v σ1, m σ = .ok v σ1 → ∃ b, v = .d (.bl b)) (h : PostS T RX W lm z0 P F D ((m σ).st f)) :
    RT T RX W m z H fun b H1 => ∃ F1 σ1, Same F F1 ∧ Rel T P F1 H1 σ1 z ∧ PostS T RX W lm z0 P F1 D (f (.d (.bl b)) σ1) := by
  refine ⟨P, F, σ, rel, ?_⟩
  revert h hm
  generalize m σ = r
  intro hm h
  cases r with
  | ok v σ1 =>
    obtain ⟨b, rfl⟩ := hm v σ1 rfl
    exact ⟨b, rfl, fun F1 H1 s k => ⟨F1, σ1, s, k, PostS.later s h⟩⟩
  | exc x σ1 => exact fun F1 H1 c d s k rx => h F1 H1 z c d s k kp rx
  | bad => exact h.elim
theorem RV.st {m : Fr → Res (List O)} {f : List O → Fr → RS} {z : L2.St} {H : Hp} {D : Ends} {P F : Hp} {σ : Fr} (rel : Rel T P F H σ z) (kp : Keep lm z0 z) (h : PostS T RX W lm z0 P F D ((m σ).st f)) :
    RV T RX W m z H fun us H1 => ∃ F1 σ1 os, Same F F1 ∧ EvR T P z F1 H1 σ1 os us ∧ PostS T RX W lm z0 P F1 D (f os σ1) := by
  refine ⟨P, F, σ, rel, ?_⟩
  revert h
  generalize m σ = r
  intro h
  cases r with
  | ok v σ1 => exact fun F1 H1 u s k => ⟨F1, σ1, v, s, k, PostS.later s h⟩
  | exc x σ1 => exact fun F1 H1 c d s k rx => h F1 H1 z c d s k kp rx
  | bad => exact h
theorem PostS.optS {α : Type} {P F : Hp} {D : Ends} {o : Option α} {f : α → RS} (h : PostS T RX W lm z0 P F D (optS o f)) : ∃ a, o = some a ∧ PostS T RX W lm z0 P F D (f a) := by
  cases o with
  | none => exact h.elim
  | some a => exact ⟨a, rfl, h⟩
/-- soundness of a statement, of a suite -/
abbrev SS (T : Tb) (RX : XR) (W : WX) (lm : List Nat) (z0 : L2.St) (G : Prog) (cl : Call) (w : Nat) (X : Cx) (st : Stmt) (S : S) : Prop := PS X st (RSt T RX W lm z0 (exS G cl w S))
abbrev SSs (T : Tb) (RX : XR) (W : WX) (lm : List Nat) (z0 : L2.St) (G : Prog) (cl : Call) (w : Nat) (X : Cx) (st : List Stmt) (S : Ss) : Prop := PSs X st (RSt T RX W lm z0 (exSs G cl w S))
theorem sss_nil : SSs T RX W lm z0 G cl w X [] .nil := impSs pss_nil fun D z H ⟨P, F, σ, rel, kp, q⟩ => q F H z (Same.refl _) rel kp
theorem sss_cons {st : Stmt} {rest : List Stmt} {S : S} {Sr : Ss} (h1 : SS T RX W lm z0 G cl w X st S) (h2 : SSs T RX W lm z0 G cl w X rest Sr) : SSs T RX W lm z0 G cl w X (st :: rest) (.cons S Sr) := by
  refine impSs (pss_cons h1 h2) fun D z H ⟨P, F, σ, rel, kp, q⟩ => ⟨P, F, σ, rel, kp, ?_⟩
  have q : PostS T RX W lm z0 P F D (match exS G cl w S σ with
    | .next σ => exSs G cl w Sr σ
    | z => z) := q
  revert q
  generalize exS G cl w S σ = r
  intro q
  cases r with
  | next σ1 => exact fun F1 H1 z1 s rel1 kp1 => ⟨P, F1, σ1, rel1, kp1, PostS.later s q⟩
  | _ => exact q
theorem ss_never {st : Stmt} : SS T RX W lm z0 G cl w X st .never := impS ps_never fun D z H ⟨P, F, σ, rel, kp, q⟩ => q
theorem ss_pass {pos : Pos} : SS T RX W lm z0 G cl w X (.Pass pos) .pass := impS ps_pass fun D z H ⟨P, F, σ, rel, kp, q⟩ => q F H z (Same.refl _) rel kp
theorem ss_brk {pos : Pos} : SS T RX W lm z0 G cl w X (.Break pos) .brk := impS ps_break fun D z H ⟨P, F, σ, rel, kp, q⟩ => q F H z (Same.refl _) rel kp
theorem ss_cont {pos : Pos} : SS T RX W lm z0 G cl w X (.Continue pos) .cont := impS ps_continue fun D z H ⟨P, F, σ, rel, kp, q⟩ => q F H z (Same.refl _) rel kp
theorem ss_retN {pos : Pos} : SS T RX W lm z0 G cl w X (.Return none pos) .retN := impS ps_retN fun D z H ⟨P, F, σ, rel, kp, q⟩ => q F H z _ (Same.refl _) ⟨rel, rfl⟩ kp
theorem ss_ret {e : Expr} {ee : E} {pos : Pos} (h : SE T RX W G cl X e ee) : SS T RX W lm z0 G cl w X (.Return (some e) pos) (.ret ee) := impS (ps_ret h.v) fun D z H ⟨P, F, σ, rel, kp, q⟩ =>
  R.mono (R.st rel kp q) fun u H1 ⟨F1, σ1, v, s, rv, q1⟩ => q1 F1 H1 z u (Same.refl _) rv kp
theorem ss_expr {e : Expr} {ee : E} {pos : Pos} (h : SE T RX W G cl X e ee) (hs : swapsWith e none pos.line X.env = pure false) : SS T RX W lm z0 G cl w X (.Expr e pos) (.expr ee) := impS (ps_expr h.v hs) fun D z H ⟨P, F, σ, rel, kp, q⟩ =>
  R.mono (R.st rel kp q) fun u H1 ⟨F1, σ1, v, s, rv, q1⟩ => q1 F1 H1 z (Same.refl _) rv.rel kp
theorem ss_doc {x : PySem.Str} {j : Nat} {pos pos' : Pos} : SS T RX W lm z0 G cl w X (.Expr (.Constant (.str x) j pos) pos') .pass := impS ps_doc fun D z H ⟨P, F, σ, rel, kp, q⟩ => q F H z (Same.refl _) rel kp
theorem asgV_some {i : Nat} {v : Val} {σ σ' : Fr} (h : asgV i v σ = some σ') : ∃ o, asO v = some o ∧ i < σ.length ∧ σ' = σ.put i (some (.own o)) := by
  have h : (match σ[i]? with
    | some (some (.lent _)) => none
    | some _ => (asO v).map fun o => σ.put i (some (.own o))
    | none => none) = some σ' := h
  cases e : σ[i]? with
  | none => rw [e] at h; cases h
  | some s =>
    have hi := (List.getElem?_eq_some_iff.mp e).1
    rw [e] at h
    cases s with
    | none =>
      obtain ⟨o, e1, e2⟩ := Option.map_eq_some_iff.mp (show (asO v).map (fun o => σ.put i (some (.own o))) = some σ' from h)
      exact ⟨o, e1, hi, e2.symm⟩
    | some s => cases s with
      | own o =>
        obtain ⟨o, e1, e2⟩ := Option.map_eq_some_iff.mp (show (asO v).map (fun o => σ.put i (some (.own o))) = some σ' from h)
        exact ⟨o, e1, hi, e2.symm⟩
      | lent o => cases h
theorem ss_asg {i : Nat} {x : PySem.Str} {e : Expr} {ee : E} {pos pos' : Pos} (h : SE T RX W G cl X e ee) (hN : X.N.Nodup) (hi : X.N[i]? = some x) (hx : Loc X.env.scope x) (hl : i ∉ lm) (hs : swapsWith e (some (.Name x pos')) pos.line X.env = pure false) (hf : X.fn x = true ∨ X.env.scope.names.lookup x = some .local) :
    SS T RX W lm z0 G cl w X (.Assign [.Name x pos'] e pos) (.asg i ee) := impS (ps_set hN hi hx h.v hs hf) fun D z H ⟨P, F, σ, rel, kp, q⟩ =>
  R.mono (R.st rel kp q) fun u H1 ⟨F1, σ1, v, s, rv, q1⟩ => by
    obtain ⟨σ', e', q1⟩ := PostS.optS q1
    obtain ⟨o, eo, hlt, rfl⟩ := asgV_some e'
    exact q1 F1 H1 _ (Same.refl _) (assign_ok rv eo hlt) (kp.set hl)
theorem ss_asgT {tg e : Expr} {ee : E} {ts : List Tg} {g : TG} {pos : Pos} (h : SE T RX W G cl X e ee) (hg : PG X tg g) (ht : TgR T g (Keep lm z0) (asg (.tup ts))) (hs : swapsWithSole [tg] e pos.line X.env = pure false) (hw : swappedStores [tg] e X.env = pure none) (h1 : (assignEach [tg] X.env).map (·.2) = [assign tg X.env]) : SS T RX W lm z0 G cl w X (.Assign [tg] e pos) (.asgT ts ee) :=
  impS (ps_asg h.v hg hs hw h1) fun D z H ⟨P, F, σ, rel, kp, q⟩ =>
  R.mono (R.st rel kp q) fun u H1 ⟨F1, σ1, v, s, rv, q1⟩ => by
    obtain ⟨σ', e', q1⟩ := PostS.optS q1
    obtain ⟨x, ex, e'⟩ := Option.bind_eq_some_iff.mp e'
    obtain ⟨F2, s2, rel2, rd⟩ := rv.toD ex
    exact ht P F2 H1 σ1 σ' z x u D.nx rel2 kp rd e' fun z' r' k' => q1 F2 H1 z' s2 r' k'
theorem ss_ife {c : Expr} {a b : List Stmt} {ec : E} {Sa Sb : Ss} {pos : Pos} (hc : SE T RX W G cl X c ec) (ha : SSs T RX W lm z0 G cl w X a Sa) (hb : SSs T RX W lm z0 G cl w X b Sb) : SS T RX W lm z0 G cl w X (.If c a b pos) (.ife ec Sa Sb) :=
  impS (ps_if hc.t ha hb) fun D z H ⟨P, F, σ, rel, kp, q⟩ =>
  RT.mono (RT.st rel kp (fun v σ1 e => ev_tst ec e) q) fun k H1 ⟨F1, σ1, s, rel1, q1⟩ => by
    cases k with
    | true => exact ⟨P, F1, σ1, rel1, kp, q1⟩
    | false => exact ⟨P, F1, σ1, rel1, kp, q1⟩
theorem ss_whl {c : Expr} {body : List Stmt} {ec : E} {Sb : Ss} {pos : Pos} (hp : PassesOwn (model X.prog X.w) X.A X.env X.xe) (hc : SE T RX W G cl X c ec) (hb : SSs T RX W lm z0 G cl w X body Sb) : SS T RX W lm z0 G cl w X (.While c body [] pos) (.whl ec Sb) := by
  refine impS (ps_while hp hc.t hb) fun D z H ⟨P, F, σ, rel, kp, q⟩ => ?_
  refine ⟨fun m z H => ∃ P F σ, Rel T P F H σ z ∧ Keep lm z0 z ∧ PostS T RX W lm z0 P F D (whlLoop (fun σ => ev G cl .tst ec σ) (fun σ => exSs G cl w Sb σ) m σ), ⟨w, P, F, σ, rel, kp, q⟩, ?_⟩
  clear q kp rel
  rintro m z H ⟨P, F, σ, rel, kp, q⟩
  cases m with
  | zero => exact q.elim
  | succ m =>
    refine RT.mono (RT.st rel kp (fun v σ1 e => ev_tst ec e) q) fun k H1 ⟨F1, σ1, s, rel1, q1⟩ => ?_
    cases k with
    | false => exact q1 F1 H1 z (Same.refl _) rel1 kp
    | true =>
      refine ⟨fun z' H' => ∃ P F σ, Rel T P F H' σ z' ∧ Keep lm z0 z' ∧ PostS T RX W lm z0 P F D (whlLoop (fun σ => ev G cl .tst ec σ) (fun σ => exSs G cl w Sb σ) m σ), fun z' H' h => ⟨m, Nat.lt_succ_self _, h⟩, P, F1, σ1, rel1, kp, ?_⟩
      have q1 : PostS T RX W lm z0 P F1 D (match exSs G cl w Sb σ1 with
        | .next σ => whlLoop (fun σ => ev G cl .tst ec σ) (fun σ => exSs G cl w Sb σ) m σ
        | .cont σ => whlLoop (fun σ => ev G cl .tst ec σ) (fun σ => exSs G cl w Sb σ) m σ
        | .brk σ => .next σ
        | r => r) := q1
      revert q1
      generalize exSs G cl w Sb σ1 = r
      intro q1
      cases r with
      | next σ2 => exact fun F2 H2 z2 s2 rel2 kp2 => ⟨P, F2, σ2, rel2, kp2, PostS.later s2 q1⟩
      | cont σ2 => exact fun F2 H2 z2 s2 rel2 kp2 => ⟨P, F2, σ2, rel2, kp2, PostS.later s2 q1⟩
      | brk σ2 => exact q1
      | ret v σ2 => exact q1
      | exc x σ2 => exact q1
      | bad => exact q1
theorem RI.st {m : Fr → Res (List D)} {f : List D → Fr → RS} {z : L2.St} {H : Hp} {D : Ends} {P F : Hp} {σ : Fr} (rel : Rel T P F H σ z) (kp : Keep lm z0 z) (h : PostS T RX W lm z0 P F D ((m σ).st f)) :
    RI T RX W m z H fun J H1 => ∃ F1 σ1 xs, Same F F1 ∧ (Rel T P F1 H1 σ1 z ∧ ItOk T F1 J xs) ∧ PostS T RX W lm z0 P F1 D (f xs σ1) := by
  refine ⟨P, F, σ, rel, ?_⟩
  revert h
  generalize m σ = r
  intro h
  cases r with
  | ok v σ1 => exact fun F1 H1 u s k => ⟨F1, σ1, v, s, k, PostS.later s h⟩
  | exc x σ1 => exact fun F1 H1 c d s k rx => h F1 H1 z c d s k kp rx
  | bad => exact h
theorem RI.mono {m : Fr → Res (List D)} {z : L2.St} {H : Hp} {Q Q' : L2.It → Hp → Prop} (h : RI T RX W m z H Q) (k : ∀ u H, Q u H → Q' u H) : RI T RX W m z H Q' := by
  obtain ⟨P, F, σ, rel, q⟩ := h
  exact ⟨P, F, σ, rel, PostA.mono q k⟩
theorem ss_for {tg iter : Expr} {body : List Stmt} {t : Tg} {it : It} {g : TG} {Sb : Ss} {pos : Pos} (hp : PassesOwn (model X.prog X.w) X.A X.env X.xe) (hcalm : X.calm = true) (hi : PI X tg iter (RI T RX W (evIt G cl it))) (hg : PG X tg g) (ht : TgR T g (Keep lm z0) (asg t)) (hb : SSs T RX W lm z0 G cl w X body Sb)
    (hs : ∀ x, foldedSetIterable iter X.env x = pure x) : SS T RX W lm z0 G cl w X (.For tg iter body [] pos) (.for_ t it Sb) := by
  refine impS (ps_for hp hcalm hi hg hb hs) fun D z H ⟨P, F, σ, rel, kp, q⟩ => ?_
  refine RI.mono (RI.st rel kp q) fun J H1 ⟨F1, σ1, xs, s, ⟨rel1, iok⟩, q1⟩ => ?_
  refine ⟨fun i m z H => m + i = xs.length ∧ ∃ P F σ, Same F1 F ∧ Rel T P F H σ z ∧ Keep lm z0 z ∧ PostS T RX W lm z0 P F D (forLoop (fun x σ => optS (asg t x σ) fun σ => exSs G cl w Sb σ) (xs.drop i) σ), ⟨xs.length, by omega, P, F1, σ1, Same.refl _, rel1, kp, by rw [List.drop_zero]; exact q1⟩, ?_⟩
  clear q1 rel1 kp q rel
  rintro i m z H ⟨hm, P, F, σ, sF, rel, kp, q⟩
  obtain ⟨A, k⟩ := id rel
  by_cases hlt : i < xs.length
  · refine .inr ⟨iok.go i F H hlt sF k.fH, fun z' H' => ∃ P F σ, Same F1 F ∧ Rel T P F H' σ z' ∧ Keep lm z0 z' ∧ PostS T RX W lm z0 P F D (forLoop (fun x σ => optS (asg t x σ) fun σ => exSs G cl w Sb σ) (xs.drop (i + 1)) σ), fun z' H' h => ⟨m - 1, by omega, by omega, h⟩, fun x H' hy => ?_⟩
    obtain ⟨F2, y, ey, s2, rel2, ry⟩ := iok.yld i F H x H' hy hlt sF P σ z rel
    rw [List.drop_eq_getElem_cons hlt, (List.getElem?_eq_some_iff.mp ey).2] at q
    have q : PostS T RX W lm z0 P F D (match (optS (asg t y σ) fun σ => exSs G cl w Sb σ) with
      | .next σ => forLoop (fun x σ => optS (asg t x σ) fun σ => exSs G cl w Sb σ) (xs.drop (i + 1)) σ
      | .cont σ => forLoop (fun x σ => optS (asg t x σ) fun σ => exSs G cl w Sb σ) (xs.drop (i + 1)) σ
      | .brk σ => .next σ
      | r => r) := q
    cases ea : asg t y σ with
    | none => rw [ea] at q; exact q.elim
    | some σ' =>
      rw [ea] at q
      refine ht P F2 H' σ σ' z y x _ rel2 kp ry ea fun z' rel3 kp3 => ⟨P, F2, σ', rel3, kp3, ?_⟩
      have q : PostS T RX W lm z0 P F2 D (match exSs G cl w Sb σ' with
        | .next σ => forLoop (fun x σ => optS (asg t x σ) fun σ => exSs G cl w Sb σ) (xs.drop (i + 1)) σ
        | .cont σ => forLoop (fun x σ => optS (asg t x σ) fun σ => exSs G cl w Sb σ) (xs.drop (i + 1)) σ
        | .brk σ => .next σ
        | r => r) := PostS.later s2 q
      revert q
      generalize exSs G cl w Sb σ' = r
      intro q
      cases r with
      | next σ2 => exact fun F3 H3 z3 s3 rel3 kp3 => ⟨P, F3, σ2, (sF.trans s2).trans s3, rel3, kp3, PostS.later s3 q⟩
      | cont σ2 => exact fun F3 H3 z3 s3 rel3 kp3 => ⟨P, F3, σ2, (sF.trans s2).trans s3, rel3, kp3, PostS.later s3 q⟩
      | brk σ2 => exact q
      | ret v σ2 => exact q
      | exc x σ2 => exact q
      | bad => exact q
  · have hie : i = xs.length := by omega
    refine .inl ⟨iok.stop i F H hie sF k.fH, ?_⟩
    rw [List.drop_of_length_le (by omega)] at q
    exact q F H z (Same.refl _) rel kp
end
end Tf
end
section
set_option Elab.async false
set_option linter.all false
set_option maxRecDepth 100000
/-! Soundness, part 11: what is changed. -/
namespace Tf
open PySem PySem.Spec PyProof.Rows L2
section
variable {T : Tb} {RX : XR} {W : WX} {X : Cx} {G : Prog} {cl : Call} {md : Md} {lm : List Nat} {z0 : L2.St} {w : Nat}
theorem ROs.set {F H : Hp} {o : O} {u : V} {C : List Addr} (ro : RO T F H o u C) : ∀ {os : List O} {us : List V} {B : List Addr} {j : Nat}, ROs T F H os us B → ∃ B', ROs T F H (os.set j o) (us.set j u) B' ∧ ∀ a, B'.count a ≤ B.count a + C.count a
  | [], _, _, _, r => by
    obtain ⟨e, eA⟩ := r
    subst e eA
    exact ⟨[], ⟨rfl, rfl⟩, fun a => by simp⟩
  | x :: xs, _, _, 0, r => by
    obtain ⟨v, s, A1, A2, e, eA, r1, r2⟩ := r
    subst e eA
    exact ⟨C ++ A2, ⟨u, s, C, A2, rfl, rfl, ro, r2⟩, fun a => by rw [List.count_append, List.count_append]; omega⟩
  | x :: xs, _, _, j + 1, r => by
    obtain ⟨v, s, A1, A2, e, eA, r1, r2⟩ := r
    subst e eA
    obtain ⟨B', h, ct⟩ := ROs.set ro (j := j) r2
    exact ⟨A1 ++ B', ⟨v, _, A1, B', rfl, rfl, r1, h⟩, fun a => by have := ct a; rw [List.count_append, List.count_append]; omega⟩
theorem ROs.app {F H : Hp} {o : O} {u : V} {C : List Addr} (ro : RO T F H o u C) : ∀ {os : List O} {us : List V} {B : List Addr}, ROs T F H os us B → ROs T F H (os ++ [o]) (us ++ [u]) (B ++ C)
  | [], _, _, r => by
    obtain ⟨e, eA⟩ := r
    subst e eA
    exact ⟨u, [], C, [], rfl, by simp, ro, rfl, rfl⟩
  | x :: xs, _, _, r => by
    obtain ⟨v, s, A1, A2, e, eA, r1, r2⟩ := r
    subst e eA
    exact ⟨v, s ++ [u], A1, A2 ++ C, rfl, by rw [List.append_assoc], r1, ROs.app ro r2⟩
theorem ROf.put {F H : Hp} (ok : ∀ f g, f < T.nf → g < T.nf → T.fN f = T.fN g → f = g) {f : Nat} (hf : f < T.nf) {o : O} {u : V} {C : List Addr} (ro : RO T F H o u C) : ∀ {fs : List (Nat × O)} {gs : List (PySem.Str × V)} {B : List Addr}, ROf T F H fs gs B →
    ∃ B', ROf T F H (putN f o fs) (L2.putF (T.fN f) u gs) B' ∧ ∀ a, B'.count a ≤ B.count a + C.count a
  | [], _, _, r => by
    obtain ⟨e, eA⟩ := r
    subst e eA
    exact ⟨C, ⟨u, [], C, [], hf, rfl, by simp, ro, rfl, rfl⟩, fun a => by omega⟩
  | (k, x) :: xs, _, _, r => by
    obtain ⟨v, s, A1, A2, hk, e, eA, r1, r2⟩ := r
    subst e eA
    by_cases c : k = f
    · subst c
      refine ⟨C ++ A2, ?_, fun a => by rw [List.count_append, List.count_append]; omega⟩
      have e1 : putN k o ((k, x) :: xs) = (k, o) :: xs := by simp [putN]
      have e2 : L2.putF (T.fN k) u ((T.fN k, v) :: s) = (T.fN k, u) :: s := by simp [L2.putF]
      rw [e1, e2]
      exact ⟨u, s, C, A2, hk, rfl, rfl, ro, r2⟩
    · obtain ⟨B', h, ct⟩ := ROf.put ok hf ro r2
      have c' : T.fN k ≠ T.fN f := fun q => c (ok _ _ hk hf q)
      refine ⟨A1 ++ B', ?_, fun a => by have := ct a; rw [List.count_append, List.count_append]; omega⟩
      have e1 : putN f o ((k, x) :: xs) = (k, x) :: putN f o xs := by simp [putN, c]
      have e2 : L2.putF (T.fN f) u ((T.fN k, v) :: s) = (T.fN k, v) :: L2.putF (T.fN f) u s := by simp [L2.putF, c']
      rw [e1, e2]
      exact ⟨v, _, A1, B', hk, rfl, rfl, r1, h⟩
theorem ROf.len {F H : Hp} : ∀ {xs : List (Nat × O)} {vs : List (PySem.Str × V)} {A : List Addr}, ROf T F H xs vs A → xs.length = vs.length
  | [], _, _, h => by rw [h.1]; rfl
  | (_, x) :: xs, _, _, h => by
    obtain ⟨v, r, A1, A2, _, e, _, _, h2⟩ := h
    rw [e, List.length_cons, List.length_cons, ROf.len h2]
/-- the thing in the slot i, taken out with a new thing beside -/
theorem chg_at {P F H : Hp} {σ : Fr} {z : L2.St} {A C : List Addr} {i : Nat} {o : O} {l : Bool} (h : RSl T F H σ z A) (ow : Own P F H (C ++ A)) (e : σ[i]? = some (some (if l then .lent o else .own o))) :
    ∃ v Ai, z[i]? = some (some v) ∧ RO T F H o v Ai ∧ Own P F H (C ++ Ai) ∧ ∀ {H' : Hp} {o' : O} {A' : List Addr} {a : Addr}, a ∈ Ai → (∀ b q, b ≠ a → H b = some q → H' b = some q) → RO T F H' o' v A' → (∀ b, A'.count b ≤ C.count b + Ai.count b) → Rel T P F H' (σ.put i (some (if l then .lent o' else .own o'))) z := by
  obtain ⟨x, Ai, C0, ez, k, rs, pm⟩ := h.split e
  have ct : ∀ a, Ai.count a + C0.count a = A.count a := fun a => by have := pm.count_eq a; rwa [List.count_append] at this
  obtain ⟨v, ex, ro⟩ : ∃ v, x = some v ∧ RO T F H o v Ai := by cases l <;> exact k
  subst ex
  refine ⟨v, Ai, ez, ro, ow.le fun a => by have := ct a; rw [List.count_append, List.count_append]; omega, fun {H' o' A' a} ha hk ro' ct' => ?_⟩
  have oA : Own P F H Ai := ow.le fun a => by have := ct a; rw [List.count_append]; omega
  have sub : ∀ {K : Hp}, Same K H → K a = none → Same K H' := fun {K} s n b q e => hk b q (fun eb => by rw [eb, n] at e; cases e) (s b q e)
  have nC : a ∉ C0 := fun m => by
    have k1 := List.count_pos_iff.mpr ha
    have k2 := List.count_pos_iff.mpr m
    have k3 := ow.nd a
    have k4 := ct a
    rw [List.count_append] at k3
    omega
  have hi : i < σ.length := (List.getElem?_eq_some_iff.mp e).1
  have rs' : RSl T F H' (σ.set i none) z C0 := rs.mono (Same.refl _) fun b m q e => hk b q (fun eb => nC (by rw [← eb]; exact m)) e
  obtain ⟨A2, h2, pm2⟩ := RSl.join (s := some (if l then Sl.lent o' else .own o')) (x := some v) (Ai := A') (by cases l <;> exact ⟨v, rfl, ro'⟩) rs' (i := i) (by rw [List.getElem?_set_self hi])
  rw [List.set_set, set_same ez] at h2
  have o2 : Own P F H A2 := ow.le fun b => by
    have e1 := pm2.count_eq b
    have e2 := ct b
    have e3 := ct' b
    rw [List.count_append] at e1 ⊢
    omega
  exact Own.rel ⟨o2.nd, o2.nP, o2.nF, sub ow.pH (oA.nP a ha), sub ow.fH (oA.nF a ha), ow.pF⟩ h2
theorem chg_some {σ σ' : Fr} {a : Nat} {f : O → Option O} (h : chg σ a f = some σ') : ∃ (o : O) (l : Bool) (o' : O), σ[a]? = some (some (if l then .lent o else .own o)) ∧ f o = some o' ∧ σ' = σ.put a (some (if l then .lent o' else .own o')) := by
  unfold chg at h
  cases e : σ.get a with
  | none => rw [e] at h; cases h
  | some s =>
    rw [e] at h
    have e1 := Fr.get_some e
    cases s with
    | own o =>
      obtain ⟨o', e2, e3⟩ := Option.map_eq_some_iff.mp (show (f o).map (fun o => σ.put a (some (.own o))) = some σ' from h)
      exact ⟨o, false, o', e1, e2, e3.symm⟩
    | lent o =>
      obtain ⟨o', e2, e3⟩ := Option.map_eq_some_iff.mp (show (f o).map (fun o => σ.put a (some (.lent o))) = some σ' from h)
      exact ⟨o, true, o', e1, e2, e3.symm⟩
theorem nmem_l {P F H : Hp} {C Ai : List Addr} {a : Addr} (ow : Own P F H (C ++ Ai)) (h : a ∈ Ai) : a ∉ C := fun m => by
  have k1 := List.count_pos_iff.mpr h
  have k2 := List.count_pos_iff.mpr m
  have k3 := ow.nd a
  rw [List.count_append] at k3
  omega
/-! ### o[i] = v, o.append(v), o.f = v -/
theorem list_write {P F H : Hp} {σ σ' : Fr} {z : L2.St} {A C : List Addr} {i : Nat} {f : O → Option O} {onew : O} {u : V} (h : RSl T F H σ z A) (ro : RO T F H onew u C) (ow : Own P F H (C ++ A)) (e : chg σ i f = some σ')
    {g : List V → List V} (hf : ∀ o o', f o = some o' → ∃ os os', o = .lst os ∧ o' = .lst os' ∧ ∀ us B, ROs T F H os us B → ∃ B', ROs T F H os' (g us) B' ∧ ∀ a, B'.count a ≤ B.count a + C.count a) :
    ∃ p us os, z[i]? = some (some (.ref p)) ∧ H p = some (.lst us) ∧ f (.lst os) ≠ none ∧ os.length = us.length ∧ Rel T P F (upd H p (.lst (g us))) σ' z := by
  obtain ⟨o, l, o', e1, e2, e3⟩ := chg_some e
  subst e3
  obtain ⟨os, os', eo, eo', hw⟩ := hf o o' e2
  subst eo eo'
  obtain ⟨v, Ai, ez, rv, oA, fin⟩ := chg_at h ow e1
  obtain ⟨p, us, B, ev, eB, ep, rs⟩ := rv
  subst ev eB
  obtain ⟨B', rs', ct⟩ := hw us B rs
  have pC : p ∉ C := nmem_l oA List.mem_cons_self
  have pB : p ∉ B := fun m => by
    have k1 := oA.nd p
    have k2 := List.count_pos_iff.mpr m
    rw [List.count_append, List.count_cons_self] at k1
    omega
  have pB' : p ∉ B' := fun m => by
    have k1 := ct p
    have k2 := List.count_pos_iff.mpr m
    have k3 : B.count p = 0 := List.count_eq_zero.mpr pB
    have k4 : C.count p = 0 := List.count_eq_zero.mpr pC
    omega
  refine ⟨p, us, os, ez, ep, by rw [e2]; simp, rs.len, fin (a := p) (A' := p :: B') List.mem_cons_self (fun b q hb e => by rw [upd_ne hb]; exact e) ⟨p, _, B', rfl, rfl, upd_same, ROs.mono (Same.refl _) (fun a m q e => by rw [upd_ne (fun k => pB' (by rw [← k]; exact m))]; exact e) rs'⟩ fun b => ?_⟩
  have := ct b
  rw [List.count_cons, List.count_cons]
  omega
theorem RelV.parts {P F H : Hp} {σ : Fr} {z : L2.St} {v : Val} {u : V} {o : O} (h : RelV T P F H σ z v u) (e : Tf.asO v = some o) : ∃ A C, RSl T F H σ z A ∧ RO T F H o u C ∧ Own P F H (C ++ A) := by
  cases v with
  | d x =>
    cases (Option.some.inj (show some (O.d x) = some o from e))
    obtain ⟨⟨A, k⟩, r⟩ := h
    exact ⟨A, [], k.s, ⟨rfl, r⟩, k.own⟩
  | o o' =>
    cases (Option.some.inj (show some o' = some o from e))
    obtain ⟨A, B, k⟩ := h
    exact ⟨A, B, k.s, k.o, nd_count.mp k.nd, k.nP, k.nF, k.pH, k.fH, k.pF⟩
  | b i o => cases e
theorem ss_app {i : Nat} {x : PySem.Str} {e : Expr} {ee : E} {p1 p2 pos pos' : Pos} (h : SE T RX W G cl X e ee) (hN : X.N[i]? = some x) (hv : Vis X.env.scope x) (hd : (x == ("__debug__" : PySem.Str)) = false) (hcd : (x == ("__classdict__" : PySem.Str)) = false) (hst : isStar e = false) (hline : (p2.endLine == pos.line) = true) :
    SS T RX W lm z0 G cl w X (.Expr (.Call (.Attribute (.Name x p1) "append" p2) [e] [] pos) pos') (.bw i .append (.cons false ee .nil)) := by
  have hpv : PA X [e] (RV T RX W (evs G cl (.cons false ee .nil))) := pv_cons h pv_nil hst
  have hfew : ((backTo pos (starEach [e] X.env)).all (fun x => !x.1) && (backToKw pos (keywordEach [] X.env)).all (fun x => x.1.isSome) && decide ([e].length + ([] : List Keyword).length + (if ([] : List Keyword).isEmpty then 0 else 1) < 30)) = true := by
    rw [all_star (es := [e]) (by simp [hst])]
    rfl
  refine impS (ps_expr (pe_bm PySem.F.plainAttrs_list PySem.F.slot_list_append PySem.F.type_list_append mt_append (pe_var hN hv hd hcd) hpv rfl hfew hline (star_of hst) rfl) rfl) fun D z H ⟨P, F, σ, rel, kp, q⟩ => ?_
  have q : PostS T RX W lm z0 P F D (match lentAt σ i with
    | some (.lst _, _) => (evs G cl (.cons false ee .nil) σ).st fun vs σ => optS (chg σ i fun z => bwO .append z vs) .next
    | _ => .bad) := q
  have main : ∀ (os : List O) (l : Bool), lentAt σ i = some (.lst os, l) → PostS T RX W lm z0 P F D ((evs G cl (.cons false ee .nil) σ).st fun vs σ => optS (chg σ i fun z => bwO .append z vs) .next) → tDrop (tBM X.K "list" rAppend (tVar i) (RV T RX W (evs G cl (.cons false ee .nil)))) D z H := fun os l el q => by
    obtain ⟨v, Ai, ez, ro, oA, _⟩ := lend_at rel (lentAt_some el)
    obtain ⟨p, us, B, ev, eB, ep, _⟩ := ro
    subst ev
    refine ⟨.ref p, ez, .inl ⟨rfl, us, .of ep⟩, RV.mono (RV.st rel kp q) fun ws H1 ⟨F1, σ1, os1, s, evr, q1⟩ => ?_⟩
    obtain ⟨σ', e', q2⟩ := PostS.optS q1
    clear q1
    obtain ⟨A, C, h1, h2, ow⟩ := evr
    -- one item
    have h1os : ∃ o, os1 = [o] := by
      obtain ⟨o0, l0, o0', _, hb, _⟩ := chg_some e'
      cases o0 with
      | lst xs => cases os1 with
        | nil => cases hb
        | cons a r => cases r with
          | nil => exact ⟨a, rfl⟩
          | cons _ _ => cases hb
      | _ => cases hb
    obtain ⟨o, rfl⟩ := h1os
    obtain ⟨u, r, C1, C2, ew, eC, r1, r2⟩ := h2
    subst ew eC
    obtain ⟨er, eC2⟩ := r2
    subst er eC2
    rw [List.append_nil] at ow
    obtain ⟨p', us', os', ez', ep', hne, hlen, fin⟩ := list_write (g := fun us => us ++ [u]) h1 r1 ow e' (fun o0 o' ef => by
      cases o0 with
      | lst xs =>
        obtain ⟨_, e3⟩ := ite_some (show (if xs.length < lineN then some (O.lst (xs ++ [o])) else none) = some o' from ef)
        exact ⟨xs, xs ++ [o], rfl, e3.symm, fun us B rs => ⟨B ++ C1, ROs.app r1 rs, fun a => by rw [List.count_append]; omega⟩⟩
      | _ => cases ef)
    rw [ez] at ez'
    injection ez' with ez'
    injection ez' with ez'
    injection ez' with ez'
    subst ez'
    refine ⟨p, us', u, rfl, rfl, ep', ?_, q2 F1 _ z (Same.refl _) fin kp⟩
    have : os'.length < lineN := by
      by_cases c : os'.length < lineN
      · exact c
      · exact absurd (show bwO .append (.lst os') [o] = none from if_neg c) hne
    rw [← hlen]
    exact this
  cases el : lentAt σ i with
  | none => rw [el] at q; exact q.elim
  | some ol =>
    obtain ⟨o, l⟩ := ol
    cases o with
    | lst os => rw [el] at q; exact main os l el q
    | _ => rw [el] at q; exact q.elim
theorem ss_sfld {i f : Nat} {x y : PySem.Str} {e : Expr} {ee : E} {p1 p2 pos : Pos} (ok : TbOk X.K T) (hf : f < T.nf) (hy : T.fN f = y) (h : SE T RX W G cl X e ee) (hN : X.N[i]? = some x) (hv : Vis X.env.scope x) (hd : (x == ("__debug__" : PySem.Str)) = false) (hcd : (x == ("__classdict__" : PySem.Str)) = false)
    (hs : swapsWith e (some (.Attribute (.Name x p1) y p2)) pos.line X.env = pure false) : SS T RX W lm z0 G cl w X (.Assign [.Attribute (.Name x p1) y p2] e pos) (.sfld i f ee) :=
  impS (ps_fld (pe_var hN hv hd hcd) h.v hs) fun D z H ⟨P, F, σ, rel, kp, q⟩ => by
    refine R.mono (R.st rel kp q) fun u H1 ⟨F1, σ1, v, s, rv, q1⟩ => ?_
    obtain ⟨σ', e', q1⟩ := PostS.optS q1
    obtain ⟨o, eo, e'⟩ := Option.bind_eq_some_iff.mp e'
    obtain ⟨A, C, h1, ro, ow⟩ := rv.parts eo
    obtain ⟨o0, l, o1, e1, e2, e3⟩ := chg_some e'
    subst e3
    cases o0 with
    | ins c fs =>
      obtain ⟨hz, e2⟩ := ite_some (show (if fs.length < 1000 then some (O.ins c (putN f o fs)) else none) = some o1 from e2)
      subst e2
      obtain ⟨v0, Ai, ez, rv0, oA, fin⟩ := chg_at h1 ow e1
      obtain ⟨a, dx, gs, B, hc, ev, eB, ea, rf⟩ := rv0
      subst ev eB
      obtain ⟨B', rf', ct⟩ := ROf.put ok.inj hf ro rf
      have aC : a ∉ C := nmem_l oA List.mem_cons_self
      have aB : a ∉ B := fun m => by
        have k1 := oA.nd a
        have k2 := List.count_pos_iff.mpr m
        rw [List.count_append, List.count_cons_self] at k1
        omega
      have aB' : a ∉ B' := fun m => by
        have k1 := ct a
        have k2 := List.count_pos_iff.mpr m
        have k3 : B.count a = 0 := List.count_eq_zero.mpr aB
        have k4 : C.count a = 0 := List.count_eq_zero.mpr aC
        omega
      have hlen : fs.length = gs.length := rf.len
      refine ⟨.ref a, ez, a, _, dx, gs, rfl, ea, ok.cls c hc, hy ▸ ok.noat c f hc hf, by omega, ?_⟩
      rw [← hy]
      refine q1 F1 _ z (Same.refl _) (fin (a := a) (A' := a :: B') List.mem_cons_self (fun b q hb e => by rw [upd_ne hb]; exact e) ⟨a, dx, _, B', hc, rfl, rfl, upd_same, ROf.mono (Same.refl _) (fun b m q e => by rw [upd_ne (fun k => aB' (by rw [← k]; exact m))]; exact e) rf'⟩ fun b => ?_) kp
      have := ct b
      rw [List.count_cons, List.count_cons]
      omega
    | _ => cases e2
theorem R.stL {m : Fr → Res Val} {f : Val → Fr → RS} {z : L2.St} {H : Hp} {D : Ends} {P P' F : Hp} {σ : Fr} (rel : Rel T P' F H σ z) (kp : Keep lm z0 z) (h : PostS T RX W lm z0 P F D ((m σ).st f)) (hx : ∀ F2 H2 σ2, Same F F2 → Rel T P' F2 H2 σ2 z → Rel T P F2 H2 σ2 z) :
    R T RX W m z H fun u H1 => ∃ F1 σ1 v, Same F F1 ∧ RelV T P' F1 H1 σ1 z v u ∧ PostS T RX W lm z0 P F1 D (f v σ1) := by
  refine ⟨P', F, σ, rel, ?_⟩
  revert h
  generalize m σ = r
  intro h
  cases r with
  | ok v σ1 => exact fun F1 H1 u s k => ⟨F1, σ1, v, s, k, PostS.later s h⟩
  | exc x σ1 => exact fun F1 H1 c d s k rx => h F1 H1 z c d s (hx F1 H1 σ1 s k) kp rx
  | bad => exact h
/-- o[i] = v, o a name -/
theorem ss_sidx {i : Nat} {x : PySem.Str} {e ix : Expr} {ee ei : E} {p1 p2 pos : Pos} (h : SE T RX W G cl X e ee) (hix : SE T RX W G cl X ix ei) (hN : X.N[i]? = some x) (hv : Vis X.env.scope x) (hd : (x == ("__debug__" : PySem.Str)) = false) (hcd : (x == ("__classdict__" : PySem.Str)) = false)
    (hs : swapsWithSole [.Subscript (.Name x p1) ix p2] e pos.line X.env = pure false) (hw : swappedStores [.Subscript (.Name x p1) ix p2] e X.env = pure none)
    (ha : ∀ v, assign (.Subscript (.Name x p1) ix p2) X.env v = (do
      let ov ← holding [v] (eval (.Name x p1) X.env)
      let iv ← holding [v, ov] (eval ix X.env)
      standAt p2
      holding [v, ov, iv] (setItem ov iv v)
      release [v, ov, iv] [])) : SS T RX W lm z0 G cl w X (.Assign [.Subscript (.Name x p1) ix p2] e pos) (.sidx i ei ee) :=
  impS (ps_asg h.v (pg_sub (pe_var hN hv hd hcd) hix.v set_list ha) hs hw rfl) fun D z H ⟨P, F, σ, rel, kp, q⟩ => by
    refine R.mono (R.st rel kp q) fun u H1 ⟨F1, σ1, v, s, rv, q1⟩ => ?_
    obtain ⟨o, eo, q2⟩ := PostS.optS q1
    clear q1
    obtain ⟨ol, el, q2⟩ := PostS.optS q2
    obtain ⟨B, ro, oB, rel1⟩ := rv.asO eo
    obtain ⟨v0, Ai, ez, _⟩ := lend_at rv.rel (lentAt_some el)
    refine ⟨v0, ez, R.mono (R.stL rel1 kp q2 fun F2 H2 σ2 s r => r.weak oB.nP) fun k H2 ⟨F2, σ2, kv, s2, rkv, q3⟩ => ?_⟩
    obtain ⟨σ', e', q4⟩ := PostS.optS q3
    clear q3
    obtain ⟨kd, ek, e'⟩ := Option.bind_eq_some_iff.mp e'
    obtain ⟨F3, s3, ⟨A2, k2⟩, rd⟩ := rkv.toD ek
    obtain ⟨at_, o3⟩ := kept_of oB ro.there k2.own
    have ro2 : RO T F3 H2 o u B := RO.mono (s2.trans s3) at_ ro
    obtain ⟨o0, l0, o0', _, hb, _⟩ := chg_some e'
    cases kd with
    | int j =>
      cases o0 with
      | lst xs0 =>
        obtain ⟨jj, _, _⟩ := Option.map_eq_some_iff.mp (show (place xs0.length j).map (fun j => O.lst (xs0.set j o)) = some o0' from hb)
        have n0 : xs0.length = xs0.length := rfl
        obtain ⟨p, us, os, ez', ep, hne, hlen, fin⟩ := list_write (g := fun us => match place us.length j with
          | some j => us.set j u
          | none => us) k2.s ro2 o3 e' (fun o1 o' ef => by
          cases o1 with
          | lst xs =>
            obtain ⟨jj, ej, e3⟩ := Option.map_eq_some_iff.mp (show (place xs.length j).map (fun j => O.lst (xs.set j o)) = some o' from ef)
            refine ⟨xs, _, rfl, e3.symm, fun us B0 rs => ?_⟩
            rw [← rs.len, ej]
            exact ROs.set ro2 rs
          | _ => cases ef)
        rw [ez] at ez'
        injection ez' with ez'
        injection ez' with ez'
        subst ez'
        obtain ⟨jj, ej⟩ : ∃ jj, place us.length j = some jj := by
          cases q : place os.length j with
          | none => exact absurd (show setO (.lst os) (.int j) o = none from by show (place os.length j).map _ = none; rw [q]; rfl) hne
          | some jj => exact ⟨jj, by rw [← hlen]; exact q⟩
        rw [ej] at fin
        exact ⟨p, us, j, jj, rfl, rd, ep, place_ix ej, q4 F3 _ z s3 fin kp⟩
      | _ => cases hb
    | _ => cases o0 <;> cases hb
end
end Tf
end
section
set_option Elab.async false
set_option linter.all false
set_option maxRecDepth 100000
/-! Soundness, part 12: a def keeps its promise. -/
namespace Tf
open PySem PySem.Spec PyProof.Rows L2
/-- the places of what is lent -/
def lendIx (ms : List Mode) : List Nat := (List.range ms.length).filter fun i => decide (ms[i]? = some Mode.lend)
theorem mem_lendIx {ms : List Mode} {i : Nat} (h : ms[i]? = some Mode.lend) : i ∈ lendIx ms := by
  have h1 := (List.getElem?_eq_some_iff.mp h).1
  have h2 := (List.getElem?_eq_some_iff.mp h).2
  simp [lendIx, h1, h2]
section
variable {T : Tb} {RX : XR} {G : Prog}
theorem lents_ok {F H : Hp} : ∀ {ms : List Mode} {ss : List Sl} {σ : Fr} {z : L2.St} {vs : List V} {ls : List O} {A : List Addr}, RSl T F H σ z A → lentsOf σ ms = some ls → modesOk ss ms = true → ss.length = vs.length → (∀ i : Nat, ms[i]? = some Mode.lend → z[i]? = (vs.map some)[i]?) →
    ∃ B, ROs T F H ls (lentV ss vs) B ∧ ∀ a, B.count a ≤ A.count a
  | [], [], σ, z, vs, ls, A, _, e, _, _, _ => by
    have e' : [] = ls := by simpa [lentsOf] using e
    subst e'
    exact ⟨[], ⟨by cases vs <;> rfl, rfl⟩, fun a => by simp⟩
  | .lend :: ms, .lent o0 :: ss, σ, z, vs, ls, A, h, e, hm, hl, hz => by
    cases vs with
    | nil => cases hl
    | cons v vs =>
      cases σ with
      | nil => cases e
      | cons s σ =>
        obtain ⟨x, r, A1, A2, ez, eA, h1, h2⟩ := RSl.cons_iff.mp h
        subst ez eA
        cases s with
        | none => cases e
        | some sl => cases sl with
          | own o => cases e
          | lent o =>
            obtain ⟨ls', el, e⟩ := Option.map_eq_some_iff.mp (show (lentsOf σ ms).map (o :: ·) = some ls from e)
            subst e
            obtain ⟨B, rs, ct⟩ := lents_ok (ss := ss) (vs := vs) h2 el hm (by simpa using hl) fun i hi => by
              have := hz (i + 1) (by simpa using hi)
              simpa using this
            obtain ⟨v', ex, ro⟩ := h1
            subst ex
            have := hz 0 rfl
            have ev : v' = v := by simpa using this
            subst ev
            exact ⟨A1 ++ B, ⟨v', _, A1, B, rfl, rfl, ro, rs⟩, fun a => by have := ct a; rw [List.count_append, List.count_append]; omega⟩
  | .val :: ms, .own o0 :: ss, σ, z, vs, ls, A, h, e, hm, hl, hz => by
    cases vs with
    | nil => cases hl
    | cons v vs =>
      cases σ with
      | nil => cases e
      | cons s σ =>
        obtain ⟨x, r, A1, A2, ez, eA, h1, h2⟩ := RSl.cons_iff.mp h
        subst ez eA
        have e : lentsOf σ ms = some ls := by
          cases s with
          | none => exact e
          | some sl => cases sl <;> exact e
        obtain ⟨B, rs, ct⟩ := lents_ok (ss := ss) (vs := vs) h2 e hm (by simpa using hl) fun i hi => by
          have := hz (i + 1) (by simpa using hi)
          simpa using this
        exact ⟨B, rs, fun a => by have := ct a; rw [List.count_append]; omega⟩
  | [], s :: _, _, _, _, _, _, _, _, hm, _, _ => by cases s <;> simp [modesOk] at hm
  | .lend :: _, [], _, _, _, _, _, _, _, hm, _, _ => by simp [modesOk] at hm
  | .val :: _, [], _, _, _, _, _, _, _, hm, _, _ => by simp [modesOk] at hm
  | .lend :: _, .own _ :: _, _, _, _, _, _, _, _, hm, _, _ => by simp [modesOk] at hm
  | .val :: _, .lent _ :: _, _, _, _, _, _, _, _, hm, _, _ => by simp [modesOk] at hm
theorem RSl.pad {F H : Hp} : ∀ {ss : List Sl} {vs : List V} {A : List Addr} (n : Nat), RSl T F H (ss.map some) (vs.map some) A → RSl T F H (ss.map some ++ List.replicate n none) (vs.map some ++ List.replicate n none) A
  | [], vs, A, n, h => by
    obtain ⟨e, eA⟩ := h
    subst eA
    rw [e]
    show RSl T F H (List.replicate n none) (List.replicate n none) []
    induction n with
    | zero => exact ⟨rfl, rfl⟩
    | succ n ih => exact ⟨none, _, rfl, ih⟩
  | s :: ss, vs, A, n, h => by
    obtain ⟨x, r, A1, A2, ez, eA, h1, h2⟩ := RSl.cons_iff.mp (show RSl T F H (some s :: ss.map some) (vs.map some) A from h)
    cases vs with
    | nil => cases ez
    | cons v vs =>
      rw [List.map_cons] at ez
      injection ez with e1 e2
      subst e1 e2 eA
      exact RSl.cons_iff.mpr ⟨_, _, A1, A2, rfl, rfl, h1, RSl.pad n h2⟩
/-- what the def's end says meets the promise -/
theorem end_ok {P F : Hp} {D : DefI} {ss : List Sl} {vs : List V} {z0 : L2.St} {Q : VK} {E : XK} {r : RS} (hm : modesOk ss D.modes = true) (hl : ss.length = vs.length) (hz0 : ∀ i : Nat, D.modes[i]? = some Mode.lend → z0[i]? = (vs.map some)[i]?) (h : PostC T RX P F (lentV ss vs) Q E (finish D r)) :
    PostS T RX (fun c d _ H => E c d H) (lendIx D.modes) z0 P F { nx := fun _ H' => Q .non H', rt := Q } r := by
  have lents : ∀ {F1 H1 : Hp} {σ : Fr} {z : L2.St} {A : List Addr} {ls : List O}, RSl T F1 H1 σ z A → lentsOf σ D.modes = some ls → Keep (lendIx D.modes) z0 z → ∃ B, ROs T F1 H1 ls (lentV ss vs) B ∧ ∀ a, B.count a ≤ A.count a :=
    fun {F1 H1 σ z A ls} h1 e kp => lents_ok h1 e hm hl fun i hi => by rw [kp i (mem_lendIx hi)]; exact hz0 i hi
  cases r with
  | bad => exact h
  | brk σ => exact h.elim
  | cont σ => exact h.elim
  | next σ =>
    intro F1 H1 z s ⟨A, k⟩ kp
    have h : PostC T RX P F (lentV ss vs) Q E (match lentsOf σ D.modes with
      | some ls => .ret (.d .non) ls
      | none => .bad) := h
    cases el : lentsOf σ D.modes with
    | none => rw [el] at h; exact h.elim
    | some ls =>
      rw [el] at h
      obtain ⟨B, rs, ct⟩ := lents k.s el kp
      exact h F1 H1 .non s ⟨.d .non, B, [], rfl, ⟨rfl, rfl⟩, rs, k.own.le fun a => by simpa using ct a⟩
  | exc x σ =>
    intro F1 H1 z c d s ⟨A, k⟩ kp rx
    have h : PostC T RX P F (lentV ss vs) Q E (match lentsOf σ D.modes with
      | some ls => .exc x ls
      | none => .bad) := h
    cases el : lentsOf σ D.modes with
    | none => rw [el] at h; exact h.elim
    | some ls =>
      rw [el] at h
      obtain ⟨B, rs, ct⟩ := lents k.s el kp
      exact h F1 H1 c d s ⟨B, rs, k.own.le ct⟩ rx
  | ret v σ =>
    intro F1 H1 z u s rv kp
    have hq : PostC T RX P F (lentV ss vs) Q E (match retV D.own v, lentsOf σ D.modes with
      | some v, some ls => .ret v ls
      | _, _ => .bad) := h
    clear h
    cases el : lentsOf σ D.modes with
    | none =>
      rw [el] at hq
      cases er : retV D.own v with
      | none => rw [er] at hq; exact hq.elim
      | some v' => rw [er] at hq; exact hq.elim
    | some ls =>
      cases er : retV D.own v with
      | none => rw [er] at hq; exact hq.elim
      | some v' =>
        rw [er, el] at hq
        have main : ∀ o, asO v = some o → (v' = v ∨ v' = .d o.frz) → Q u H1 := fun o eo hv => by
          obtain ⟨A, C, h1, ro, ow⟩ := rv.parts eo
          obtain ⟨B, rs, ct⟩ := lents h1 el kp
          rcases hv with hv | hv
          · subst hv
            exact hq F1 H1 u s ⟨o, B, C, eo, ro, rs, ow.le fun a => by have := ct a; rw [List.count_append, List.count_append]; omega⟩
          · subst hv
            obtain ⟨s2, rd, o2⟩ := frz_c ro ow
            refine hq (plus F1 H1 C) H1 u (s.trans s2) ⟨.d o.frz, B, [], rfl, ⟨rfl, rd⟩, ROs.mono s2 (fun _ _ _ q => q) rs, o2.le fun a => by simpa using ct a⟩
        cases v with
        | d x =>
          refine main (.d x) rfl (.inl ?_)
          cases ho : D.own with
          | true => rw [ho] at er; exact (Option.some.inj er).symm
          | false => rw [ho] at er; exact (Option.some.inj er).symm
        | o o =>
          cases ho : D.own with
          | true => rw [ho] at er; exact main o rfl (.inl (Option.some.inj er).symm)
          | false => rw [ho] at er; exact main o rfl (.inr (Option.some.inj er).symm)
        | b i o =>
          cases ho : D.own with
          | true => rw [ho] at er; cases er
          | false => rw [ho] at er; cases er
theorem finish_bad {D : DefI} {P F : Hp} {lv : List V} {Q : VK} {E : XK} (h : PostC T RX P F lv Q E .bad) : False := h
theorem RSl.len2 {F H : Hp} {ss : List Sl} {vs : List V} {A : List Addr} (h : RSl T F H (ss.map some) (vs.map some) A) : ss.length = vs.length := by
  have := h.len
  simpa using this
/-- a call of the def f, from its promise -/
theorem callD_of {P F : Hp} {wt n f : Nat} {D : DefI} {ss : List Sl} {lv : List V} {Q : VK} {E : XK} (hD : G.defs[f]? = some D) (hst : D.star = false) (h : PostC T RX P F lv Q E (callD G wt (n + 1) f ss)) :
    ss.length = D.np ∧ modesOk ss D.modes = true ∧ PostC T RX P F lv Q E (finish D (exSs G (callD G wt n) wt D.body (ss.map some ++ List.replicate (D.ns - D.np) none))) := by
  have h : PostC T RX P F lv Q E (match G.defs[f]? with
    | none => .bad
    | some D => (match packed D ss with
      | none => .bad
      | some ss => if ss.length = D.np ∧ modesOk ss D.modes = true then finish D (exSs G (callD G wt n) wt D.body (ss.map some ++ List.replicate (D.ns - D.np) none)) else .bad)) := h
  rw [hD] at h
  have hp : packed D ss = some ss := by unfold packed; rw [hst]
  dsimp only at h
  rw [hp] at h
  dsimp only at h
  by_cases c : ss.length = D.np ∧ modesOk ss D.modes = true
  · rw [if_pos c] at h
    exact ⟨c.1, c.2, h⟩
  · rw [if_neg c] at h
    exact h.elim
/-- THE STEP: a def without a star keeps its promise, one call deeper than what it calls -/
theorem fn_stepO {prog : Program} {w : World} {K : PySem.W.Frag} {mg : PySem.Str → Option Value} {base : Heap} {k : Nat} {fa : Addr} {name qual : PySem.Str} {params : Arguments} {body : List Stmt} {scope : Scope} {dV kV doc pm cdv ct oc : Value} {an od : Option Addr} {osl : Array (Option Value)} {N ps : List PySem.Str} {wt n f : Nat} {D : DefI}
    (lk : K.lookup fa = some ⟨oc, od, .func (PySem.W.fnOf name qual params body scope dV kV doc pm an cdv ct), osl⟩) (hcd : PySem.W.codeIn K cdv qual = true) (S : FnScope N ps scope) (hD : G.defs[f]? = some D) (hst : D.star = false) (hnp : D.np = ps.length) (hns : D.ns = N.length)
    (hbody : ∀ (A : Around) (outer : List Env) (s : Shared) (H : Hp) (E : XK) (z0 : L2.St), Room k (A.deeper (envOfC qual scope s.heap.objs.size fa cdv)) →
      SSs T RX (fun c d _ H => E c d H) (lendIx D.modes) z0 G (callD G wt n) wt (cxOf (L2.CX prog w) prog w K mg base N qual scope fa cdv A outer s H E) body D.body) :
    FnOk prog w K mg base (L2.CX prog w) (k + 1) fa (PySem.W.fnOf name qual params body scope dV kV doc pm an cdv ct) ps (spD T RX (callD G wt (n + 1)) f) := by
  have len : ∀ vs H Q E, spD T RX (callD G wt (n + 1)) f vs H Q E → vs.length = ps.length := fun vs H Q E ⟨P, F, ss, B, hs, _, hp⟩ => by
    obtain ⟨h1, _, _⟩ := callD_of hD hst hp
    rw [← hs.len2, h1, hnp]
  exact fn_of (CX := L2.CX prog w) (w := w) (mg := mg) (base := base) (P := prog) (N := N) (sp := spD T RX (callD G wt (n + 1)) f) lk hcd S len (k := k) fun A outer s H vs Q E hr ⟨P, F, ss, B, hs, ow, hp⟩ => by
    obtain ⟨h1, h2, h3⟩ := callD_of hD hst hp
    have hvl : vs.length = D.np := by rw [← hs.len2, h1]
    have e : L2.start N vs = vs.map some ++ List.replicate (D.ns - D.np) none := by
      show vs.map some ++ List.replicate (N.length - vs.length) none = _
      rw [hns, hvl]
    refine ⟨_, hbody A outer s H E (L2.start N vs) hr, P, F, ss.map some ++ List.replicate (D.ns - D.np) none, ?_, fun i hi => rfl, ?_⟩
    · rw [e]
      exact ow.rel (RSl.pad _ hs)
    · refine end_ok h2 hs.len2 (fun i hi => ?_) h3
      rw [e]
      have hlen : D.modes.length = ss.length := by
        clear hi h3 hp hs h1
        revert h2
        generalize D.modes = ms
        induction ss generalizing ms with
        | nil => intro h2; cases ms with
          | nil => rfl
          | cons m ms => cases m <;> simp [modesOk] at h2
        | cons x xs ih => intro h2; cases ms with
          | nil => cases x <;> simp [modesOk] at h2
          | cons m ms =>
            have : modesOk xs ms = true := by cases x <;> cases m <;> first | exact h2 | (simp [modesOk] at h2)
            rw [List.length_cons, List.length_cons, ih _ this]
      have hi' := (List.getElem?_eq_some_iff.mp hi).1
      rw [List.getElem?_append_left]
      rw [List.length_map, hvl, ← h1, ← hlen]
      exact hi'
theorem fn_step {prog : Program} {w : World} {K : PySem.W.Frag} {mg : PySem.Str → Option Value} {base : Heap} {k : Nat} {fa : Addr} {name qual : PySem.Str} {params : Arguments} {body : List Stmt} {scope : Scope} {dV kV doc pm cdv ct oc : Value} {an od : Option Addr} {osl : Array (Option Value)} {N ps : List PySem.Str} {wt n f : Nat} {D : DefI}
    (lk : K.lookup fa = some ⟨oc, od, .func (PySem.W.fnOf name qual params body scope dV kV doc pm an cdv ct), osl⟩) (hcd : PySem.W.codeIn K cdv qual = true) (S : FnScope N ps scope) (hD : G.defs[f]? = some D) (hst : D.star = false) (hnp : D.np = ps.length) (hns : D.ns = N.length)
    (hb : ∀ us : List Value, us.length = ps.length → bindArgs (PySem.W.fnOf name qual params body scope dV kV doc pm an cdv ct) ⟨us, []⟩ = pure (ps.zip us))
    (hbody : ∀ (A : Around) (outer : List Env) (s : Shared) (H : Hp) (E : XK) (z0 : L2.St), Room k (A.deeper (envOfC qual scope s.heap.objs.size fa cdv)) →
      SSs T RX (fun c d _ H => E c d H) (lendIx D.modes) z0 G (callD G wt n) wt (cxOf (L2.CX prog w) prog w K mg base N qual scope fa cdv A outer s H E) body D.body) :
    FnR prog w K mg base (L2.CX prog w) (k + 1) fa (spD T RX (callD G wt (n + 1)) f) := by
  have F1 := (fn_stepO lk hcd S hD hst hnp hns hbody).raw (Binds.all hb) .nil
  exact F1.imp fun vs H Q E h => by rw [List.append_nil]; exact h
end
end Tf
end
section
set_option Elab.async false
set_option linter.all false
set_option maxRecDepth 100000
/-! Soundness, part 13: pairs stored at once; class methods; instances and classes that are called. -/
namespace Tf
open PySem PySem.Spec PyProof.Rows L2
section
variable {T : Tb} {RX : XR} {W : WX} {X : Cx} {G : Prog} {cl : Call} {md : Md} {lm : List Nat} {z0 : L2.St} {w : Nat}
theorem ss_par {i j : Nat} {x y : PySem.Str} {a b : Expr} {ea eb : E} {px py pt : Pos} {kt k2 pt2 pos} (hc : X.calm = true) (hN : X.N.Nodup) (hi : X.N[i]? = some x) (hj : X.N[j]? = some y) (hij : i ≠ j)
    (hx : X.env.scope.names.lookup x = some .local) (hy : X.env.scope.names.lookup y = some .local) (ha : PA X [a, b] (RV T RX W (evs G cl (.cons false ea (.cons false eb .nil)))))
    (hw : swappedStores [.Tuple [.Name x px, .Name y py] kt pt] (.Tuple [a, b] k2 pt2) X.env = pure (some [x, y]))
    (hs : swapsWithSole [.Tuple [.Name x px, .Name y py] kt pt] (.Tuple [a, b] k2 pt2) pos.line X.env = pure false) (hli : i ∉ lm) (hlj : j ∉ lm) :
    SS T RX W lm z0 G cl w X (.Assign [.Tuple [.Name x px, .Name y py] kt pt] (.Tuple [a, b] k2 pt2) pos) (.par i j ea eb) :=
  impS (ps_par hc hN hi hj hij hx hy ha hw hs) fun D z H ⟨P, F, σ, rel, kp, q⟩ => by
    refine RV.mono (RV.st rel kp q) fun us H1 ⟨F1, σ1, os, s, evr, q1⟩ => ?_
    cases os with
    | nil => exact (show False from q1).elim
    | cons o1 os => cases os with
      | nil => exact (show False from q1).elim
      | cons o2 os => cases os with
        | cons _ _ => exact (show False from q1).elim
        | nil =>
          obtain ⟨σ', e', q2⟩ := PostS.optS (show PostS T RX W lm z0 P F1 D (optS ((asgV i (.o o1) σ1).bind fun σ => asgV j (.o o2) σ) .next) from q1)
          clear q1
          obtain ⟨σ2, e1, e2⟩ := Option.bind_eq_some_iff.mp e'
          obtain ⟨o1', eo1, hi1, hs1⟩ := asgV_some e1
          obtain ⟨o2', eo2, hi2, hs2⟩ := asgV_some e2
          have eo1 : o1 = o1' := Option.some.inj eo1
          have eo2 : o2 = o2' := Option.some.inj eo2
          subst eo1 eo2 hs1 hs2
          obtain ⟨A, B, h1, ⟨u1, r1, B1, B2, eu, eB, ro1, u2, r2, B3, B4, eu2, eB2, ro2, er, eB4⟩, ow⟩ := evr
          subst eu eB eu2 eB2 er eB4
          refine ⟨u1, u2, rfl, ?_⟩
          obtain ⟨A', h2, ct⟩ := h1.put (s := some (.own o1)) (x := some u1) hi1 ⟨u1, rfl, ro1⟩
          obtain ⟨A'', h3, ct2⟩ := h2.put (i := j) (s := some (.own o2)) (x := some u2) hi2 ⟨u2, rfl, ro2⟩
          refine q2 F1 H1 _ (Same.refl _) ((ow.le fun a => ?_).rel h3) ((kp.set hli).set hlj)
          have := ct a
          have := ct2 a
          simp only [List.count_append, List.count_nil]
          omega
/-- e.m(..), e a class, m a classmethod of it -/
structure CmOk (X : Cx) (T : Tb) (RX : XR) (G : Prog) (cl : Call) (k : Nat) (fA : Nat → Addr) (m : Nat) (x : PySem.Str) : Prop where
  at_ : ∀ c f, c < T.nc → G.cmeth c m = some f → ∃ mc p, ClX.CRead X.K (T.cA c) mc ∧ ClX.CMet X.K (T.cA c) mc x p (fA f) ∧ FnD X T RX cl k (fA f) f
theorem run_cmz {k : Nat} {q g C : Addr} {sp : Sp} {pins : List (Addr × Obj)} {z : L2.St} {H : Hp} {s : Shared} {Q : VK} {us : List Value} {vs : List V} (F : FnR X.prog X.w X.K X.mg X.base (L2.CX X.prog X.w) k g sp) (hr : Room k X.A) (tk : Takes X W) (I : Inv X ((q, PySem.W.methodObj (.ref g) (.ref C)) :: pins) z H s)
    (r : Vals vs us) (h : sp (.ref C :: vs) H Q fun c d H' => W c d z H') : wpAny (model X.prog X.w) X.A (call (.ref q) us) (EP X pins z Q) X.xe s := by
  have zz : wpAny (model X.prog X.w) X.A (call (.ref q) us) (EP X ((q, PySem.W.methodObj (.ref g) (.ref C)) :: pins) z Q) X.xe s :=
    wpAny_call (PySem.W.method_call (ClX.pin_at I) (run_z (us := .ref C :: us) (vs := .ref C :: vs) F hr tk I (.cons rfl r) h))
  exact thn zz fun _ _ y => ClX.unpinE y
theorem se_cmeth {k m : Nat} {fA : Nat → Addr} {x : PySem.Str} {o e : Expr} {eo : E} {apos pos : Pos} {es : List Expr} {as : Es} (M : CmOk X T RX G cl k fA m x) (hr : Room k X.A) (tk : Takes X W) (ho : SE T RX W G cl X o eo)
    (ha : ∀ c f, G.cmeth c m = some f → PA X (e :: es) (RA T RX W (evAs G cl (modesOf G f).tail as)))
    (hb : attributeBase o x X.env (eval o X.env) = eval o X.env) (hs : (e :: es).all (fun e => !isStar e) = true) (hn : (e :: es).length < 30) (hl : (apos.endLine == pos.line) = true) :
    SE T RX W G cl X (.Call (.Attribute o x apos) (e :: es) [] pos) (.cmeth eo m as) :=
  SE.of (fun _ => rfl) (fun _ _ => rfl) ⟨fun pins s z H Q I ⟨P, F0, σ, rel, q⟩ => by
    refine PySem.W.methodCall_KW (thn (ho.v.run pins s z H _ I (R.bind rel q)) fun u s1 ⟨y, H1, I1, ry, F1, σ1, v, s, rv, q1⟩ => ?_) (mc_tree hb hs hn hl)
    cases v with
    | d x1 => cases x1 with
      | cls c =>
        obtain ⟨f, ef, q1⟩ := Post.opt (show Post T RX W P z F1 Q (opt (G.cmeth c m) fun f => (evAs G cl (modesOf G f).tail as σ1).bind fun p σ => after (cl f (owned (.cls c) :: p.1)) p.2 σ) from q1)
        obtain ⟨rel1, hc, ey⟩ := rv
        subst ey
        obtain rfl : u = Value.ref (T.cA c) := ry
        obtain ⟨mc, p, cr, cm, FD⟩ := M.at_ c f hc ef
        have h0 : isStar e = false := by
          rw [List.all_cons, Bool.and_eq_true] at hs
          cases k : isStar e with
          | false => rfl
          | true => rw [k] at hs; cases hs.1
        have h1 : es.all (fun e => !isStar e) = true := by rw [List.all_cons, Bool.and_eq_true] at hs; exact hs.2
        refine ClX.getmethcm_ok I1 cr cm fun s2 I2 => ?_
        refine ClX.callwith_cm I2 (ClX.base_none I1 (Nat.le_refl _)) cm.fi (thn ((ha c f ef).run pos _ s2 z H1 _ I2 (RA.bind rel1 q1)) fun us s3 ⟨vs, H2, I3, rvs, F2, σ2, p, sF, arg, q2⟩ => ⟨⟨ClX.pin_at I3, I3.kIn⟩, ?_⟩) (star_of h0) (any_star h1)
        exact run_cmz FD hr tk I3 rvs (call_ok (p := (owned (.cls c) :: p.1, p.2)) (arg.own (x := .cls c) ⟨hc, rfl⟩) q2)
      | _ => exact (show False from q1).elim
    | _ => exact (show False from q1).elim⟩
/-- classes that are made by their value -/
structure MkOk (X : Cx) (T : Tb) (RX : XR) (G : Prog) (cl : Call) (k : Nat) (fA : Nat → Addr) : Prop where
  at_ : ∀ (c : Nat) (C : ClsI), c < T.nc → G.clss[c]? = some C → Mk X.K (T.cA c) (fA C.init) ∧ FnD X T RX cl k (fA C.init) C.init
theorem se_callv {k : Nat} {fA : Nat → Addr} {x : PySem.Str} {p pos : Pos} {eo : E} {es : List Expr} {as : Es} (M : MkOk X T RX G cl k fA) (hr : Room (k + 1) X.A) (tk : Takes X W) (ho : SE T RX W G cl X (.Name x p) eo)
    (ha : ∀ (c : Nat) (C : ClsI), G.clss[c]? = some C → PArgs X es (RA T RX W (evAs G cl (modesOf G C.init).tail as))) : SE T RX W G cl X (.Call (.Name x p) es [] pos) (.callv eo as) :=
  SE.of (fun _ => rfl) (fun _ _ => rfl) ⟨fun pins s z H Q I ⟨P, F0, σ, rel, q⟩ => by
    refine wpAny_Call_Name_kw (thn (ho.v.run pins s z H _ I (R.bind rel q)) fun u s1 ⟨y, H1, I1, ry, F1, σ1, v, s, rv, q1⟩ => ?_)
    cases v with
    | d x1 => cases x1 with
      | cls c =>
        obtain ⟨C, eC, q1⟩ := Post.opt (show Post T RX W P z F1 Q (opt G.clss[c]? fun C => (evAs G cl (modesOf G C.init).tail as σ1).bind fun p σ => makeV G cl c p.1 p.2 σ) from q1)
        obtain ⟨rel1, hc, ey⟩ := rv
        subst ey
        obtain rfl : u = Value.ref (T.cA c) := ry
        obtain ⟨mk, FD⟩ := M.at_ c C hc eC
        refine (ha c C eC).run (.ref (T.cA c)) [] pos mk.kp pins s1 z H1 _ _ I1 (RA.bind rel1 q1) fun vs us s' H' I' r ⟨F2, σ2, p, s2, arg, q2⟩ => ?_
        exact run_mkz mk FD hr tk I' r (make_ok hc eC arg q2)
      | _ => exact (show False from q1).elim
    | _ => exact (show False from q1).elim⟩
end
end Tf
end
section
set_option Elab.async false
set_option linter.all false
set_option maxRecDepth 100000
/-! Soundness, part 14: a comprehension's own names. -/
namespace Tf
open PySem PySem.Spec PyProof.Rows L2
section
variable {T : Tb}
/-- the slots cut in two: those at p, put aside, and the others -/
theorem RSl.mix {F H : Hp} {p : Nat → Bool} : ∀ {σ : Fr} {z : L2.St} {A : List Addr} {i : Nat}, RSl T F H σ z A →
    ∃ S C, (∀ z', z'.length = z.length → (∀ j, p (i + j) = false → z'[j]? = z[j]?) → RSl T F H (mixL p i (List.replicate σ.length none) σ) z' C) ∧ (∀ a, S.count a + C.count a = A.count a) ∧ (∀ a ∈ S, ∃ q, H a = some q) ∧
      ∀ {F2 H2 : Hp} {σ2 : Fr} {z2 : L2.St} {C2 : List Addr}, Same F F2 → AtA H H2 S → RSl T F2 H2 σ2 z2 C2 → σ2.length = σ.length → (∀ j, p (i + j) = false → z2[j]? = z[j]?) → ∃ A2, RSl T F2 H2 (mixL p i σ σ2) z A2 ∧ ∀ a, A2.count a ≤ S.count a + C2.count a
  | [], _, _, i, h => by
    obtain ⟨e, eA⟩ := h
    subst e eA
    refine ⟨[], [], fun z' hl _ => ?_, fun a => by simp, fun a m => (by cases m), fun {F2 H2 σ2 z2 C2} s at_ h2 hl hz => ⟨[], ?_, fun a => by simp⟩⟩
    · have : z' = [] := List.length_eq_zero_iff.mp hl
      subst this
      exact ⟨rfl, rfl⟩
    · have : σ2 = [] := List.length_eq_zero_iff.mp hl
      subst this
      exact ⟨rfl, rfl⟩
  | s :: σ, _, _, i, h => by
    obtain ⟨x, r, A1, A2, ez, eA, h1, h2⟩ := RSl.cons_iff.mp h
    subst ez eA
    obtain ⟨S, C, k1, k2, k3, k4⟩ := RSl.mix (p := p) (i := i + 1) h2
    have sh : ∀ j, i + 1 + j = i + (j + 1) := fun j => by omega
    cases hp : p i with
    | true =>
      refine ⟨A1 ++ S, C, fun z' hl hz => ?_, fun a => by have := k2 a; rw [List.count_append, List.count_append]; omega, fun a m => (List.mem_append.mp m).elim (h1.there a) (k3 a), fun {F2 H2 σ2 z2 C2} sF at_ h3 hl hz => ?_⟩
      · cases z' with
        | nil => cases hl
        | cons y z' =>
          show RSl T F H ((if p i then none else s) :: mixL p (i + 1) (List.replicate σ.length none) σ) (y :: z') C
          rw [hp]
          exact RSl.cons_iff.mpr ⟨y, z', [], C, rfl, rfl, rfl, k1 z' (by simpa using hl) fun j hj => by have := hz (j + 1) (by rw [← sh]; exact hj); simpa using this⟩
      · cases σ2 with
        | nil => cases hl
        | cons s2 σ2 =>
          obtain ⟨x2, r2, B1, B2, ez2, eB, g1, g2⟩ := RSl.cons_iff.mp h3
          subst ez2 eB
          obtain ⟨A3, h4, ct⟩ := k4 sF at_.right g2 (by simpa using hl) fun j hj => by have := hz (j + 1) (by rw [← sh]; exact hj); simpa using this
          refine ⟨A1 ++ A3, ?_, fun a => by have := ct a; simp only [List.count_append]; omega⟩
          show RSl T F2 H2 ((if p i then s else s2) :: mixL p (i + 1) σ σ2) (x :: r) (A1 ++ A3)
          rw [hp]
          exact RSl.cons_iff.mpr ⟨x, r, A1, A3, rfl, rfl, h1.mono sF at_.left, h4⟩
    | false =>
      refine ⟨S, A1 ++ C, fun z' hl hz => ?_, fun a => by have := k2 a; rw [List.count_append, List.count_append]; omega, k3, fun {F2 H2 σ2 z2 C2} sF at_ h3 hl hz => ?_⟩
      · cases z' with
        | nil => cases hl
        | cons y z' =>
          have ey : y = x := by have := hz 0 hp; simpa using this
          subst ey
          show RSl T F H ((if p i then none else s) :: mixL p (i + 1) (List.replicate σ.length none) σ) (y :: z') (A1 ++ C)
          rw [hp]
          exact RSl.cons_iff.mpr ⟨y, z', A1, C, rfl, rfl, h1, k1 z' (by simpa using hl) fun j hj => by have := hz (j + 1) (by rw [← sh]; exact hj); simpa using this⟩
      · cases σ2 with
        | nil => cases hl
        | cons s2 σ2 =>
          obtain ⟨x2, r2, B1, B2, ez2, eB, g1, g2⟩ := RSl.cons_iff.mp h3
          subst ez2 eB
          have ex : x2 = x := by have := hz 0 hp; simpa using this
          subst ex
          obtain ⟨A3, h4, ct⟩ := k4 sF at_ g2 (by simpa using hl) fun j hj => by have := hz (j + 1) (by rw [← sh]; exact hj); simpa using this
          refine ⟨B1 ++ A3, ?_, fun a => by have := ct a; simp only [List.count_append]; omega⟩
          show RSl T F2 H2 ((if p i then s else s2) :: mixL p (i + 1) σ σ2) (x2 :: r) (B1 ++ A3)
          rw [hp]
          exact RSl.cons_iff.mpr ⟨x2, r, B1, A3, rfl, rfl, g1, h4⟩
end
end Tf
end
section
set_option Elab.async false
set_option linter.all false
set_option maxRecDepth 100000
/-! Soundness, part 15: code that is never run; a comprehension's tests. -/
namespace Tf
open PySem PySem.Spec PyProof.Rows L2
section
variable {T : Tb} {RX : XR} {W : WX} {X : Cx} {G : Prog} {cl : Call} {md : Md}
theorem se_never {e : Expr} : SE T RX W G cl X e .never :=
  ⟨⟨fun pins s z H Q I ⟨P, F, σ, rel, q⟩ => (show False from q).elim⟩, ⟨fun pins s z H Q I ⟨P, F, σ, rel, q⟩ => (show False from q).elim⟩, ⟨fun pins s z H Q I ⟨P, F, σ, rel, q⟩ => (show False from q).elim⟩⟩
/-- a clause's tests -/
def RTs (T : Tb) (RX : XR) (W : WX) (m : Fr → Res Bool) : TT := fun z H Q => ∃ P F σ, Rel T P F H σ z ∧ PostA T RX W P z F (fun F H σ (a b : Bool) => a = b ∧ Rel T P F H σ z) Q (m σ)
theorem impTs {es : List Expr} {t t' : TT} (h : PTs X es t) (k : ∀ z H Q, t' z H Q → t z H Q) : PTs X es t' := ⟨fun pins s σ H Q I q => h.run pins s σ H Q I (k σ H Q q)⟩
theorem pts_nilR : PTs X [] (RTs T RX W (evCs G cl .nil)) := impTs pts_nil fun z H Q ⟨P, F, σ, rel, q⟩ => q F H true (Same.refl _) ⟨rfl, rel⟩
theorem pts_oneR {c : Expr} {ec : E} {b : Bool} (h : SE T RX W G cl X c ec) : PTs X [c] (RTs T RX W (evCs G cl (.cons b ec .nil))) := impTs (pts_one h.t) fun z H Q ⟨P, F, σ, rel, q⟩ => by
  have q : PostA T RX W P z F (fun F H σ (a b : Bool) => a = b ∧ Rel T P F H σ z) Q ((ev G cl .tst ec σ).bind fun v σ => match v with
      | .d (.bl b) => Res.ok b σ
      | _ => Res.bad) := q
  refine ⟨P, F, σ, rel, ?_⟩
  revert q
  generalize hr : ev G cl .tst ec σ = r
  intro q
  cases r with
  | exc x σ1 => exact q
  | bad => exact q
  | ok v σ1 =>
    obtain ⟨b, rfl⟩ := ev_tst ec hr
    exact ⟨b, rfl, fun F1 H1 s r1 => q F1 H1 b s ⟨rfl, r1⟩⟩
end
end Tf
end
section
set_option Elab.async false
set_option linter.all false
set_option maxRecDepth 100000
/-! Soundness, part 16: list comprehensions. -/
namespace Tf
open PySem PySem.Spec PyProof.Rows L2
section
variable {T : Tb} {RX : XR} {W : WX} {X : Cx} {G : Prog} {cl : Call} {md : Md}
/-- no exception -/
def W0 : WX := fun _ _ _ _ => False
theorem takes0 (X : Cx) : Takes X W0 := fun u s' x => by
  obtain ⟨_, _, _, _, _, _, _, _, _, _, _, _, _, _, _, _, ff⟩ := x
  exact ff.elim
/-- one turn of the evaluator -/
def turnE (G : Prog) (cl : Call) (elt : E) (tg : Tg) (cs : Es) (vs : List Nat) : D → Fr → Res (Option O) := fun x σ' => opt (asg tg x (wiped vs σ')) fun σ' => (evCs G cl cs σ').bind fun ok σ' => match ok with
      | true => (ev G cl .val elt σ').bind fun v σ' => opt (asO v) fun o => .ok (some o) σ'
      | false => .ok none σ'
theorem mixL_len {α : Type} {p : Nat → Bool} : ∀ {as bs : List α} {i : Nat}, as.length = bs.length → (mixL p i as bs).length = bs.length
  | [], [], _, _ => rfl
  | a :: as, b :: bs, i, h => by
    show ((if p i then a else b) :: mixL p (i + 1) as bs).length = _
    rw [List.length_cons, List.length_cons, mixL_len (by simpa using h)]
  | [], _ :: _, _, h => by cases h
  | _ :: _, [], _, h => by cases h
theorem wipe_at {z : L2.St} {j : Nat} : ∀ {vs : List Nat}, vs.contains j = false → (wipe z vs)[j]? = z[j]? := fun {vs} h => wipe_out (by simpa using h)
/-- the whole of a loop whose end is asked for -/
theorem loop_ends {P F : Hp} {z : L2.St} {Q : VK} {r : Res (List O)} {os : List O} {f : List O → Fr → Val} {g : List O → Fr → Fr} (h : Post T RX W P z F Q (((r.map fun l => os ++ l).nox).bind fun r σ' => if r.length ≤ lineN then .ok (f r σ') (g r σ') else .bad)) :
    ∃ l σ', r = .ok l σ' ∧ (os ++ l).length ≤ lineN := by
  cases r with
  | exc x σ => exact (show False from h).elim
  | bad => exact (show False from h).elim
  | ok l σ' =>
    refine ⟨l, σ', rfl, ?_⟩
    have h : Post T RX W P z F Q (if (os ++ l).length ≤ lineN then .ok (f (os ++ l) σ') (g (os ++ l) σ') else .bad) := h
    by_cases c : (os ++ l).length ≤ lineN
    · exact c
    · rw [if_neg c] at h
      exact h.elim
/-- the walk of a comprehension: before turn i -/
def LcI (T : Tb) (RX : XR) (W : WX) (P F1 H1 : Hp) (z : L2.St) (Q : VK) (own : Bool) (vs : List Nat) (n : Nat) (S : List Addr) (Dn : Addr) (turn : D → Fr → Res (Option O)) (fin : Fr → Fr) (xs : List D) (i : Nat) (H : Hp) : Prop :=
  ∃ F2 σ2 z2 C2 os us B, Same F1 F2 ∧ AtA H1 H S ∧ RSl T F2 H σ2 z2 C2 ∧ σ2.length = n ∧ wipe z2 vs = wipe z vs ∧ H Dn = some (.lst us) ∧ ROs T F2 H os us B ∧ Own P F2 H (Dn :: (B ++ (S ++ C2))) ∧
    Post T RX W P z F2 Q ((((compLoop turn (xs.drop i) σ2).map fun l => os ++ l).nox).bind fun r σ' => if r.length ≤ lineN then .ok (lstV own r) (fin σ') else .bad)
theorem wipe_eq {z z2 : L2.St} {vs : List Nat} (h : wipe z2 vs = wipe z vs) : z2.length = z.length ∧ ∀ j, vs.contains j = false → z2[j]? = z[j]? := by
  refine ⟨by rw [← wipe_length z2 vs, h, wipe_length], fun j hj => ?_⟩
  rw [← wipe_at hj (z := z2), h, wipe_at hj]
theorem wipe_in {z : L2.St} {j : Nat} (hj : j < z.length) : ∀ {vs : List Nat}, vs.contains j = true → (wipe z vs)[j]? = some none
  | [], h => by cases h
  | v :: vs, h => by
    show ((wipe z vs).set v none)[j]? = _
    by_cases c : v = j
    · subst c
      rw [List.getElem?_set_self (by rw [wipe_length]; exact hj)]
    · rw [List.getElem?_set_ne c]
      have h' : vs.contains j = true := by
        rw [List.contains_cons, Bool.or_eq_true] at h
        rcases h with h | h
        · exact absurd (by simpa using h) (fun e : j = v => c e.symm)
        · exact h
      exact wipe_in hj h'
theorem wipe_twice {z : L2.St} {vs : List Nat} : wipe (wipe z vs) vs = wipe z vs := by
  apply List.ext_getElem?
  intro j
  cases h : vs.contains j with
  | false => rw [wipe_at h]
  | true =>
    by_cases hj : j < z.length
    · rw [wipe_in hj h, wipe_in (by rw [wipe_length]; exact hj) h]
    · rw [List.getElem?_eq_none (by rw [wipe_length, wipe_length]; omega), List.getElem?_eq_none (by rw [wipe_length]; omega)]
/-- one turn -/
theorem lc_turn {P F1 H1 : Hp} {z : L2.St} {Q : VK} {own : Bool} {vs : List Nat} {n : Nat} {S : List Addr} {Dn : Addr} {elt : E} {tg : Tg} {cs : Es} {fin : Fr → Fr} {xs : List D} {J : L2.It} {g : TG} {i : Nat} {H : Hp}
    (thS : ∀ a ∈ S, ∃ q, H1 a = some q) (iok : ItOk T F1 J xs) (ht : TgR T g (fun z' => wipe z' vs = wipe z vs) (asg tg)) (hi : i < xs.length) (I : LcI T RX W P F1 H1 z Q own vs n S Dn (turnE G cl elt tg cs vs) fin xs i H) (x : V) (H' : Hp) (hy : J.yld i H x H') :
    g x (wipe z vs) H' fun z3 H3 => wipe z3 vs = wipe z vs ∧ RTs T RX W0 (evCs G cl cs) z3 H3 fun b H4 =>
      if b = true then R T RX W0 (ev G cl .val elt) z3 H4 fun y H5 => ∃ acc, H5 Dn = some (.lst acc) ∧ acc.length < sizeLine ∧ LcI T RX W P F1 H1 z Q own vs n S Dn (turnE G cl elt tg cs vs) fin xs (i + 1) (upd H5 Dn (.lst (acc ++ [y])))
      else LcI T RX W P F1 H1 z Q own vs n S Dn (turnE G cl elt tg cs vs) fin xs (i + 1) H4 := by
  obtain ⟨F2, σ2, z2, C2, os, us, B, sF, atS, rs, hlen, hw, hD, ro, ow, q⟩ := I
  obtain ⟨wl, we⟩ := wipe_eq hw
  -- the own names' slots are wiped
  obtain ⟨S2, C3, k1, k2, _, _⟩ := RSl.mix (p := fun i => vs.contains i) (i := 0) rs
  have rs3 : RSl T F2 H (wiped vs σ2) (wipe z vs) C3 := k1 (wipe z vs) (by rw [wipe_length, wl]) fun j hj => by
    have hj : vs.contains j = false := by simpa using hj
    rw [wipe_at hj, we j hj]
  -- what is kept from the turn
  have oK : Own P F2 H (Dn :: (B ++ S)) := ow.le fun a => by simp only [List.count_cons, List.count_append]; omega
  have thK : ∀ a ∈ Dn :: (B ++ S), ∃ q, H a = some q := fun a m => by
    rcases List.mem_cons.mp m with e | m
    · exact ⟨_, e ▸ hD⟩
    · rcases List.mem_append.mp m with m | m
      · exact ro.there a m
      · obtain ⟨q, e⟩ := thS a m
        exact ⟨q, atS a m q e⟩
  have oC : Own P F2 H C3 := ow.le fun a => by have := k2 a; simp only [List.count_cons, List.count_append]; omega
  have dj : ∀ a ∈ C3, a ∉ Dn :: (B ++ S) := fun a m m' => by
    have h1 := List.count_pos_iff.mpr m
    have h2 := List.count_pos_iff.mpr m'
    have h3 := ow.nd a
    have h4 := k2 a
    simp only [List.count_cons, List.count_append] at h2 h3
    omega
  have rel3 : Rel T (plus P H (Dn :: (B ++ S))) F2 H (wiped vs σ2) (wipe z vs) := Own.rel ⟨oC.nd, fun a m => plus_none (oC.nP a m) (dj a m), oC.nF, plus_same oC.pH, oC.fH, fun a q e => by
    by_cases m : a ∈ Dn :: (B ++ S)
    · exact oK.nF a m
    · rw [plus_out m] at e
      exact oC.pF a q e⟩ rs3
  obtain ⟨F3, y, ey, s3, rel4, ry⟩ := iok.yld i F2 H x H' hy hi sF _ _ _ rel3
  rw [List.drop_eq_getElem_cons hi, (List.getElem?_eq_some_iff.mp ey).2] at q
  obtain ⟨l, σe, el, hll⟩ := loop_ends (f := fun r σ' => lstV own r) (g := fun r σ' => fin σ') q
  obtain ⟨r, σ5, e5, el2⟩ := Res.bind_ok (show ((turnE G cl elt tg cs vs y σ2).bind fun r σ => (compLoop (turnE G cl elt tg cs vs) (xs.drop (i + 1)) σ).map fun vs => match r with
    | some v => v :: vs
    | none => vs) = .ok l σe from el)
  obtain ⟨l2, σ6', e6, el3⟩ := Res.bind_ok el2
  obtain ⟨σ4, e4, e5'⟩ := opt_ok e5
  obtain ⟨b, σ6, ecs, e7⟩ := Res.bind_ok e5'
  have kw : wipe (wipe z vs) vs = wipe z vs := wipe_twice
  have keep : ∀ {F4 H4 : Hp} {A : List Addr}, Own (plus P H (Dn :: (B ++ S))) F4 H4 A → AtA H H4 (Dn :: (B ++ S)) ∧ Own P F4 H4 (Dn :: (B ++ S) ++ A) := fun {F4 H4 A} o => kept_of oK thK o
  refine ht _ F3 H' (wiped vs σ2) σ4 (wipe z vs) y x _ rel4 kw ry e4 fun z3 rel5 kp => ⟨kp, _, F3, σ4, rel5, ?_⟩
  rw [ecs]
  rintro F4 H4 b' s4 ⟨eb, rel6⟩
  subst eb
  have zl : σ6.length = n := by
    obtain ⟨A6, k6⟩ := rel6
    rw [k6.s.len, (wipe_eq kp).1, ← wl, ← rs.len, hlen]
  cases b with
  | false =>
    have e7 : Res.ok (none : Option O) σ6 = .ok r σ5 := e7
    injection e7 with e8 e9
    subst e8 e9
    rw [if_neg (by decide)]
    obtain ⟨A6, k6⟩ := rel6
    obtain ⟨at6, o6⟩ := keep k6.own
    refine ⟨F4, σ6, z3, A6, os, us, B, (sF.trans s3).trans s4, fun a m q e => at6 a (List.mem_cons_of_mem _ (List.mem_append_right _ m)) q (atS a m q e), k6.s, zl, kp, at6 Dn List.mem_cons_self _ hD, ROs.mono (s3.trans s4) (fun a m => at6 a (List.mem_cons_of_mem _ (List.mem_append_left _ m))) ro, o6.le fun a => by simp only [List.count_cons, List.count_append]; omega, ?_⟩
    refine Post.later (s3.trans s4) ?_
    have : compLoop (turnE G cl elt tg cs vs) (y :: xs.drop (i + 1)) σ2 = compLoop (turnE G cl elt tg cs vs) (xs.drop (i + 1)) σ6 := by
      show (turnE G cl elt tg cs vs y σ2).bind _ = _
      rw [e5]
      show (compLoop (turnE G cl elt tg cs vs) (xs.drop (i + 1)) σ6).map _ = _
      rw [e6]
      rfl
    rw [this] at q
    exact q
  | true =>
    rw [if_pos rfl]
    obtain ⟨v, σ7, ev7, e8⟩ := Res.bind_ok (show ((ev G cl .val elt σ6).bind fun v σ' => opt (asO v) fun o => .ok (some o) σ') = .ok r σ5 from e7)
    obtain ⟨o, eo, e9⟩ := opt_ok e8
    injection e9 with e9 e10
    subst e9 e10
    refine ⟨_, F4, σ6, rel6, ?_⟩
    rw [ev7]
    intro F5 H5 u s5 rv
    obtain ⟨A7, C7, h7, ro7, o7⟩ := rv.parts eo
    obtain ⟨at7, o8⟩ := keep o7
    have hD5 := at7 Dn List.mem_cons_self _ hD
    have ro5 : ROs T F5 H5 os us B := ROs.mono ((s3.trans s4).trans s5) (fun a m => at7 a (List.mem_cons_of_mem _ (List.mem_append_left _ m))) ro
    have hl2 : l = o :: l2 := by injection el3 with h1 h2; exact h1.symm
    have nD : ∀ a, a ∈ B ∨ a ∈ S ∨ a ∈ C7 ∨ a ∈ A7 → a ≠ Dn := fun a m e => by
      subst e
      have h1 := o8.nd a
      simp only [List.count_append, List.count_cons_self] at h1
      rcases m with m | m | m | m <;> (have h2 := List.count_pos_iff.mpr m; omega)
    refine ⟨us, hD5, ?_, F5, σ7, z3, A7, os ++ [o], us ++ [u], B ++ C7, ((sF.trans s3).trans s4).trans s5, fun a m q e => ?_, h7.mono (Same.refl _) (fun a m q e => ?_), ?_, kp, upd_same, ?_, ?_, ?_⟩
    · have h1 := ro.len
      rw [hl2, List.length_append, List.length_cons] at hll
      show us.length < lineN
      omega
    · rw [upd_ne (nD a (.inr (.inl m)))]
      exact at7 a (List.mem_cons_of_mem _ (List.mem_append_right _ m)) q (atS a m q e)
    · rw [upd_ne (nD a (.inr (.inr (.inr m))))]
      exact e
    · rw [h7.len, (wipe_eq kp).1, ← wl, ← rs.len, hlen]
    · refine ROs.app (RO.mono (Same.refl _) (fun a m q e => ?_) ro7) (ROs.mono (Same.refl _) (fun a m q e => ?_) ro5)
      · rw [upd_ne (nD a (.inr (.inr (.inl m))))]
        exact e
      · rw [upd_ne (nD a (.inl m))]
        exact e
    · have oo : Own P F5 H5 (Dn :: (B ++ C7 ++ (S ++ A7))) := o8.le fun a => by simp only [List.count_cons, List.count_append]; omega
      exact ⟨oo.nd, oo.nP, oo.nF, fun a q e => by rw [upd_ne (fun k => by rw [k, oo.nP Dn List.mem_cons_self] at e; cases e)]; exact oo.pH a q e, fun a q e => by rw [upd_ne (fun k => by rw [k, oo.nF Dn List.mem_cons_self] at e; cases e)]; exact oo.fH a q e, oo.pF⟩
    · refine Post.later ((s3.trans s4).trans s5) ?_
      have : (compLoop (turnE G cl elt tg cs vs) (y :: xs.drop (i + 1)) σ2).map (fun l => os ++ l) = (compLoop (turnE G cl elt tg cs vs) (xs.drop (i + 1)) σ7).map (fun l => (os ++ [o]) ++ l) := by
        show ((turnE G cl elt tg cs vs y σ2).bind _).map _ = _
        rw [e5]
        show ((compLoop (turnE G cl elt tg cs vs) (xs.drop (i + 1)) σ7).map _).map _ = _
        rw [e6]
        show Res.ok (os ++ o :: l2) σ6' = .ok ((os ++ [o]) ++ l2) σ6'
        rw [List.append_assoc]
        rfl
      rw [this] at q
      exact q
theorem RI.mono' {m : Fr → Res (List D)} {z : L2.St} {H : Hp} {Q Q' : L2.It → Hp → Prop} (h : RI T RX W m z H Q) (k : ∀ u H, Q u H → Q' u H) : RI T RX W m z H Q' := by
  obtain ⟨P, F, σ, rel, q⟩ := h
  exact ⟨P, F, σ, rel, PostA.mono q k⟩
/-- the evaluator's comprehension -/
def compE (G : Prog) (cl : Call) (own : Bool) (elt : E) (tg : Tg) (it : It) (cs : Es) (vs : List Nat) (σ : Fr) : Res Val := (evIt G cl it σ).bind fun xs σ => (compLoop (turnE G cl elt tg cs vs) xs (wiped vs σ)).nox.bind fun r σ' => if r.length ≤ lineN then .ok (lstV own r) (restored σ vs σ') else .bad
theorem RI.bind {m : Fr → Res (List D)} {f : List D → Fr → Res Val} {z : L2.St} {H : Hp} {Q : VK} {P F : Hp} {σ : Fr} (rel : Rel T P F H σ z) (h : Post T RX W P z F Q ((m σ).bind f)) :
    RI T RX W m z H fun J H1 => ∃ F1 σ1 xs, Same F F1 ∧ (Rel T P F1 H1 σ1 z ∧ ItOk T F1 J xs) ∧ Post T RX W P z F1 Q (f xs σ1) := ⟨P, F, σ, rel, PostA.bind1 h⟩
theorem lc_read {own : Bool} {elt : E} {tg : Tg} {it : It} {cs : Es} {vs : List Nat} {g : TG} {z : L2.St} {H : Hp} {Q : VK} {P F : Hp} {σ : Fr} (ht : TgR T g (fun z' => wipe z' vs = wipe z vs) (asg tg)) (rel : Rel T P F H σ z) (q : Post T RX W P z F Q (compE G cl own elt tg it cs vs σ)) :
    tLc (RI T RX W (evIt G cl it)) g (RTs T RX W0 (evCs G cl cs)) (R T RX W0 (ev G cl .val elt)) vs z H Q := by
  refine RI.mono' (RI.bind rel q) fun J H1 ⟨F1, σ1, xs, s, ⟨⟨A, k⟩, iok⟩, q1⟩ => ?_
  intro Dn hDn
  obtain ⟨S, C, k1, k2, thS, k4⟩ := RSl.mix (p := fun i => vs.contains i) (i := 0) k.s
  have hz : ∀ {z2 : L2.St}, wipe z2 vs = wipe z vs → ∀ j, vs.contains (0 + j) = false → z2[j]? = z[j]? := fun {z2} h j hj => (wipe_eq h).2 j (by simpa using hj)
  refine ⟨fun i m H => m + i = xs.length ∧ LcI T RX W P F1 H1 z Q own vs σ1.length S Dn (turnE G cl elt tg cs vs) (restored σ1 vs) xs i H, ⟨xs.length, by omega, F1, wiped vs σ1, wipe z vs, C, [], [], [], Same.refl _, fun a m q e => same_upd hDn a q e, ?_, ?_, wipe_twice, upd_same, ⟨rfl, rfl⟩, ?_, ?_⟩, ?_⟩
  · refine (k1 (wipe z vs) (wipe_length _ _) fun j hj => ?_).mono (Same.refl _) fun a m q e => same_upd hDn a q e
    exact wipe_at (by simpa using hj)
  · exact mixL_len (by simp)
  · have oA := k.own.newO (o := .lst []) k.s.there hDn
    exact oA.le fun a => by have := k2 a; simp only [List.count_cons, List.count_append, List.nil_append]; omega
  · rw [List.drop_zero]
    have e : ((compLoop (turnE G cl elt tg cs vs) xs (wiped vs σ1)).map fun l => [] ++ l) = compLoop (turnE G cl elt tg cs vs) xs (wiped vs σ1) := by
      cases compLoop (turnE G cl elt tg cs vs) xs (wiped vs σ1) <;> rfl
    rw [e]
    exact q1
  · rintro i m H ⟨hm, I⟩
    by_cases hi : i < xs.length
    · obtain ⟨F2, σ2, z2, C2, os, us, B, sF, atS, rs, hlen, hw, hD, ro, ow, q⟩ := id I
      refine .inr ⟨iok.go i F2 H hi sF ow.fH, fun H' => LcI T RX W P F1 H1 z Q own vs σ1.length S Dn (turnE G cl elt tg cs vs) (restored σ1 vs) xs (i + 1) H', fun H' h => ⟨m - 1, by omega, by omega, h⟩, fun x H' hy => ?_⟩
      exact lc_turn thS iok ht hi I x H' hy
    · obtain ⟨F2, σ2, z2, C2, os, us, B, sF, atS, rs, hlen, hw, hD, ro, ow, q⟩ := I
      refine .inl ⟨iok.stop i F2 H (by omega) sF ow.fH, ?_⟩
      rw [List.drop_of_length_le (by omega)] at q
      have q : Post T RX W P z F2 Q (if (os ++ []).length ≤ lineN then .ok (lstV own (os ++ [])) (restored σ1 vs σ2) else .bad) := q
      rw [List.append_nil] at q
      obtain ⟨A2, h3, ct⟩ := k4 sF atS rs hlen (hz hw)
      have o3 : Own P F2 H (Dn :: B ++ A2) := ow.le fun a => by have := ct a; simp only [List.count_cons, List.count_append, List.cons_append]; omega
      have rO : RO T F2 H (.lst os) (.ref Dn) (Dn :: B) := ⟨Dn, us, B, rfl, rfl, hD, ro⟩
      by_cases c : os.length ≤ lineN
      · rw [if_pos c] at q
        cases own with
        | true => exact q F2 H _ (Same.refl _) (relV_of (o := .lst os) h3 rfl rO o3)
        | false =>
          obtain ⟨s2, rd, o4⟩ := frz_c rO o3
          exact q _ H _ s2 ⟨o4.rel (h3.mono s2 fun _ _ _ e => e), rd⟩
      · rw [if_neg c] at q
        exact q.elim
end
end Tf
end
section
set_option Elab.async false
set_option linter.all false
set_option maxRecDepth 100000
/-! Soundness, part 17: comprehensions as expressions, stored. -/
namespace Tf
open PySem PySem.Spec PyProof.Rows L2
section
variable {T : Tb} {RX : XR} {W : WX} {X : Cx} {G : Prog} {cl : Call} {md : Md} {lm : List Nat} {z0 : L2.St} {w : Nat}
theorem se_comp {own : Bool} {elt tg iter : Expr} {ifs : List Expr} {scope : Scope} {ow : List (PySem.Str × Nat)} {pos : Pos} {ee : E} {t : Tg} {it : It} {cs : Es} {g : TG} (hc : X.calm = true) (hN : X.N.Nodup) (hi : PI X tg iter (RI T RX W (evIt G cl it))) (ok : BlkOk X.N X.env.scope scope ow)
    (hg : ∀ (s : Shared) (H : Hp) (C : Addr) (cl : List (PySem.Str × Addr)) (fp : List Addr), PG (X.blk s H scope (compEnvC scope cl C X.env) fp) tg g)
    (ht : ∀ z : L2.St, TgR T g (fun z' => wipe z' (ow.map (·.2)) = wipe z (ow.map (·.2))) (asg t))
    (hts : ∀ (s : Shared) (H : Hp) (C : Addr) (cl' : List (PySem.Str × Addr)) (fp : List Addr), PTs (X.blk s H scope (compEnvC scope cl' C X.env) fp) ifs (RTs T RX W0 (evCs G cl cs)))
    (he : ∀ (s : Shared) (H : Hp) (C : Addr) (cl' : List (PySem.Str × Addr)) (fp : List Addr), SE T RX W0 G cl (X.blk s H scope (compEnvC scope cl' C X.env) fp) elt ee) (hs : ∀ x, foldedSetIterable iter X.env x = pure x) :
    SE T RX W G cl X (.ListComp elt [⟨tg, iter, ifs, 0⟩] scope pos) (.comp own ee t it cs (ow.map (·.2))) :=
  SE.of (m := compE G cl own ee t it cs (ow.map (·.2))) (fun _ => rfl) (fun _ _ => rfl) (impE (pe_lc hc hN hi ok hg hts (fun s H C cl fp => (he s H C cl fp).v) hs) fun z H Q ⟨P, F, σ, rel, q⟩ => lc_read (ht z) rel q)
theorem ss_setLc {own : Bool} {i : Nat} {y : PySem.Str} {py : Pos} {elt tg iter : Expr} {ifs : List Expr} {scope : Scope} {ow : List (PySem.Str × Nat)} {pos spos : Pos} {ee : E} {t : Tg} {it : It} {cs : Es} {g : TG} (hc : X.calm = true) (hN : X.N.Nodup) (hy : X.N[i]? = some y) (hyl : X.env.scope.names.lookup y = some .local) (hl : i ∉ lm)
    (hsw : swapsWith (.ListComp elt [⟨tg, iter, ifs, 0⟩] scope pos) (some (.Name y py)) spos.line X.env = pure true) (hi : PI X tg iter (RI T RX W (evIt G cl it))) (ok : BlkOk X.N X.env.scope scope ow)
    (hg : ∀ (s : Shared) (H : Hp) (C : Addr) (cl : List (PySem.Str × Addr)) (fp : List Addr), PG (X.blk s H scope (compEnvC scope cl C X.env) fp) tg g)
    (ht : ∀ z : L2.St, TgR T g (fun z' => wipe z' (ow.map (·.2)) = wipe z (ow.map (·.2))) (asg t))
    (hts : ∀ (s : Shared) (H : Hp) (C : Addr) (cl' : List (PySem.Str × Addr)) (fp : List Addr), PTs (X.blk s H scope (compEnvC scope cl' C X.env) fp) ifs (RTs T RX W0 (evCs G cl cs)))
    (he : ∀ (s : Shared) (H : Hp) (C : Addr) (cl' : List (PySem.Str × Addr)) (fp : List Addr), SE T RX W0 G cl (X.blk s H scope (compEnvC scope cl' C X.env) fp) elt ee) (hs : ∀ x, foldedSetIterable iter X.env x = pure x) :
    SS T RX W lm z0 G cl w X (.Assign [.Name y py] (.ListComp elt [⟨tg, iter, ifs, 0⟩] scope pos) spos) (.asg i (.comp own ee t it cs (ow.map (·.2)))) :=
  impS (ps_setLc hc hN hy hyl hsw hi ok hg hts (fun s H C cl fp => (he s H C cl fp).v) hs) fun D z H ⟨P, F, σ, rel, kp, q⟩ => by
    have q : PostS T RX W lm z0 P F D (((compE G cl own ee t it cs (ow.map (·.2)) σ).bind (fin .val)).st fun v σ => optS (asgV i v σ) .next) := q
    refine lc_read (own := own) (ht z) rel ?_
    revert q
    generalize compE G cl own ee t it cs (ow.map (·.2)) σ = r
    intro q
    cases r with
    | bad => exact q
    | exc x σ1 => exact fun F1 H1 c d s r1 rx => q F1 H1 z c d s r1 kp rx
    | ok v σ1 =>
      intro F1 H1 u s rv
      have q : PostS T RX W lm z0 P F D ((fin .val v σ1).st fun v σ => optS (asgV i v σ) .next) := q
      have main : PostS T RX W lm z0 P F D (optS (asgV i v σ1) .next) → D.nx (z.set i (some u)) H1 := fun q => by
        obtain ⟨σ', e', q1⟩ := PostS.optS q
        obtain ⟨o, eo, hlt, rfl⟩ := asgV_some e'
        exact q1 F1 H1 _ s (assign_ok rv eo hlt) (kp.set hl)
      cases v with
      | d x => exact main q
      | o o => exact main q
      | b j o => exact (show False from q).elim
end
end Tf
end
section
set_option Elab.async false
set_option linter.all false
set_option maxRecDepth 100000
/-! Soundness, part 18: a op b op c. -/
namespace Tf
open PySem PySem.Spec PyProof.Rows L2
section
variable {T : Tb} {RX : XR} {W : WX} {X : Cx} {G : Prog} {cl : Call} {md : Md}
/-- two comparisons in a row, of ints -/
theorem rI0_of {op : Cop} {g : Int → Int → Bool} (h2 : ∀ i j, cmpD G cl op (.int i) (.int j) = some (g i j)) (h3 : ∀ x y c, cmpD G cl op x y = some c → ∃ i j, x = .int i ∧ y = .int j) {F H : Hp} {x y : D} {u v : V} {k : Bool} {Q : VK} (rx : RD T F x u) (ry : RD T F y v) (e : cmpD G cl op x y = some k) (q : Q (.bl k) H) : rI0 (fun i j => .bl (g i j)) u v H Q := by
  obtain ⟨i, j, rfl, rfl⟩ := h3 x y k e
  rw [h2] at e
  cases (Option.some.inj e)
  exact ⟨i, j, rx, ry, q⟩
structure CmpI (G : Prog) (cl : Call) (op : Cop) (o : CmpOp) (g : Int → Int → Bool) : Prop where
  h2 : ∀ i j, cmpD G cl op (.int i) (.int j) = some (g i j)
  h3 : ∀ x y c, cmpD G cl op x y = some c → ∃ i j, x = .int i ∧ y = .int j
theorem ci_lt : CmpI G cl .lt .Lt (fun i j => decide (i < j)) := ⟨fun _ _ => rfl, fun x y c h => by cases x <;> cases y <;> first | exact ⟨_, _, rfl, rfl⟩ | cases h⟩
theorem ci_le : CmpI G cl .le .LtE (fun i j => decide (i ≤ j)) := ⟨fun _ _ => rfl, fun x y c h => by cases x <;> cases y <;> first | exact ⟨_, _, rfl, rfl⟩ | cases h⟩
theorem ci_gt : CmpI G cl .gt .Gt (fun i j => decide (j < i)) := ⟨fun _ _ => rfl, fun x y c h => by cases x <;> cases y <;> first | exact ⟨_, _, rfl, rfl⟩ | cases h⟩
theorem ci_ge : CmpI G cl .ge .GtE (fun i j => decide (j ≤ i)) := ⟨fun _ _ => rfl, fun x y c h => by cases x <;> cases y <;> first | exact ⟨_, _, rfl, rfl⟩ | cases h⟩
/-- the raw run of a chain -/
def chnE (G : Prog) (cl : Call) (p q : Cop) (a b c : E) (σ : Fr) : Res Val := (ev G cl .val a σ).bind fun v σ => opt (toD v) fun x => (ev G cl .val b σ).bind fun u σ => opt (toD u) fun y => opt (cmpD G cl p x y) fun k => match k with
    | false => .ok (bl false) σ
    | true => (ev G cl .val c σ).bind fun w σ => opt (toD w) fun z => opt (cmpD G cl q y z) fun k => .ok (bl k) σ
theorem chn_read {p q : Cop} {o o' : CmpOp} {g g' : Int → Int → Bool} {ea eb ec : E} (hp : CmpI G cl p o g) (hq : CmpI G cl q o' g') {z : L2.St} {H : Hp} {Q : VK} {P F : Hp} {σ : Fr} (rel : Rel T P F H σ z) (h : Post T RX W P z F Q (chnE G cl p q ea eb ec σ)) :
    tChain (rI0 fun i j => .bl (g i j)) (rI0 fun i j => .bl (g' i j)) (R T RX W (ev G cl .val ea)) (R T RX W (ev G cl .val eb)) (R T RX W (ev G cl .val ec)) z H Q := by
  refine R.mono (R.two rel h) fun u1 H1 h1 => R.mono h1 fun u2 H2 ⟨F2, σ2, x, y, rel2, rx, ry, q2⟩ => ?_
  obtain ⟨k, ek, q2⟩ := Post.opt q2
  refine rI0_of hp.h2 hp.h3 rx ry ek ⟨k, rfl, ?_⟩
  cases k with
  | false => exact post_bl rel2 q2
  | true =>
    rw [if_pos rfl]
    refine R.mono (R.bind rel2 q2) fun u3 H3 ⟨F3, σ3, w, s3, rw_, q3⟩ => ?_
    obtain ⟨zz, ez, q3⟩ := Post.opt q3
    obtain ⟨F4, s4, rel4, rz⟩ := rw_.toD ez
    obtain ⟨k, ek, q3⟩ := Post.opt q3
    exact rI0_of hq.h2 hq.h3 (ry.mono (s3.trans s4)) rz ek (post_bl rel4 (Post.later s4 q3))
theorem se_chn {a b c : Expr} {ea eb ec : E} {p q : Cop} {o o' : CmpOp} {g g' : Int → Int → Bool} {pos : Pos} (hp : CmpI G cl p o g) (hq : CmpI G cl q o' g') (ho : OpR X (compareOp o) (rI0 fun i j => .bl (g i j))) (ho' : OpR X (compareOp o') (rI0 fun i j => .bl (g' i j)))
    (ha : SE T RX W G cl X a ea) (hb : SE T RX W G cl X b eb) (hc : SE T RX W G cl X c ec) (hm : lastMarks [o, o'] [b, c] = false) : SE T RX W G cl X (.Compare a [o, o'] [b, c] pos) (.chn p q ea eb ec) := by
  refine SE.raw (m := chnE G cl p q ea eb ec) (fun _ _ => rfl) (impE (pe_chain ho ho' ha.v hb.v hc.v hm) fun z H Q ⟨P, F, σ, rel, h⟩ => chn_read hp hq rel h) fun _ => impT (pt_chain ho ho' ha.v hb.v hc.v hm) fun z H Q ⟨P, F, σ, rel, h⟩ => ?_
  refine chn_read hp hq rel ?_
  have h : PostT T RX W P z F Q ((chnE G cl p q ea eb ec σ).bind (fin .tst)) := h
  have hb' : ∀ v σ1, chnE G cl p q ea eb ec σ = .ok v σ1 → ∃ b, v = bl b := fun v σ1 e => by
    obtain ⟨_, _, _, e⟩ := Res.bind_ok e
    obtain ⟨_, _, e⟩ := opt_ok e
    obtain ⟨_, _, _, e⟩ := Res.bind_ok e
    obtain ⟨_, _, e⟩ := opt_ok e
    obtain ⟨k, _, e⟩ := opt_ok e
    cases k with
    | false => injection e with e1 e2; exact ⟨false, e1.symm⟩
    | true =>
      obtain ⟨_, _, _, e⟩ := Res.bind_ok e
      obtain ⟨_, _, e⟩ := opt_ok e
      obtain ⟨k, _, e⟩ := opt_ok e
      injection e with e1 e2
      exact ⟨k, e1.symm⟩
  revert h hb'
  generalize chnE G cl p q ea eb ec σ = r
  intro h hb'
  cases r with
  | exc x σ1 => exact h
  | bad => exact h
  | ok v σ1 =>
    obtain ⟨k, rfl⟩ := hb' v σ1 rfl
    obtain ⟨b, eb, h⟩ := (show PostT T RX W P z F Q (.ok (.d (.bl k)) σ1) from h)
    have : k = b := by injection eb with eb; injection eb
    subst this
    exact fun F1 H1 u s rv => ⟨k, rv.2, h F1 H1 s rv.1⟩
end
end Tf
end
section
set_option Elab.async false
set_option linter.all false
set_option maxRecDepth 100000
/-! Exceptions of the text, part 0: an own __init__ that says super().__init__(..), then keeps its arguments. -/
namespace Tf
open PySem PySem.Spec PyProof.Rows L2
/-- where such a class, its __init__, stand -/
structure ExcI (P : Program) (K : PySem.W.Frag) (C fI : Addr) (qual : PySem.Str) (params : Arguments) (body : List Stmt) (scope : Scope) (fd : FuncData) : Prop where
  ox : OexC K C
  iC : PySem.W.findIn K (.ref C) "__init__" = some (some (.ref fI))
  tI : PySem.W.typeIn K (.ref fI) = some (.type "function")
  fn : ∃ oc od kV doc pm an cda ct cc osl cl cld csl ccl cdd vs ccs file tf, fd = PySem.W.ksFn "__init__" qual params body scope .none kV doc pm an (.ref cda) ct cc ∧ K.lookup fI = some ⟨oc, od, .func fd, osl⟩ ∧ PySem.W.codeIn K (.ref cda) qual = true ∧
    K.lookup cc = some ⟨cl, cld, .cell (some (.ref C)), csl⟩ ∧ K.lookup cda = some ⟨ccl, cdd, .fields vs, ccs⟩ ∧ vs[2]? = some (.str file tf) ∧ ((P.main.file : PySem.Str) == file) = true
  sup : PySem.W.ks_superIn K C C "__init__" = some (some (.builtin "ValueError.__init__"))
  sub : PySem.W.subIn K (.ref C) (.type "ValueError") = some true
  mro : PySem.W.mroIn K C (.ref C) = some true
  nsup : PySem.W.nsIn K mainGlobals "super" = some none
  stat : PySem.W.nsIn K cStatics "thirdparty.any" = some none
  top : (P.main.scope.names.lookup ("super" : PySem.Str)).isSome = false
/-- the context of such a body -/
def cxS (CX : CXT) (P : Program) (w : World) (K : PySem.W.Frag) (mg : PySem.Str → Option Value) (base : Heap) (N : List PySem.Str) (fd : FuncData) (f : Addr) (A : Around) (outer : List Env) (s : Shared) (H : Hp) (E : XK) : Cx where
  prog := P
  w := w
  K := K
  mg := mg
  base := base
  A := A.deeper (callEnv fd s.heap.objs.size f)
  N := N
  s_0 := s
  H_0 := H
  env := callEnv fd s.heap.objs.size f
  outer := outer
  stack := callEnv fd s.heap.objs.size f :: outer
  ex := []
  calm := true
  fn := fun _ => false
  pn := []
  xe := fun e t => wpAny (model P w) (A.deeper (callEnv fd s.heap.objs.size f)) (leaving (callEnv fd s.heap.objs.size f) e) (fun _ t' => CX outer H s E e t') (fun e' t' => CX outer H s E e' t') t
structure ScopeX (N ps : List PySem.Str) (scope : Scope) : Prop where
  kind : scope.kind = .function
  co : scope.isCoroutine = false
  gen : scope.isGenerator = false
  nd : N.Nodup
  par : ∀ x ∈ N, scope.names.lookup x = some .local
  nocell : ∀ y ∈ scope.names, y.2 ≠ .cell
  free : ∀ y ∈ scope.names, y.2 = .free → y.1 = "__class__"
  cls : scope.names.lookup ("__class__" : PySem.Str) = some .free
  sup : scope.names.lookup ("super" : PySem.Str) = some .globalImplicit
theorem zip_get {N : List PySem.Str} {us : List Value} {i : Nat} {x : PySem.Str} {u : Value} (nd : N.Nodup) (h1 : N[i]? = some x) (h2 : us[i]? = some u) : (N.zip us).reverse.lookup x = some u := by
  have key : ∀ (l : List (PySem.Str × Value)) (x : PySem.Str) (u : Value), (l.map (·.1)).Nodup → (x, u) ∈ l → l.lookup x = some u := by
    intro l
    induction l with
    | nil => intro x u _ m; cases m
    | cons p l ih =>
      intro x u n m
      obtain ⟨y, v⟩ := p
      rw [List.map_cons, List.nodup_cons] at n
      rcases List.mem_cons.mp m with e | m
      · cases e
        simp [List.lookup]
      · have ne : x ≠ y := fun e => n.1 (e ▸ List.mem_map_of_mem (f := (·.1)) m)
        rw [List.lookup_cons, show (x == y) = false from by simpa using ne]
        exact ih x u n.2 m
  have hm : (x, u) ∈ N.zip us := by
    refine List.mem_of_getElem? (i := i) ?_
    rw [List.getElem?_zip_eq_some]
    exact ⟨h1, h2⟩
  refine key _ _ _ ?_ (List.mem_reverse.mpr hm)
  rw [List.map_reverse]
  refine List.pairwise_reverse.mpr (List.Pairwise.imp (fun h => Ne.symm h) ?_)
  refine List.Nodup.sublist ?_ nd
  have sub : ∀ (N : List PySem.Str) (us : List Value), ((N.zip us).map (·.1)).Sublist N := by
    intro N
    induction N with
    | nil => intro us; exact .slnil
    | cons x N ih =>
      intro us
      cases us with
      | nil => exact List.nil_sublist _
      | cons u us => exact (ih us).cons_cons x
  exact sub _ _

section
variable {P : Program} {w : World} {K : PySem.W.Frag} {mg : PySem.Str → Option Value} {base : Heap} {N : List PySem.Str} {fd : FuncData} {f C : Addr} {A : Around} {outer : List Env} {s : Shared} {H : Hp} {E : XK} {CX : CXT} {qual : PySem.Str} {params : Arguments} {body : List Stmt} {scope : Scope}
theorem lk_cls {cc c : Addr} {x : PySem.Str} (h : ([("__class__", cc)] : List (PySem.Str × Addr)).lookup x = some c) : x = "__class__" ∧ c = cc := by
  rw [List.lookup_cons] at h
  cases e : (x == ("__class__" : PySem.Str)) with
  | true =>
    rw [e] at h
    exact ⟨beq_iff_eq.mp e, (Option.some.inj h).symm⟩
  | false =>
    rw [e] at h
    cases h
theorem lk_cls_self {cc : Addr} : ([("__class__", cc)] : List (PySem.Str × Addr)).lookup ("__class__" : PySem.Str) = some cc := by simp [List.lookup]
/-- at the entry -/
theorem inv_ent {vs : List V} {us : List Value} {h₀ : Heap} {t : Nat} (X : ExcI P K C f qual params body scope fd) (S : ScopeX N N scope) (hd : A.handled = none) (e0 : Env0 P w K mg base A outer s H) (hl : vs.length = N.length) (r : Vals vs us)
    (hns : h₀.Ns s.heap.objs.size (fun x => (N.zip us).reverse.lookup x)) (k : ∀ b o, s.heap.get? b = some o → h₀.get? b = some o) : Inv (cxS CX P w K mg base N fd f A outer s H E) [] (vs.map some) H { s with heap := h₀, toks := t } := by
  obtain ⟨oc, od, kV, doc, pm, an, cda, ct, cc, osl, cl, cld, csl, ccl, cdd, vs', ccs, file, tf, efd, lk, hcd, hcell, hcode, hvs, hfile⟩ := X.fn
  subst efd
  have bc : base.get? cc = some _ := e0.mod.kin _ _ hcell
  have gc : s.heap.get? cc = some _ := (e0.bs _ _ bc).1
  have noA : ∀ {α : Type} {p : Prop} {b : α}, b ∈ ([] : List α) → p := fun m => by cases m
  refine ⟨⟨e0.mod, S.kind, rfl, rfl, Nat.le_refl _, fun y z c h1 h2 => ?_, fun y hy => ?_, fun y c hf h => ?_, fun _ => hd, Around.frames_deeper e0.frames, .inr ⟨rfl, rfl⟩, fun b z => noA z, e0.bs, e0.bsz, fun b _ _ z => noA z, fun b z => noA z, e0.funs, e0.frf⟩,
    rfl, e0.bare, Un.kept k, ⟨_, hns, fun i y v h1 h2 h3 => ?_⟩, fun y c h => ?_, e0.hok.fresh (Nat.le_refl _), fun y c h => ?_, fun p hp => noA hp, e0.hok.kept k, ?_⟩
  · exact (lk_cls h1).1.trans (lk_cls h2).1.symm
  · rcases hy with hy | hy
    · exact absurd rfl (S.nocell _ (PySem.mem_of_lookup hy))
    · have e := S.free _ (PySem.mem_of_lookup hy) rfl
      exact ⟨cc, by subst e; exact lk_cls_self⟩
  · cases hf
  · have e : (vs.map some)[i]? = some (some v) := h2
    rw [List.getElem?_map] at e
    cases e' : vs[i]? with
    | none => rw [e'] at e; cases e
    | some v' =>
      rw [e'] at e
      cases e
      obtain ⟨u, hu, rv⟩ := r.get e'
      exact ⟨u, rv, .inl ⟨S.par y (List.mem_of_getElem? h1), zip_get S.nd h1 hu⟩⟩
  · obtain ⟨_, rfl⟩ := lk_cls h
    exact ⟨_, _, k _ _ gc, rfl⟩
  · obtain ⟨_, rfl⟩ := lk_cls h
    exact (e0.bs _ _ bc).2
  · show (vs.map some).length = N.length
    rw [List.length_map, hl]
/-- super().__init__(..) -/
theorem super_call {X : Cx} {z : L2.St} {a : Addr} {es : List Expr} {ta : TA} {p0 p1 p2 pos : Pos} {bd : List Stmt} {R : Value → Shared → Prop} (EI : ExcI X.prog X.K C f qual params body scope fd) (S : ScopeX X.N X.N scope) (hE : X.env = callEnv fd X.env.locals f) (hN : X.N[0]? = some ("self" : PySem.Str))
    (hp : ∃ ar, (params.posonlyargs ++ params.args).head? = some ar ∧ ar.arg = "self") (hm : X.mg "super" = none) (I : Inv X [] z H s) (hz : z[0]? = some (some (.ref a))) (ea : H a = some (exo a C none)) (ha : PA X es ta) (hta : ∀ H (Q : List V → Hp → Prop), (∀ vs, vs.length ≤ 1000 → Q vs H) → ta z H Q)
    (hes : es = [] ∨ ∃ e r, es = e :: r ∧ starEach (e :: r) X.env = (false, eval e X.env) :: starEach r X.env ∧ (backTo pos (starEach r X.env)).any (·.1) = false)
    (hq : ∀ s', Inv X [] z H s' → R .none s') {pl : Sem Bool}
    (he : eval (.Call (.Attribute (.Call (.Name "super" p0) [] [] p1) "__init__" p2) es [] pos) X.env = (do
      let ov ← attributeBase (.Call (.Name "super" p0) [] [] p1) "__init__" X.env (eval (.Call (.Name "super" p0) [] [] p1) X.env)
      standAt p2.atName
      let (f, first) ← holding [ov] (getMethod ov "__init__" pl)
      callWith pos f first (backTo pos (starEach es X.env)) [])) :
    PySem.wpAt (model X.prog X.w) X.A (.func bd X.env) (eval (.Call (.Attribute (.Call (.Name "super" p0) [] [] p1) "__init__" p2) es [] pos) X.env) R X.xe s := by
  obtain ⟨oc, od, kV, doc, pm, an, cda, ct, cc, osl, cl, cld, csl, ccl, cdd, vs', ccs, file, tf, efd, lk, hcd, hcell, hcode, hvs, hfile⟩ := EI.fn
  subst efd
  have KX := I.kIn
  obtain ⟨ar, har, harn⟩ := hp
  have eC : X.env.cells.lookup ("__class__" : PySem.Str) = some cc := by rw [hE]; exact lk_cls_self
  have eks : X.env.kindOf "super" = some .globalImplicit := by rw [hE]; exact S.sup
  have ekc : X.env.kindOf "__class__" = some .free := by rw [hE]; exact S.cls
  have ef : X.env.func = some f := by rw [hE]; rfl
  have ecd : X.env.code = .ref cda := by rw [hE]; rfl
  obtain ⟨t1, ho⟩ := exo_at I.hok ea
  obtain ⟨nm, q, NN, bs, bm, sn, sub, ab, col, dd, k0, k1, k2, k3, k5, hC, hbm⟩ := EI.ox.cls
  have hD := KX _ _ hC
  refine PySem.ks_wpAt_MethodCall (PySem.ks_wpAt_super_base eks ekc rfl ef (KX _ _ lk) rfl har ecd (KX _ _ hcode) rfl hvs hfile EI.top ?_) he
  refine PySem.W.ks_loadName_global I.ok.kind eks ?_
  obtain ⟨mb, b1, b2⟩ := I.mod.blt
  refine Calls.loadGlobal_builtin (by rw [I.ok.glob]; exact I.mod.glob.keeps I.bk) hm (by rw [I.ok.blt]; exact b1.keeps I.bk) ((b2 "super" (by decide)).trans (show bootBuiltins "super" = some (.type "super") by kernel_rfl)) ⟨rfl, ?_⟩
  refine wpAny_loadName_free I.ok.kind ekc eC ⟨_, KX _ _ hcell, rfl⟩ ?_
  rw [harn]
  obtain ⟨m, hns, hl⟩ := id I.loc
  have ekself : X.env.kindOf "self" = some .local := by rw [hE]; exact S.par _ (List.mem_of_getElem? hN)
  obtain ⟨u, hu, hk⟩ := hl 0 "self" _ hN hz (.inl (by have := ekself; exact this))
  have hu' : u = .ref a := hu
  subst hu'
  have hm2 : m "self" = some (.ref a) := by
    rcases hk with ⟨_, h⟩ | ⟨h, _⟩
    · exact h
    · rw [ekself] at h; rcases h with h | h <;> cases h
  refine wpAny_loadName_local I.ok.kind ekself hns hm2 ?_
  refine PySem.ks_wpAny_isType_cls hD rfl ⟨rfl, ?_⟩
  obtain ⟨hh, g, d, tk, os⟩ := s
  refine PySem.ks_wpAny_call_super hD rfl ho rfl (fun c e => by cases e) (PySem.W.looks_mroIn KX EI.mro) (fun h1 e1 kp1 => ?_)
  have I1 : Inv X [] z H ⟨h1, g, d, tk, os⟩ := I.kept (t' := tk) kp1
  have ho1 := kp1 _ _ ho
  have hcl : PySem.W.clsIn X.K C = some { name := nm, bases := bs, mro := .ref C :: bm, ns := NN, qualname := q, hasDict := true, slotNames := sn, subclasses := sub, abstract := ab, collection := col, hasDel := false } := by
    unfold PySem.W.clsIn
    rw [hC] <;> rfl
  have iA : PySem.W.InstAt h1 a { cls := .ref C, dict := none, data := .fields #[.ref t1, .none, .none, .none, .bool false, .none] } C none := ⟨ho1, rfl, rfl, trivial⟩
  have hsup := EI.sup
  unfold PySem.W.ks_superIn at hsup
  rw [hcl] at hsup
  have ns1 : hh.objs.size < h1.objs.size := Heap.lt_size e1
  refine PySem.W.kxs_getMethod (i := "ValueError.__init__") PySem.W.kxs_ValueError e1 (PySem.W.looks_opaque I1.kIn EI.stat) (l₀ := .ref C :: bm) ?_ rfl I1.kIn hsup (iA.type.andThen (PySem.W.looks_subIn I1.kIn EI.sub)) (PySem.W.ks_ne I1.kIn iA hcl) rfl ?_
  · exact fun A Q E s k q => wpAny_bind ((PySem.W.looks_clsIn I1.kIn hcl) A _ E s k (wpAny_pure q))
  have up : ∀ b o, h1.get? b = some o → (h1.push (PySem.W.kxs_mw "ValueError.__init__" a)).get? b = some o := fun b o e => Heap.get?_push_of_some _ e
  have hu : (h1.push (PySem.W.kxs_mw "ValueError.__init__" a)).get? h1.objs.size = some (PySem.W.kxs_mw "ValueError.__init__" a) := Heap.get?_push_at rfl rfl
  have I2 : Inv X [(h1.objs.size, PySem.W.kxs_mw "ValueError.__init__" a)] z H ⟨h1.push (PySem.W.kxs_mw "ValueError.__init__" a), g, d, tk + 1, os⟩ := (I1.kept (t' := tk + 1) up).pins_of fun p hp => by
    have e : p = (h1.objs.size, PySem.W.kxs_mw "ValueError.__init__" a) := List.mem_singleton.mp hp
    subst e
    exact ⟨hu, I1.hok.fresh (Nat.le_refl _), Nat.ne_of_gt I1.lt, I1.nofs (Nat.le_refl _), fun v z => by cases z⟩
  show wpAny (model X.prog X.w) X.A (callWith pos (.ref h1.objs.size) [] (backTo pos (starEach es X.env)) []) _ _ _
  have go : ∀ (us : List Value) (s2 : Shared) , us.length ≤ sizeLine → Inv X [(h1.objs.size, PySem.W.kxs_mw "ValueError.__init__" a)] z H s2 → wpAny (model X.prog X.w) X.A (call (.ref h1.objs.size) us) R X.xe s2 := fun us s2 hl2 J => by
    have hu2 := (J.pin _ (List.mem_append_right _ (List.mem_singleton.mpr rfl))).1
    obtain ⟨t2, ho2⟩ := exo_at J.hok ea
    have hC2 := J.kIn _ _ hC
    obtain ⟨hp2, g2, d2, tk2, os2⟩ := s2
    refine wpAny_call (codeAny_of_tree ?_)
    show wpAny _ X.A.in1 (callAny (.ref h1.objs.size) ⟨us, []⟩) _ _ _
    simp only [callAny]
    refine wpAny_bind (wpAny_load hu2 ?_)
    have tb : (Value.type "method-wrapper" == Value.type "method" || Value.type "method-wrapper" == Value.type "builtin_function_or_method" || Value.type "method-wrapper" == Value.type "method-wrapper") = true := by decide
    simp only [PySem.W.kxs_mw, tb, if_true]
    refine PySem.W.KFB.if_so (by decide) ?_
    refine wpAny_bind (PySem.W.check_bound_init F.excBase_ValueError.toExcCallFacts hC2 ho2 rfl ?_)
    refine wpAny_bind (wpAny_pure (wpAny_pure ?_))
    refine ⟨plainId_quiet F.excBase_ValueError.init.plain _, codeAny_builtin F.excBase_ValueError.initEntry ?_⟩
    refine PySem.W.exc_init_tree (cls := .ref C) (t0 := t2) (dv := none) (c2 := .none) (c3 := .none) (b4 := .bool false) ho2 hl2 (fun h' k hx ht => ?_)
    have J2 := J.write (t' := tk2) (x := a) (e := a) (o := exo a C none) (by rw [ea]; exact True.intro) (.inl rfl) k ⟨_, hx⟩ (exo_ok hx)
    have eu : upd H a (exo a C none) = H := by
      funext b
      by_cases hb : b = a
      · rw [hb, upd_same, ea]
      · rw [upd_ne hb]
    rw [eu] at J2
    exact hq _ (J2.pins_of (pins' := []) fun p hp => by cases hp)
  rcases hes with rfl | ⟨e, r, rfl, hst, hpl⟩
  · exact PySem.W.kxs_callWith (i := "ValueError.__init__") (x := a) rfl (evalArgs_empty ⟨hu, go [] _ (Nat.zero_le _) I2⟩)
  · have hv := ha.run pos _ _ z H (fun vs H1 => vs.length ≤ 1000 ∧ H1 = H) I2 (hta H _ fun vs l => ⟨l, rfl⟩)
    rw [hst] at hv ⊢
    refine PySem.W.kxs_callWith (i := "ValueError.__init__") (x := a) (by show (false || (backTo pos (starEach r X.env)).any (·.1)) = false; rw [hpl]; rfl) ?_
    refine Calls.evalArgs_plain (thn hv fun us s2 ⟨vs, H2, J, rv, hl2, eH⟩ => ?_)
    subst eH
    refine ⟨(J.pin _ (List.mem_append_right _ (List.mem_singleton.mpr rfl))).1, go us s2 ?_ J⟩
    rw [← Paired.length rv, sizeLine_eq]
    omega
/-- THE RULE: such an __init__ keeps a promise -/
theorem fn_exi {k : Nat} {sp : Sp} {p0 p1 p2 p3 p4 : Pos} {es : List Expr} {rest : List Stmt} {ta : TA} {tr : TS} (EI : ExcI P K C f qual params body scope fd) (S : ScopeX N N scope) (hN : N[0]? = some ("self" : PySem.Str)) (hp : ∃ ar, (params.posonlyargs ++ params.args).head? = some ar ∧ ar.arg = "self")
    (hbody : body = .Expr (.Call (.Attribute (.Call (.Name "super" p0) [] [] p1) "__init__" p2) es [] p3) p4 :: rest) (hm : mg "super" = none)
    (ha : ∀ A outer s H E, PA (cxS CX P w K mg base N fd f A outer s H E) es ta) (hr : ∀ A outer s H E, PSs (cxS CX P w K mg base N fd f A outer s H E) rest tr)
    (hta : ∀ (vs : List V) H (Q : List V → Hp → Prop), vs.length = N.length → (∀ us, us.length ≤ 1000 → Q us H) → ta (vs.map some) H Q) (len : ∀ vs H Q E, sp vs H Q E → vs.length = N.length)
    (hsp : ∀ vs H Q E, sp vs H Q E → ∃ a ws, vs = .ref a :: ws ∧ H a = some (exo a C none) ∧ tr { nx := fun _ H' => Q .non H', rt := Q } (vs.map some) H)
    (hes : ∀ env : Env, es = [] ∨ ∃ e r, es = e :: r ∧ starEach (e :: r) env = (false, eval e env) :: starEach r env ∧ (backTo p3 (starEach r env)).any (·.1) = false)
    (he : ∀ env : Env, ∃ pl : Sem Bool, eval (.Call (.Attribute (.Call (.Name "super" p0) [] [] p1) "__init__" p2) es [] p3) env = (do
      let ov ← attributeBase (.Call (.Name "super" p0) [] [] p1) "__init__" env (eval (.Call (.Name "super" p0) [] [] p1) env)
      standAt p2.atName
      let (f, first) ← holding [ov] (getMethod ov "__init__" pl)
      callWith p3 f first (backTo p3 (starEach es env)) [])) : FnOk P w K mg base CX (k + 1) f fd N sp := by
  refine ⟨len, fun A outer s H args us vs Q E hroom e0 hb r hs => ?_⟩
  have hl := len _ _ _ _ hs
  obtain ⟨a, ws, ev, ea, htr⟩ := hsp _ _ _ _ hs
  obtain ⟨oc, od, kV, doc, pm, an, cda, ct, cc, osl, cl, cld, csl, ccl, cdd, vs', ccs, file, tf, efd, lk, hcd, _⟩ := id EI.fn
  have KX : K.In s.heap := e0.mod.kin.keeps fun b o e => (e0.bs b o e).1
  have lim : s.heap.NoLimit := e0.mod.nolimit.keeps fun b o e => (e0.bs b o e).1
  have esc : fd.scope = scope := by rw [efd]
  have ebd : fd.body = .stmts body := by rw [efd]
  have ecode : s.heap.CodeRec fd.code fd.qualname := by rw [efd]; exact PySem.W.codeRec_of KX hcd
  refine PySem.ks_codeAny_call_defAt (fd := fd) (body := body) (binds := N.zip us) hroom.depth (KX _ _ lk) rfl lim ecode ebd hb (by rw [esc]; exact S.nocell) (fun x hx => by rw [esc]; exact S.par _ (List.of_mem_zip hx).1) (fun h₀ hns kp => ?_) (by rw [esc]; exact S.co) (by rw [esc]; exact S.gen) (by rw [esc]; exact S.kind)
  have I : Inv (cxS CX P w K mg base N fd f A outer s H E) [] (vs.map some) H { s with heap := h₀, toks := s.toks + (N.zip us).length } := inv_ent EI S hroom.hd e0 hl r hns kp
  obtain ⟨pl, he⟩ := he (callEnv fd s.heap.objs.size f)
  have hz : (vs.map some)[0]? = some (some (V.ref a)) := by rw [ev]; rfl
  subst hbody
  refine PySem.ks_wpAt_execs_cons (PySem.ks_wpAt_Expr_any ?_ (by rw [efd]; unfold interactive; simp [callEnv, newEnv, S.kind]))
  refine super_call (X := cxS CX P w K mg base N fd f A outer s H E) (pos := p3) EI S rfl hN hp hm I hz ea (ha A outer s H E) (fun H Q h => ?_) (hes _) (fun s' J => ?_) he
  · exact hta vs H Q hl h
  · refine wpAt_of_wpAny (wpAny_mono ((hr A outer s H E).run [] s' (vs.map some) H _ J htr) (fun fl t hs => ?_) fun e t hs => hs)
    have fin : ∀ {σ' : L2.St} {H' : Hp} {v : V} {u : Value}, Inv (cxS CX P w K mg base N fd f A outer s H E) [] σ' H' t → L2.RelV v u → Q v H' → CE outer P w H s Q u t := fun {σ' H' v u} J rv q => ⟨v, H', J.os, J.bare, J.base, J.hok, rv, q⟩
    cases fl with
    | ret u =>
      obtain ⟨v, σ', H', J, rv, q⟩ := hs
      exact fin J rv q
    | next =>
      obtain ⟨σ', H', J, q⟩ := hs
      exact fin (v := V.non) (u := Value.none) J rfl q
    | brk =>
      obtain ⟨_, _, _, q⟩ := hs
      exact False.elim q
    | cont =>
      obtain ⟨_, _, _, q⟩ := hs
      exact False.elim q
end
end Tf
end
section
set_option Elab.async false
set_option linter.all false
set_option maxRecDepth 100000
/-! Exceptions of the text, part 1: raise. -/
namespace Tf
open PySem PySem.Spec PyProof.Rows L2
section
variable {P : Program} {w : World} {K : PySem.W.Frag} {mg : PySem.Str → Option Value} {base : Heap} {fd : FuncData} {f C : Addr} {CX : CXT} {qual : PySem.Str} {params : Arguments} {scope : Scope} {k : Nat}
theorem mc_tree2 {o : Expr} {m : PySem.Str} {apos pos : Pos} {es : List Expr} {env : Env} (hs : es.all (fun e => !isStar e) = true) (hn : es.length < 30) (hl : (apos.endLine == pos.line) = true) :
    eval (.Call (.Attribute o m apos) es [] pos) env = (do
      let ov ← attributeBase o m env (eval o env)
      standAt apos.atName
      let (f, first) ← holding [ov] (getMethod ov m (do return (← importBound o env).getD true))
      callWith pos f first (backTo pos (starEach es env)) []) := by
  show (do
    let ov ← attributeBase o m env (eval o env)
    standAt apos.atName
    methodCall o m apos pos env ov (es.length + 0) (backTo pos (starEach es env)) (backToKw pos (keywordEach [] env))) = _
  have hf : methodCallForm (es.length + 0) (backTo pos (starEach es env)) (backToKw pos (keywordEach [] env)) = true := by
    unfold methodCallForm
    rw [all_star hs]
    show (true && true && decide (es.length + 0 + 0 < 30)) = true
    simpa using hn
  unfold methodCall calleeOf methodCallPos
  rw [hf]
  simp only [Bool.not_true, Bool.false_or, hl, if_true]
  rfl
/-- one argument, kept -/
def spE1 (C : Addr) (x : PySem.Str) : Sp := fun vs H Q _ => ∃ a v, vs = [.ref a, v] ∧ H a = some (exo a C none) ∧ ∀ d, H d = none → d ≠ a → Q .non (upd (upd H d (exd d [(x, v)])) a (exo a C (some d)))
/-- two -/
def spE2 (C : Addr) (x y : PySem.Str) : Sp := fun vs H Q _ => ∃ a v u, vs = [.ref a, v, u] ∧ H a = some (exo a C none) ∧ ∀ d, H d = none → d ≠ a → Q .non (upd (upd (upd H d (exd d [(x, v)])) a (exo a C (some d))) d (exd d [(y, u), (x, v)]))
/-- none -/
def spE0 (C : Addr) : Sp := fun vs H Q _ => ∃ a, vs = [.ref a] ∧ H a = some (exo a C none) ∧ Q .non H
theorem fn_ex1 {x : PySem.Str} {p0 p1 p2 p3 p4 q1 q2 q3 q4 q5 : Pos} (EI : ExcI P K C f qual params [.Expr (.Call (.Attribute (.Call (.Name "super" p0) [] [] p1) "__init__" p2) [.Name x q1] [] p3) p4, .Assign [.Attribute (.Name "self" q2) x q3] (.Name x q4) q5] scope fd)
    (S : ScopeX ["self", x] ["self", x] scope) (hp : ∃ ar, (params.posonlyargs ++ params.args).head? = some ar ∧ ar.arg = "self") (hm : mg "super" = none) (hl : (p2.endLine == p3.line) = true) (hno : PySem.W.findIn K (.ref C) x = some none) (hd : (x == ("__debug__" : PySem.Str)) = false) (hcd : (x == ("__classdict__" : PySem.Str)) = false) :
    FnOk P w K mg base CX (k + 1) f fd ["self", x] (spE1 C x) := by
  have esc : fd.scope = scope := by
    obtain ⟨oc, od, kV, doc, pm, an, cda, ct, cc, osl, cl, cld, csl, ccl, cdd, vs', ccs, file, tf, efd, _⟩ := EI.fn
    rw [efd]
  have pvx : ∀ A outer s H E, ∀ q : Pos, PE (cxS CX P w K mg base ["self", x] fd f A outer s H E) (.Name x q) (tVar 1) := fun A outer s H E q =>
    pv 1 (hN := rfl) (hv := .inl (by show fd.scope.names.lookup x = _; rw [esc]; exact S.par x (by simp))) (hd := hd) (hcd := hcd)
  have pvs : ∀ A outer s H E, ∀ q : Pos, PE (cxS CX P w K mg base ["self", x] fd f A outer s H E) (.Name "self" q) (tVar 0) := fun A outer s H E q =>
    pv 0 (hN := rfl) (hv := .inl (by show fd.scope.names.lookup ("self" : PySem.Str) = _; rw [esc]; exact S.par _ (by simp)))
  refine fn_exi (ta := tCons (tVar 1) tNil) (tr := tOst K x (tVar 0) (tVar 1)) EI S rfl hp rfl hm (fun A outer s H E => pa_cons (pvx A outer s H E q1) pa_nil) (fun A outer s H E => pss_one (ps_ost (pvs A outer s H E q2) (pvx A outer s H E q4))) (fun vs H Q hl h => ?_) (fun vs H Q E h => ?_) (fun vs H Q E h => ?_) (fun env => .inr ⟨_, _, rfl, rfl, rfl⟩) (fun env => ⟨_, mc_tree2 rfl (by simp) hl⟩)
  · match vs, hl with
    | [a, b], _ => exact ⟨b, rfl, h [b] (by simp)⟩
  · obtain ⟨a, v, e, _⟩ := h
    rw [e] <;> rfl
  · obtain ⟨a, v, e, ea, h⟩ := h
    subst e
    exact ⟨a, [v], rfl, ea, v, rfl, .ref a, rfl, a, C, rfl, EI.ox, hno, .inl ⟨ea, h⟩⟩
theorem fn_ex2 {x y : PySem.Str} {p0 p1 p2 p3 p4 q1 q2 q3 q4 q5 r1 r2 r3 r4 r5 : Pos} (EI : ExcI P K C f qual params [.Expr (.Call (.Attribute (.Call (.Name "super" p0) [] [] p1) "__init__" p2) [.Name x q1, .Name y r1] [] p3) p4, .Assign [.Attribute (.Name "self" q2) x q3] (.Name x q4) q5, .Assign [.Attribute (.Name "self" r2) y r3] (.Name y r4) r5] scope fd)
    (S : ScopeX ["self", x, y] ["self", x, y] scope) (hp : ∃ ar, (params.posonlyargs ++ params.args).head? = some ar ∧ ar.arg = "self") (hm : mg "super" = none) (hl : (p2.endLine == p3.line) = true) (hno : PySem.W.findIn K (.ref C) x = some none) (hno2 : PySem.W.findIn K (.ref C) y = some none)
    (hd : (x == ("__debug__" : PySem.Str)) = false) (hcd : (x == ("__classdict__" : PySem.Str)) = false) (hd2 : (y == ("__debug__" : PySem.Str)) = false) (hcd2 : (y == ("__classdict__" : PySem.Str)) = false) :
    FnOk P w K mg base CX (k + 1) f fd ["self", x, y] (spE2 C x y) := by
  have esc : fd.scope = scope := by
    obtain ⟨oc, od, kV, doc, pm, an, cda, ct, cc, osl, cl, cld, csl, ccl, cdd, vs', ccs, file, tf, efd, _⟩ := EI.fn
    rw [efd]
  have pvx : ∀ A outer s H E, ∀ q : Pos, PE (cxS CX P w K mg base ["self", x, y] fd f A outer s H E) (.Name x q) (tVar 1) := fun A outer s H E q =>
    pv 1 (hN := rfl) (hv := .inl (by show fd.scope.names.lookup x = _; rw [esc]; exact S.par x (by simp))) (hd := hd) (hcd := hcd)
  have pvy : ∀ A outer s H E, ∀ q : Pos, PE (cxS CX P w K mg base ["self", x, y] fd f A outer s H E) (.Name y q) (tVar 2) := fun A outer s H E q =>
    pv 2 (hN := rfl) (hv := .inl (by show fd.scope.names.lookup y = _; rw [esc]; exact S.par y (by simp))) (hd := hd2) (hcd := hcd2)
  have pvs : ∀ A outer s H E, ∀ q : Pos, PE (cxS CX P w K mg base ["self", x, y] fd f A outer s H E) (.Name "self" q) (tVar 0) := fun A outer s H E q =>
    pv 0 (hN := rfl) (hv := .inl (by show fd.scope.names.lookup ("self" : PySem.Str) = _; rw [esc]; exact S.par _ (by simp)))
  refine fn_exi (ta := tCons (tVar 1) (tCons (tVar 2) tNil)) (tr := tSeq (tOst K x (tVar 0) (tVar 1)) (tOst K y (tVar 0) (tVar 2))) EI S rfl hp rfl hm (fun A outer s H E => pa_cons (pvx A outer s H E q1) (pa_cons (pvy A outer s H E r1) pa_nil))
    (fun A outer s H E => pss_cons (ps_ost (pvs A outer s H E q2) (pvx A outer s H E q4)) (pss_one (ps_ost (pvs A outer s H E r2) (pvy A outer s H E r4)))) (fun vs H Q hl h => ?_) (fun vs H Q E h => ?_) (fun vs H Q E h => ?_) (fun env => .inr ⟨_, _, rfl, rfl, rfl⟩) (fun env => ⟨_, mc_tree2 rfl (by simp) hl⟩)
  · match vs, hl with
    | [a, b, c], _ => exact ⟨b, rfl, c, rfl, h [b, c] (by simp)⟩
  · obtain ⟨a, v, u, e, _⟩ := h
    rw [e] <;> rfl
  · obtain ⟨a, v, u, e, ea, h⟩ := h
    subst e
    refine ⟨a, [v, u], rfl, ea, v, rfl, .ref a, rfl, a, C, rfl, EI.ox, hno, .inl ⟨ea, fun d nd ne => ?_⟩⟩
    exact ⟨u, rfl, .ref a, rfl, a, C, rfl, EI.ox, hno2, .inr ⟨d, _, upd_same, (upd_ne ne).trans upd_same, by simp, h d nd ne⟩⟩
theorem fn_ex0 {p0 p1 p2 p3 p4 : Pos} (EI : ExcI P K C f qual params [.Expr (.Call (.Attribute (.Call (.Name "super" p0) [] [] p1) "__init__" p2) [] [] p3) p4] scope fd)
    (S : ScopeX ["self"] ["self"] scope) (hp : ∃ ar, (params.posonlyargs ++ params.args).head? = some ar ∧ ar.arg = "self") (hm : mg "super" = none) (hl : (p2.endLine == p3.line) = true) : FnOk P w K mg base CX (k + 1) f fd ["self"] (spE0 C) := by
  refine fn_exi (ta := tNil) (tr := tNext) EI S rfl hp rfl hm (fun A outer s H E => pa_nil) (fun A outer s H E => pss_nil) (fun vs H Q hl h => h [] (by decide)) (fun vs H Q E h => ?_) (fun vs H Q E h => ?_) (fun env => .inl rfl) (fun env => ⟨_, mc_tree2 rfl (by simp) hl⟩)
  · obtain ⟨a, e, _⟩ := h
    rw [e] <;> rfl
  · obtain ⟨a, e, ea, h⟩ := h
    subst e
    exact ⟨a, [], rfl, ea, h⟩
end
/-! ### raising -/
/-- an exception that is made: its arguments stand in its dict under the names ps -/
def XdOf (T : Tb) (F H : Hp) (ps : List PySem.Str) (xs : List D) (d : Option Addr) : Prop := ∃ vs, RDs T F xs vs ∧ vs.length = ps.length ∧ ((ps = [] ∧ d = none) ∨ ∃ dd fs, d = some dd ∧ H dd = some (.xd fs) ∧ ∀ (k : Nat) (f : PySem.Str) (v : V), ps[k]? = some f → vs[k]? = some v → fs.lookup f = some v)
/-- the relation of exceptions: xn the fields' names by class -/
def RXc (T : Tb) (xs : List Nat) (xn : Nat → List PySem.Str) : XR := fun F H x cls d => x.c ∈ xs ∧ cls = .ref (T.cA x.c) ∧ XdOf T F H (xn x.c) x.ds d
theorem PMk.imp {X : Cx} {e : Expr} {t t' : L2.St → Hp → XK → Prop} (h : PMk X e t) (k : ∀ z H Q, t' z H Q → t z H Q) : PMk X e t' := fun pins s σ H Q I q => h pins s σ H Q I (k σ H Q q)
/-- C(e, ..) for raise -/
def tXs (T : Tb) (ps : List PySem.Str) (C : Addr) (ta : TA) : L2.St → Hp → XK → Prop := fun z H Q => ta z H fun vs H1 => vs.length = ps.length ∧ ((ps = [] ∧ Q (.ref C) none H1) ∨ (ps ≠ [] ∧ ∀ d fs, H1 d = none → (∀ (k : Nat) (f : PySem.Str) (v : V), ps[k]? = some f → vs[k]? = some v → fs.lookup f = some v) → Q (.ref C) (some d) (upd H1 d (.xd fs))))
section
variable {X : Cx} {T : Tb} {RX : XR} {W : WX} {G : Prog} {cl : Call} {fI C : Addr} {k : Nat} {fd : FuncData} {e : Expr} {es : List Expr} {as : Es} {p pos : Pos} {cn : PySem.Str}
theorem pass_none (tk : Takes X W) : Passes (L2.CX X.prog X.w) X (fun _ _ _ => False) := passes_call tk fun _ _ _ _ h => h.elim
theorem del_back {H1 : Hp} {a d : Addr} {o u v : HO} (na : H1 a = none) (ne : d ≠ a) : upd (del (upd (upd H1 d o) a u) a) d v = upd H1 d v := by
  funext b
  by_cases hb : b = d
  · rw [hb, upd_same, upd_same]
  · rw [upd_ne hb, upd_ne hb]
    by_cases hba : b = a
    · rw [hba, del_same, na]
    · rw [del_ne hba, upd_ne hba, upd_ne hb]
theorem del_back2 {H1 : Hp} {a d : Addr} {o o' u v : HO} (na : H1 a = none) (ne : d ≠ a) : upd (del (upd (upd (upd H1 d o) a u) d o') a) d v = upd H1 d v := by
  funext b
  by_cases hb : b = d
  · rw [hb, upd_same, upd_same]
  · rw [upd_ne hb, upd_ne hb]
    by_cases hba : b = a
    · rw [hba, del_same, na]
    · rw [del_ne hba, upd_ne hb, upd_ne hba, upd_ne hb]
theorem pmk_x1 {x : PySem.Str} (ox : OexC X.K C) (iC : PySem.W.findIn X.K (.ref C) "__init__" = some (some (.ref fI))) (tI : PySem.W.typeIn X.K (.ref fI) = some (.type "function")) (F1 : FnOk X.prog X.w X.K X.mg X.base (L2.CX X.prog X.w) k fI fd ["self", x] (spE1 C x)) (hr : Room (k + 1) X.A)
    (hb : Binds X.K fd ["self", x] []) (tk : Takes X W) (hg : Gl X cn) (hm : X.mg cn = some (.ref C)) (hdb : (cn == ("__debug__" : PySem.Str)) = false) (ha : PA X [e] (RV T RX W (evs G cl as))) (hs : isStar e = false) : PMk X (.Call (.Name cn p) [e] [] pos) (tXs T [x] C (RV T RX W (evs G cl as))) := by
  refine PMk.imp (pmk_oex (ds := []) (dvs := []) ox iC tI F1 hr hb .nil (pass_none tk) hg hm ha hdb (star_of hs) rfl) fun z H Q q => RV.mono q fun vs H1 ⟨hl, q⟩ => ?_
  rcases q with ⟨h, _⟩ | ⟨_, q⟩
  · cases h
  match vs, hl with
  | [v], _ =>
    refine ⟨by simp, fun a na => ⟨a, v, rfl, upd_same, fun d nd ne => ⟨rfl, d, [(x, v)], upd_same, (upd_ne ne).trans upd_same, ?_, ?_⟩⟩⟩
    · rw [upd_ne ne] at nd; exact nd
    · rw [upd_ne ne] at nd
      have e2 : upd (del (upd (upd (upd H1 a (exo a C none)) d (exd d [(x, v)])) a (exo a C (some d))) a) d (.xd [(x, v)]) = upd H1 d (.xd [(x, v)]) := by
        funext b
        by_cases hb : b = d
        · rw [hb, upd_same, upd_same]
        · rw [upd_ne hb, upd_ne hb]
          by_cases hba : b = a
          · rw [hba, del_same, na]
          · rw [del_ne hba, upd_ne hba, upd_ne hb, upd_ne hba]
      rw [e2]
      refine q d [(x, v)] nd fun k f u h1 h2 => ?_
      match k, h1, h2 with
      | 0, h1, h2 =>
        cases h1; cases h2
        simp [List.lookup]
      | k + 1, h1, h2 => simp at h1
theorem pmk_x2 {x y : PySem.Str} {e2 : Expr} (hxy : x ≠ y) (ox : OexC X.K C) (iC : PySem.W.findIn X.K (.ref C) "__init__" = some (some (.ref fI))) (tI : PySem.W.typeIn X.K (.ref fI) = some (.type "function")) (F1 : FnOk X.prog X.w X.K X.mg X.base (L2.CX X.prog X.w) k fI fd ["self", x, y] (spE2 C x y)) (hr : Room (k + 1) X.A)
    (hb : Binds X.K fd ["self", x, y] []) (tk : Takes X W) (hg : Gl X cn) (hm : X.mg cn = some (.ref C)) (hdb : (cn == ("__debug__" : PySem.Str)) = false) (ha : PA X [e, e2] (RV T RX W (evs G cl as))) (hs : isStar e = false) (hs2 : isStar e2 = false) : PMk X (.Call (.Name cn p) [e, e2] [] pos) (tXs T [x, y] C (RV T RX W (evs G cl as))) := by
  refine PMk.imp (pmk_oex (ds := []) (dvs := []) ox iC tI F1 hr hb .nil (pass_none tk) hg hm ha hdb (star_of hs) (any_star (by simp [hs2]))) fun z H Q q => RV.mono q fun vs H1 ⟨hl, q⟩ => ?_
  rcases q with ⟨h, _⟩ | ⟨_, q⟩
  · cases h
  match vs, hl with
  | [v, u], _ =>
    refine ⟨by simp, fun a na => ⟨a, v, u, rfl, upd_same, fun d nd ne => ⟨rfl, d, [(y, u), (x, v)], (upd_ne (Ne.symm ne)).trans upd_same, upd_same, ?_, ?_⟩⟩⟩
    · rw [upd_ne ne] at nd; exact nd
    · rw [upd_ne ne] at nd
      have e3 : upd (del (upd (upd (upd (upd H1 a (exo a C none)) d (exd d [(x, v)])) a (exo a C (some d))) d (exd d [(y, u), (x, v)])) a) d (.xd [(y, u), (x, v)]) = upd H1 d (.xd [(y, u), (x, v)]) := by
        funext b
        by_cases hb : b = d
        · rw [hb, upd_same, upd_same]
        · rw [upd_ne hb, upd_ne hb]
          by_cases hba : b = a
          · rw [hba, del_same, na]
          · rw [del_ne hba, upd_ne hb, upd_ne hba, upd_ne hb, upd_ne hba]
      rw [e3]
      refine q d _ nd fun k f v' h1 h2 => ?_
      match k, h1, h2 with
      | 0, h1, h2 =>
        cases h1; cases h2
        have hb : (x == y) = false := by simpa using hxy
        simp [List.lookup, hb]
      | 1, h1, h2 =>
        cases h1; cases h2
        simp [List.lookup]
      | k + 2, h1, h2 => simp at h1
end
end Tf
end
section
set_option Elab.async false
set_option linter.all false
set_option maxRecDepth 100000
/-! Exceptions of the text, part 2: raise as a statement; what is read of a caught one. -/
namespace Tf
open PySem PySem.Spec PyProof.Rows L2
section
variable {X : Cx} {T : Tb} {xs : List Nat} {xn : Nat → List PySem.Str} {W : WX} {G : Prog} {cl : Call} {lm : List Nat} {z0 : L2.St} {w : Nat}
theorem XdOf.of {F H : Hp} {ps : List PySem.Str} {xs : List D} {us : List V} {d : Addr} {fs : List (PySem.Str × V)} (r : RDs T F xs us) (hl : us.length = ps.length) (e : H d = some (.xd fs)) (h : ∀ (k : Nat) (f : PySem.Str) (v : V), ps[k]? = some f → us[k]? = some v → fs.lookup f = some v) : XdOf T F H ps xs (some d) :=
  ⟨us, r, hl, .inr ⟨d, fs, rfl, e, h⟩⟩
theorem ss_raise {c : Nat} {call : Expr} {as : Es} {pos : Pos} (hx : c ∈ xs) (hc : X.calm = true) (tk : Takes X W) (pm : PMk X call (tXs T (xn c) (T.cA c) (RV T (RXc T xs xn) W (evs G cl as)))) (hn : ∀ (σ : Fr) (os : List O) (σ1 : Fr), evs G cl as σ = .ok os σ1 → os.length = (xn c).length) :
    SS T (RXc T xs xn) W lm z0 G cl w X (.Raise (some call) none pos) (.raise c as) := by
  refine impS (ps_raise hc tk pm) fun D z H ⟨P, F, σ, rel, kp, q⟩ => ?_
  have q : PostS T (RXc T xs xn) W lm z0 P F D ((evs G cl as σ).st fun os σ => .exc ⟨c, O.frzL os⟩ σ) := q
  -- the number of the arguments is known where they are
  refine ⟨P, F, σ, rel, ?_⟩
  revert q
  cases e : evs G cl as σ with
  | bad => exact fun q => q
  | exc x σ1 => exact fun q F' H' cls d s r k => q F' H' z cls d s r kp k
  | ok os σ1 =>
    intro q F1 H1 us s er
    obtain ⟨F2, s2, rel2, rd⟩ := er.frz
    have hl : us.length = (xn c).length := by rw [← hn σ os σ1 e, er.len]
    refine ⟨hl, ?_⟩
    by_cases hn : xn c = []
    · refine .inl ⟨hn, ?_⟩
      exact q F2 H1 z _ _ (s.trans s2) rel2 kp ⟨hx, rfl, us, rd, hl, .inl ⟨hn, rfl⟩⟩
    · refine .inr ⟨hn, fun d fs nd hf => ?_⟩
      exact q F2 _ z _ _ (s.trans s2) (rel2.grow (same_upd nd)) kp ⟨hx, rfl, us, rd, hl, .inr ⟨d, fs, rfl, upd_same, hf⟩⟩
end
end Tf
end
section
set_option Elab.async false
set_option linter.all false
set_option maxRecDepth 100000
/-! Exceptions of the text, part 3: the expressions of an except suite. -/
namespace Tf
open PySem PySem.Spec PyProof.Rows L2
/-- what an expression of an except suite is asked: a the caught exception, in slot i if named -/
def RHh (T : Tb) (xs : List Nat) (xn : Nat → List PySem.Str) (x : Xv) (i : Nat) (nm : Bool) (a : Addr) (cls : Value) (d : Option Addr) (m : Fr → Option D) : TE := fun z H Q =>
  ∃ P F σ y, Rel T P F H σ z ∧ RXc T xs xn F H x cls d ∧ (nm = true → z[i]? = some (some (.ref a))) ∧ m σ = some y ∧ ∀ F' H' u, Same F F' → Same H H' → Rel T P F' H' σ z → RD T F' y u → Q u H'
def RHs (T : Tb) (xs : List Nat) (xn : Nat → List PySem.Str) (x : Xv) (i : Nat) (nm : Bool) (a : Addr) (cls : Value) (d : Option Addr) (m : Fr → Option (List D)) : TA := fun z H Q =>
  ∃ P F σ ys, Rel T P F H σ z ∧ RXc T xs xn F H x cls d ∧ (nm = true → z[i]? = some (some (.ref a))) ∧ m σ = some ys ∧ ∀ F' H' us, Same F F' → Same H H' → Rel T P F' H' σ z → RDs T F' ys us → Q us H'
def HEs.len : HEs → Nat
  | .nil => 0
  | .cons _ r => HEs.len r + 1
theorem evHs_len {x : Xv} {σ : Fr} : ∀ {es : HEs} {ys : List D}, evHs x σ es = some ys → ys.length = es.len
  | .nil, ys, h => by
    have h' : some [] = some ys := by unfold evHs at h; exact h
    cases h'
    rfl
  | .cons e r, ys, h => by
    have h' : ((evH x σ e).bind fun y => (evHs x σ r).map (y :: ·)) = some ys := by unfold evHs at h; exact h
    obtain ⟨y, _, h'⟩ := Option.bind_eq_some_iff.mp h'
    obtain ⟨r', e', h'⟩ := Option.map_eq_some_iff.mp h'
    subst h'
    rw [List.length_cons, evHs_len e']
    rfl
section
variable {X : Cx} {T : Tb} {xs : List Nat} {xn : Nat → List PySem.Str} {x : Xv} {i : Nat} {nm : Bool} {a : Addr} {cls : Value} {d : Option Addr} {oe : Obj} {pn : List (Addr × Obj)}
theorem RXc.mono {F F' H H' : Hp} (h : RXc T xs xn F H x cls d) (s : Same F F') (s' : Same H H') : RXc T xs xn F' H' x cls d := by
  obtain ⟨h0, h1, vs, r, hl, h2⟩ := h
  refine ⟨h0, h1, vs, RDs.mono s r, hl, ?_⟩
  rcases h2 with h2 | ⟨dd, fs, e, e2, h2⟩
  · exact .inl h2
  · exact .inr ⟨dd, fs, e, s' _ _ e2, h2⟩
theorem hx_c {e : Expr} {u : V} {y : D} {m : Fr → Option D} (h : PE X e (tC u)) (hm : ∀ σ, m σ = some y) (r : ∀ F, RD T F y u) : PE X e (RHh T xs xn x i nm a cls d m) :=
  impE h fun z H Q ⟨P, F, σ, y', rel, rx, hn, e, q⟩ => by
    rw [hm σ] at e
    cases e
    exact q F H u (Same.refl _) (Same.refl _) rel (r F)
theorem hx_cst {y : D} {c : Const} {k : Nat} {pos : Pos} (h : ckC y c = true) : PE X (.Constant c k pos) (RHh T xs xn x i nm a cls d fun σ => evH x σ (.cst y)) := by
  have go : ∀ {v : V}, PE X (.Constant c k pos) (tC v) → (∀ F, RD T F y v) → PE X (.Constant c k pos) (RHh T xs xn x i nm a cls d fun σ => evH x σ (.cst y)) := fun {v} p r => hx_c p (fun σ => by unfold evH; rfl) r
  cases y with
  | non => cases c with
    | none => exact go pe_non fun _ => rfl
    | _ => cases h
  | bl b => cases c with
    | bool b' =>
      have e : b = b' := by simpa [ckC] using h
      subst e
      exact go pe_bl fun _ => rfl
    | _ => cases h
  | int b => cases c with
    | int b' =>
      have e : b = b' := of_decide_eq_true h
      subst e
      exact go pe_int fun _ => rfl
    | _ => cases h
  | str b => cases c with
    | str b' =>
      have e : b = b' := of_decide_eq_true h
      subst e
      exact go pe_str fun _ => rfl
    | _ => cases h
  | _ => cases c <;> cases h
/-- e.f -/
theorem hx_exf {k c : Nat} {n f : PySem.Str} {p pos : Pos} (hc : x.c = c) (hf : (xn c)[k]? = some f) (xf : XfC X.K (T.cA c)) (hno : PySem.W.findIn X.K (.ref (T.cA c)) f = some none) (hz : Zc cls d oe) (hv : ∃ vs, oe.data = .fields vs)
    (hN : X.N[i]? = some n) (hl : X.env.scope.names.lookup n = some .local) (hd : (n == ("__debug__" : PySem.Str)) = false) (hcd : (n == ("__classdict__" : PySem.Str)) = false) :
    PE (X.suite a ((a, oe) :: pn)) (.Attribute (.Name n p) f pos) (RHh T xs xn x i true a cls d fun σ => evH x σ (.exf k)) := by
  refine impE (pe_xf (a := a) xf hno hz hv (pv i (hN := hN) (hv := .inl hl) (hd := hd) (hcd := hcd))) fun z H Q ⟨P, F, σ, y, rel, rx, hn, e, q⟩ => ?_
  obtain ⟨h0, h1, vs, r, hl2, h2⟩ := rx
  have e' : x.ds[k]? = some y := by unfold evH at e; exact e
  obtain ⟨u, eu, ru⟩ := RDs.get r e'
  rw [hc] at h1 h2
  rcases h2 with ⟨h2, _⟩ | ⟨dd, fs, e1, e2, h2⟩
  · rw [h2] at hf; simp at hf
  · exact ⟨.ref a, hn rfl, rfl, h1, dd, fs, u, e1, e2, h2 k f u hf eu, q F H u (Same.refl _) (Same.refl _) rel ru⟩
theorem hx_var {j : Nat} {n : PySem.Str} {p : Pos} (hN : X.N[j]? = some n) (hl : X.env.scope.names.lookup n = some .local) (hd : (n == ("__debug__" : PySem.Str)) = false) (hcd : (n == ("__classdict__" : PySem.Str)) = false) :
    PE (X.suite a ((a, oe) :: pn)) (.Name n p) (RHh T xs xn x i nm a cls d fun σ => evH x σ (.var j)) := by
  refine impE (pv j (hN := hN) (hv := .inl hl) (hd := hd) (hcd := hcd)) fun z H Q ⟨P, F, σ, y, rel, rx, hn, e, q⟩ => ?_
  have e' : (match Fr.get σ j with | some (.own (.d y)) => some y | _ => none) = some y := by unfold evH at e; exact e
  cases g : Fr.get σ j with
  | none => rw [g] at e'; cases e'
  | some s =>
    rw [g] at e'
    cases s with
    | lent o => cases e'
    | own o =>
      cases o with
      | d y' =>
        cases e'
        obtain ⟨A, k⟩ := id rel
        obtain ⟨u, Ai, C, e2, ⟨v, ev, ro⟩, _⟩ := k.out (Fr.get_some g)
        subst ev
        exact ⟨v, e2, q F H v (Same.refl _) (Same.refl _) rel ro.2⟩
      | _ => cases e'
theorem hxs_nil : PA X [] (RHs T xs xn x i nm a cls d fun σ => evHs x σ .nil) :=
  ⟨fun pos pins s σ H Q I ⟨P, F, σ', y, rel, rx, hn, e, q⟩ => by
    have e' : y = [] := by unfold evHs at e; cases e; rfl
    subst e'
    exact pa_nil.run pos pins s σ H Q I (q F H [] (Same.refl _) (Same.refl _) rel rfl)⟩
theorem hxs_cons {e : Expr} {es : List Expr} {he : HE} {hes : HEs} (h1 : PE X e (RHh T xs xn x i nm a cls d fun σ => evH x σ he)) (h2 : PA X es (RHs T xs xn x i nm a cls d fun σ => evHs x σ hes)) (hs : isStar e = false) :
    PA X (e :: es) (RHs T xs xn x i nm a cls d fun σ => evHs x σ (.cons he hes)) := by
  refine impA (pa_cons h1 h2 (star_of hs)) fun z H Q ⟨P, F, σ, ys, rel, rx, hn, e, q⟩ => ?_
  have e' : ((evH x σ he).bind fun y => (evHs x σ hes).map (y :: ·)) = some ys := by unfold evHs at e; exact e
  obtain ⟨y, e1, e'⟩ := Option.bind_eq_some_iff.mp e'
  obtain ⟨r', e2, e'⟩ := Option.map_eq_some_iff.mp e'
  subst e'
  refine ⟨P, F, σ, y, rel, rx, hn, e1, fun F1 H1 u s1 k1 rel1 r1 => ?_⟩
  exact ⟨P, F1, σ, r', rel1, rx.mono s1 k1, hn, e2, fun F2 H2 us s2 k2 rel2 r2 => q F2 H2 (u :: us) (s1.trans s2) (k1.trans k2) rel2 ⟨u, us, rfl, RD.mono s2 r1, r2⟩⟩
theorem hx_lst {es : List Expr} {hes : HEs} {pos : Pos} (h : PA X es (RHs T xs xn x i nm a cls d fun σ => evHs x σ hes)) (hl : hes.len ≤ 1000) : PE X (.List es pos) (RHh T xs xn x i nm a cls d fun σ => evH x σ (.lst hes)) := by
  refine impE (pe_lst h) fun z H Q ⟨P, F, σ, y, rel, rx, hn, e, q⟩ => ?_
  have e' : (evHs x σ hes).map D.lst = some y := by unfold evH at e; exact e
  obtain ⟨ys, e1, e'⟩ := Option.map_eq_some_iff.mp e'
  subst e'
  refine ⟨P, F, σ, ys, rel, rx, hn, e1, fun F1 H1 us s1 k1 rel1 r1 => ?_⟩
  refine ⟨?_, fun p np => ?_⟩
  · rw [← RDs.len r1, evHs_len e1, sizeLine_eq]
    omega
  · obtain ⟨s2, rel2⟩ := rel1.newF (o := .lst us) np
    exact q _ _ _ (s1.trans s2) (k1.trans (same_upd np)) rel2 ⟨p, us, rfl, upd_same, RDs.mono s2 r1⟩
theorem hx_eq {e1 e2 : Expr} {h1 h2 : HE} {pos : Pos} (p1 : PE X e1 (RHh T xs xn x i nm a cls d fun σ => evH x σ h1)) (p2 : PE X e2 (RHh T xs xn x i nm a cls d fun σ => evH x σ h2)) : PE X (.Compare e1 [.Eq] [e2] pos) (RHh T xs xn x i nm a cls d fun σ => evH x σ (.eq h1 h2)) := by
  refine impE (pe_cmpR op_eq p1 p2 (nomark _)) fun z H Q ⟨P, F, σ, y, rel, rx, hn, e, q⟩ => ?_
  have e' : ((evH x σ h1).bind fun y => (evH x σ h2).bind fun z => (match y, z with | .int i, .int j => some (.bl (i == j)) | _, _ => none)) = some y := by unfold evH at e; exact e
  obtain ⟨y1, g1, e'⟩ := Option.bind_eq_some_iff.mp e'
  obtain ⟨y2, g2, e'⟩ := Option.bind_eq_some_iff.mp e'
  refine ⟨P, F, σ, y1, rel, rx, hn, g1, fun F1 H1 u s1 k1 rel1 r1 => ?_⟩
  refine ⟨P, F1, σ, y2, rel1, rx.mono s1 k1, hn, g2, fun F2 H2 v s2 k2 rel2 r2 => ?_⟩
  cases y1 with
  | int n => cases y2 with
    | int n2 =>
      cases e'
      cases (show u = .int n from r1)
      cases (show v = .int n2 from r2)
      refine ⟨rfl, ?_⟩
      rw [dec_int]
      exact q F2 H2 _ (s1.trans s2) (k1.trans k2) rel2 rfl
    | _ => cases e'
  | _ => cases y2 <;> cases e'
theorem hx_and1 {e1 : Expr} {t : TE} {pos : Pos} (p1 : PE X e1 t) : PE X (.BoolOp .And [e1] pos) t := pe_one p1
theorem hx_and {e1 e2 : Expr} {rest : List Expr} {h1 h2 : HE} {pos : Pos} (p1 : PE X e1 (RHh T xs xn x i nm a cls d fun σ => evH x σ h1)) (p2 : PE X (.BoolOp .And (e2 :: rest) pos) (RHh T xs xn x i nm a cls d fun σ => evH x σ h2)) :
    PE X (.BoolOp .And (e1 :: e2 :: rest) pos) (RHh T xs xn x i nm a cls d fun σ => evH x σ (.and h1 h2)) := by
  refine impE (pe_and p1 p2) fun z H Q ⟨P, F, σ, y, rel, rx, hn, e, q⟩ => ?_
  have e' : ((evH x σ h1).bind fun y => (match y with | .bl true => evH x σ h2 | .bl false => some (.bl false) | _ => none)) = some y := by unfold evH at e; exact e
  obtain ⟨y1, g1, e'⟩ := Option.bind_eq_some_iff.mp e'
  refine ⟨P, F, σ, y1, rel, rx, hn, g1, fun F1 H1 u s1 k1 rel1 r1 => ?_⟩
  cases y1 with
  | bl b =>
    cases (show u = .bl b from r1)
    refine ⟨b, rfl, ?_⟩
    cases b with
    | true => exact ⟨P, F1, σ, y, rel1, rx.mono s1 k1, hn, e', fun F2 H2 v s2 k2 => q F2 H2 v (s1.trans s2) (k1.trans k2)⟩
    | false =>
      cases e'
      exact q F1 H1 _ s1 k1 rel1 rfl
  | _ => cases e'
theorem hx_not {e1 : Expr} {h1 : HE} {pos : Pos} (p1 : PE X e1 (RHh T xs xn x i nm a cls d fun σ => evH x σ h1)) : PE X (.UnaryOp .Not e1 pos) (RHh T xs xn x i nm a cls d fun σ => evH x σ (.not h1)) := by
  refine impE (pe_notT p1) fun z H Q ⟨P, F, σ, y, rel, rx, hn, e, q⟩ => ?_
  have e' : ((evH x σ h1).bind fun y => (match y with | .bl b => some (.bl (!b)) | _ => none)) = some y := by unfold evH at e; exact e
  obtain ⟨y1, g1, e'⟩ := Option.bind_eq_some_iff.mp e'
  refine ⟨P, F, σ, y1, rel, rx, hn, g1, fun F1 H1 u s1 k1 rel1 r1 => ?_⟩
  cases y1 with
  | bl b =>
    cases e'
    cases (show u = .bl b from r1)
    exact ⟨b, rfl, q F1 H1 _ s1 k1 rel1 rfl⟩
  | _ => cases e'
theorem hx_isin {e1 b : Expr} {h1 : HE} {c : Cs} {vc : V} {p pos : Pos} (ok : TbOk X.K T) (k : IsOk X.K T c) (p1 : PE X e1 (RHh T xs xn x i nm a cls d fun σ => evH x σ h1)) (hs : isStar e1 = false) (hb : PE X b (tC vc)) (hbs : isStar b = false) (hvc : ∀ v, L2.RelV vc v → v = csV T c) (hg : Gl X "isinstance") (hm : X.mg "isinstance" = none) :
    PE X (.Call (.Name "isinstance" p) [e1, b] [] pos) (RHh T xs xn x i nm a cls d fun σ => evH x σ (.isin h1 c)) :=
  ⟨fun pins s z H Q I ⟨P, F, σ, y, rel, rx, hn, e, q⟩ => by
    have e' : ((evH x σ h1).bind fun y => (isinD y c).map D.bl) = some y := by unfold evH at e; exact e
    obtain ⟨y1, g1, e'⟩ := Option.bind_eq_some_iff.mp e'
    obtain ⟨bb, g2, e'⟩ := Option.map_eq_some_iff.mp e'
    subst e'
    refine wpAny_Call_Name_kw (ld_blt I hg hm (by decide +kernel : bootBuiltins "isinstance" = some (.builtin "isinstance")) ?_ (by decide) (by decide))
    have pa : PA X [e1, b] (tCons (RHh T xs xn x i nm a cls d fun σ => evH x σ h1) (tCons (tC vc) tNil)) := pa_cons p1 (pa_1 hb hbs) (star_of hs)
    have run := thn (pa.run pos pins s z H (fun us H1 => ∃ u F1, us = [u, vc] ∧ Rel T P F1 H1 σ z ∧ RD T F1 y1 u ∧ Q (.bl bb) H1) I ⟨P, F, σ, y1, rel, rx, hn, g1, fun F1 H1 u s1 k1 rel1 r1 => ⟨u, F1, rfl, rel1, r1, q F1 H1 _ s1 k1 rel1 rfl⟩⟩)
      (Q' := fun us s₁ => wpAny (model X.prog X.w) X.A (call (.builtin "isinstance") us) (EP X pins z Q) X.xe s₁) fun us s1 ⟨vs, H1, I1, r, u, F1, eu, rel1, r1, q1⟩ => by
        subst eu
        obtain ⟨v, w', e2, r1', r2⟩ := vals2 r
        subst e2
        rw [hvc w' r2]
        obtain ⟨A, k1⟩ := id rel1
        obtain ⟨t, ty, kt⟩ := ty_of ok k k1.fH r1 g2
        exact isinst_ok I1 r1' ty kt fun tk => ⟨.bl bb, H1, I1.tok _, rfl, q1⟩
    refine PyProof.Rows.callWith_builtin1 run (star_of hs) ?_
    rw [star_of hbs]
    rfl⟩
end
end Tf
end
section
set_option Elab.async false
set_option linter.all false
set_option maxRecDepth 100000
/-! Exceptions of the text, part 4: try. -/
namespace Tf
open PySem PySem.Spec PyProof.Rows L2
section
variable {T : Tb}
/-- a slot is forgotten -/
theorem Rel.forget {P F H : Hp} {σ : Fr} {z : L2.St} (h : Rel T P F H σ z) (i : Nat) (x : Option V) : Rel T P F H (σ.set i none) (z.set i x) := by
  obtain ⟨A, k⟩ := h
  by_cases hi : i < σ.length
  · obtain ⟨y, Ai, C, e1, k1, k2, nd, nP, nF⟩ := k.out (i := i) (s := σ[i]) (List.getElem?_eq_getElem hi)
    have k3 := RSl.free (x := x) k2 (i := i) (by rw [List.getElem?_set_self hi])
    exact ⟨C, k3, (List.nodup_append.mp nd).2.1, fun a m => nP a (List.mem_append_right _ m), fun a m => nF a (List.mem_append_right _ m), k.pH, k.fH, k.pF⟩
  · have hl := k.s.len
    rw [List.set_eq_of_length_le (by omega), List.set_eq_of_length_le (by omega)]
    exact ⟨A, k⟩
end
/-- except clauses -/
inductive HdsR (X : Cx) (T : Tb) (xs : List Nat) (xn : Nat → List PySem.Str) (lm : List Nat) : List ExceptHandler → Hs → Prop
  | nil : HdsR X T xs xn lm [] .nil
  | as {c i : Nat} {x n : PySem.Str} {np p p' : Pos} {e : Expr} {he : HE} {hds : List ExceptHandler} {r : Hs} (hc : c ∈ xs) (hn : Names X x (.ref (T.cA c))) (hN : X.N[i]? = some n) (hl : X.env.kindOf n = some .local) (hi : i ∉ lm)
      (h : ∀ (v : Xv) (a : Addr) (oe : Obj) (cls : Value) (d : Option Addr) (pn : List (Addr × Obj)), v.c = c → Zc cls d oe → (∃ vs, oe.data = .fields vs) → PE (X.suite a ((a, oe) :: pn)) e (RHh T xs xn v i true a cls d fun σ => evH v σ he))
      (hr : HdsR X T xs xn lm hds r) : HdsR X T xs xn lm (.ExceptHandler (some (.Name x np)) (some n) [.Return (some e) p] p' :: hds) (.cons c i (.ret he) r)
  | no {c i : Nat} {x : PySem.Str} {np p p' : Pos} {e : Expr} {he : HE} {hds : List ExceptHandler} {r : Hs} (hc : c ∈ xs) (hn : Names X x (.ref (T.cA c))) (hN : X.N.length ≤ i)
      (h : ∀ (v : Xv) (a : Addr) (oe : Obj) (cls : Value) (d : Option Addr) (pn : List (Addr × Obj)), v.c = c → Zc cls d oe → (∃ vs, oe.data = .fields vs) → PE (X.suite a ((a, oe) :: pn)) e (RHh T xs xn v i false a cls d fun σ => evH v σ he))
      (hr : HdsR X T xs xn lm hds r) : HdsR X T xs xn lm (.ExceptHandler (some (.Name x np)) none [.Return (some e) p] p' :: hds) (.cons c i (.ret he) r)
/-- the classes of the text's exceptions are told apart -/
def ExmOk (K : PySem.W.Frag) (T : Tb) (xs : List Nat) : Prop := ∀ c c' : Nat, c ∈ xs → c' ∈ xs → PySem.W.exmOne K (.ref (T.cA c)) (.ref (T.cA c')) = some (decide (c = c'))
/-- what the clauses wish -/
def WHs (T : Tb) (xs : List Nat) (xn : Nat → List PySem.Str) (W : WX) (lm : List Nat) (z0 : L2.St) (P : Hp) (D : Ends) (hs : Hs) : WX := fun cls d z H => ∃ F σ x, Rel T P F H σ z ∧ Keep lm z0 z ∧ RXc T xs xn F H x cls d ∧ PostS T (RXc T xs xn) W lm z0 P F D (handle x σ hs)
section
variable {X : Cx} {T : Tb} {xs : List Nat} {xn : Nat → List PySem.Str} {W : WX} {G : Prog} {cl : Call} {lm : List Nat} {z0 : L2.St} {w : Nat}
/-- in a suite's hand -/
theorem suite_ret {P F H : Hp} {σ : Fr} {z : L2.St} {D : Ends} {x : Xv} {i : Nat} {nm : Bool} {a : Addr} {cls : Value} {d : Option Addr} {oe : Obj} {pn : List (Addr × Obj)} {e : Expr} {he : HE} {p : Pos} {s : Shared}
    (h : PE (X.suite a ((a, oe) :: pn)) e (RHh T xs xn x i nm a cls d fun σ => evH x σ he)) (rel : Rel T P F H σ z) (kp : Keep lm z0 z) (rx : RXc T xs xn F H x cls d) (hn : nm = true → z[i]? = some (some (.ref a)))
    (q : PostS T (RXc T xs xn) W lm z0 P F D (optS (evH x σ he) fun y => .ret (.d y) σ)) (I : Inv (X.suite a ((a, oe) :: pn)) [] z H s) :
    wpAny (model X.prog X.w) (X.suite a ((a, oe) :: pn)).A (execs [.Return (some e) p] X.env) (SP (X.suite a ((a, oe) :: pn)) [] { nx := fun _ _ => False, rt := D.rt }) (fun _ _ => False) s := by
  obtain ⟨y, ey, q⟩ := PostS.optS q
  exact (pss_one (ps_ret h)).run [] s z H _ I ⟨P, F, σ, y, rel, rx, hn, ey, fun F' H' u s1 k1 rel1 r1 => q F' H' z u s1 ⟨rel1, r1⟩ kp⟩
/-- where a caught exception stands -/
theorem caught_at {B h : Heap} {env : Env} {outer : List Env} {a : Addr} {oe : Obj} {vs : Array Value} (ff : h.FunFrames B (env :: outer)) (he : h.get? a = some oe) (hd : oe.data = .fields vs) : a ∉ frs (env :: outer) := fun m => by
  obtain ⟨_, o, e, nf⟩ := ff.mem m
  rw [he] at e
  cases e
  exact nf _ hd
/-- one clause's suite, once its class is met; the name, if any, is stored before and goes behind -/
theorem clauses_run {P : Hp} {D : Ends} {pins : List (Addr × Obj)} (hst : X.stack = X.env :: X.outer) (hfr : X.env.frame = some X.env.locals) (hNd : X.N.Nodup) (ex : ExmOk X.K T xs) (tk : Takes X W) {a : Addr} {B : Heap} {sI s' : Shared} {z : L2.St} {H : Hp} {cls : Value} {d : Option Addr} {h3 : Heap} {F : Hp} {σ : Fr} {x : Xv}
    (J : Inv X pins z H sI) (nb : ∀ b o, sI.heap.get? b = some o → b ∉ frs X.stack → B.get? b = some o) (up : sI.heap.UpToSlots h3) (fl : HandSPX.FlyingZ B (X.env :: X.outer) a (Zc cls d) h3) (na : H a = none) (os : s'.os = sI.os) (ag : AllBare s'.gens)
    (rel : Rel T P F H σ z) (kp : Keep lm z0 z) (rx : RXc T xs xn F H x cls d) : ∀ {hds : List ExceptHandler} {hs : Hs}, HdsR X T xs xn lm hds hs → PostS T (RXc T xs xn) W lm z0 P F D (handle x σ hs) →
      wpAny (model X.prog X.w) X.A (handleBy (.ref a) X.env hds) (SP X pins D) X.xe { s' with heap := h3 } := by
  have ok := J.ok
  have land : ∀ h4 : Heap, HandSPX.FlyingZ B (X.env :: X.outer) a (Zc cls d) h4 → h3.UpToSlots h4 → Inv X pins z H { s' with heap := h4 } := fun h4 fl4 u4 => J.landed nb fl4.1 (up.trans u4) os ag
  have apart : ∀ h4 : Heap, HandSPX.FlyingZ B (X.env :: X.outer) a (Zc cls d) h4 → ∃ (oe : Obj) (vs : Array Value), h4.get? a = some oe ∧ Zc cls d oe ∧ oe.data = .fields vs ∧ a ≠ X.env.locals ∧ a ∉ X.fs := fun h4 fl4 => by
    obtain ⟨oe, vs, he, hz, hd⟩ := fl4.there
    have nf := caught_at fl4.2.2.1 he hd
    refine ⟨oe, vs, he, hz, hd, fun q => nf (List.mem_filterMap.mpr ⟨X.env, List.mem_cons_self, by rw [hfr, q]⟩), fun m => ?_⟩
    obtain ⟨e', m', q⟩ := List.mem_filterMap.mp m
    exact nf (List.mem_filterMap.mpr ⟨e', List.mem_cons_of_mem _ m', q⟩)
  have J3 := land h3 fl (Heap.UpToSlots.refl _)
  obtain ⟨oe3, vs3, he3, hz3, hd3, nL, nF⟩ := apart h3 fl
  have S3 := J3.suite he3 hd3 na nL nF
  obtain ⟨xc, hcls, _⟩ := id rx
  -- the clause's test
  have asked : ∀ {c : Nat} {nm : PySem.Str} {np : Pos} {Q : Bool → Shared → Prop} {E : Value → Shared → Prop}, c ∈ xs → Names X nm (.ref (T.cA c)) → Q (decide (x.c = c)) { s' with heap := h3 } →
      wpAny (model X.prog X.w) (X.A.mark (some (.ref a))) (eval (.Name nm np) X.env) (fun v t => wpAny (model X.prog X.w) (X.A.mark (some (.ref a))) (excMatches (.ref a) v) Q E t) E { s' with heap := h3 } := fun {c nm np Q E} hc hn hq => by
    have LT : PySem.W.Looks (model X.prog X.w) h3 (typeOf (.ref a)) (.ref (T.cA x.c)) := fun A Q E s k q => wpAny_typeOf_ref (k _ _ he3) (by rw [hz3.1, hcls]; exact q)
    have fin := (PySem.W.exm_one (M := model X.prog X.w) J3.kIn LT (ex x.c c xc hc)).here (A := X.A.mark (some (.ref a))) (Q := Q) (E := E) (s := { s' with heap := h3 }) hq
    obtain ⟨hg, hdb, hm | ⟨hm, hv, hnn⟩⟩ := hn
    · exact ld_glob (X := X.suite a ((a, oe3) :: (X.pn ++ pins))) S3 hg hm fin hdb
    · exact ld_blt (X := X.suite a ((a, oe3) :: (X.pn ++ pins))) S3 hg hm hv fin hnn hdb
  intro hds hs hk
  induction hk with
  | nil =>
    intro q
    have q : PostS T (RXc T xs xn) W lm z0 P F D (.exc x σ) := q
    refine wpAny_handleBy_nil ?_
    obtain ⟨_, _, _, oe, vs, Tr, oT, ts', he, _, hd, h1, _⟩ := id fl
    unfold PySem.passOn
    refine wpAny_bind (wpAny_field he hd h1 ?_)
    rw [if_neg (show ¬ ((Value.ref Tr == Value.none) = true) from by simp)]
    have fin : wpAny (model X.prog X.w) X.A (setFlight (.ref a) X.env.frame) (fun _ t => wpAny (model X.prog X.w) X.A (throw (.ref a) : Sem Flow) (SP X pins D) X.xe t) X.xe { s' with heap := h3 } := by
      rw [hfr]
      refine HandSPX.setFlight_upZ fl fun h4 hh4 u4 => wpAny_throw (tk _ _ ?_)
      exact ⟨a, B, sI, pins, z, H, cls, d, rfl, J, nb, up.trans u4, .inr (.inr (by rw [hst]; exact hh4)), na, os, ag, q F H z cls d (Same.refl _) rel kp rx⟩
    first
      | exact wpAny_bind (wpAny_pure (wpAny_bind fin))
      | exact wpAny_bind fin
  | @as c i nm n np p p' e he hds2 r hc hn hN hl hi h hr ih =>
    intro q
    refine wpAny_handleBy_cons (codeAny_handlers_test ?_) (by intro q; cases q)
    refine asked hc hn ?_
    have q : PostS T (RXc T xs xn) W lm z0 P F D (if x.c = c then optS (evH x (σ.put i none) he) fun y => .ret (.d y) (σ.put i none) else handle x σ r) := q
    by_cases hxc : x.c = c
    · rw [if_pos hxc] at q
      rw [decide_eq_true hxc]
      refine codeAny_handlers_suite_as ?_
      refine HandSPX.lands_againZ fl fun h4 fl4 u4 => ?_
      have J4 := land h4 fl4 u4
      obtain ⟨oe4, vs4, he4, hz4, hd4, _, _⟩ := apart h4 fl4
      have S4 := J4.suite he4 hd4 na nL nF
      refine store_ok (X := X.suite a ((a, oe4) :: (X.pn ++ pins))) (v := .ref a) S4 hNd hN (.inl hl) rfl (fun s5 S5 => ?_) (.inr hl)
      have li : i < z.length := by
        have hlen : z.length = X.N.length := J4.len
        rw [hlen]
        exact (List.getElem?_eq_some_iff.mp hN).1
      refine wpAny_mono (suite_ret (P := P) (F := F) (D := D) (h x a oe4 cls d (X.pn ++ pins) hxc hz4 ⟨_, hd4⟩) (rel.forget i _) (kp.set hi) rx (fun _ => List.getElem?_set_self li) q S5) (fun f s6 hsp => ?_) (fun _ _ z => False.elim z)
      have goes : ∀ {z6 : L2.St} {H6 : Hp} {Q : Shared → Prop}, Inv (X.suite a ((a, oe4) :: (X.pn ++ pins))) [] z6 H6 s6 → (∀ s7, Inv X pins (z6.set i none) H6 s7 → Q s7) →
          wpAny (model X.prog X.w) X.A (do bindName X.env n .none; unbindBehindTheSuite X.env n p') (fun _ s7 => Q s7) X.xe s6 := fun {z6 H6 Q} S6 hq => gone_ok (S6.unsuite ok) hNd hN hl hq
      cases f with
      | next =>
        obtain ⟨_, _, _, q6⟩ := hsp
        exact False.elim q6
      | brk =>
        obtain ⟨_, _, _, q6⟩ := hsp
        exact False.elim q6
      | cont =>
        obtain ⟨_, _, _, q6⟩ := hsp
        exact False.elim q6
      | ret u =>
        obtain ⟨v6, z6, H6, S6, r6, q6⟩ := hsp
        exact goes S6 fun s7 J7 => ⟨_, _, _, J7, r6, q6⟩
    · rw [if_neg hxc] at q
      rw [decide_eq_false hxc]
      exact ih q
  | @no c i nm np p p' e he hds2 r hc hn hN h hr ih =>
    intro q
    refine wpAny_handleBy_cons (codeAny_handlers_test ?_) (by intro q; cases q)
    refine asked hc hn ?_
    have q : PostS T (RXc T xs xn) W lm z0 P F D (if x.c = c then optS (evH x (σ.put i none) he) fun y => .ret (.d y) (σ.put i none) else handle x σ r) := q
    by_cases hxc : x.c = c
    · rw [if_pos hxc] at q
      rw [decide_eq_true hxc]
      refine codeAny_handlers_suite ?_
      refine HandSPX.lands_againZ fl fun h4 fl4 u4 => ?_
      have J4 := land h4 fl4 u4
      obtain ⟨oe4, vs4, he4, hz4, hd4, _, _⟩ := apart h4 fl4
      have S4 := J4.suite he4 hd4 na nL nF
      have li : z.length ≤ i := by
        have hlen : z.length = X.N.length := J4.len
        rw [hlen]
        exact hN
      have es : σ.put i none = σ := List.set_eq_of_length_le (by obtain ⟨A, k⟩ := rel; rw [k.s.len]; exact li)
      rw [es] at q
      refine wpAny_mono (suite_ret (P := P) (F := F) (D := D) (h x a oe4 cls d (X.pn ++ pins) hxc hz4 ⟨_, hd4⟩) rel kp rx (fun e => by cases e) q S4) (fun f s6 hsp => ?_) (fun _ _ z => False.elim z)
      cases f with
      | next =>
        obtain ⟨_, _, _, q6⟩ := hsp
        exact False.elim q6
      | brk =>
        obtain ⟨_, _, _, q6⟩ := hsp
        exact False.elim q6
      | cont =>
        obtain ⟨_, _, _, q6⟩ := hsp
        exact False.elim q6
      | ret u =>
        obtain ⟨v6, z6, H6, S6, r6, q6⟩ := hsp
        exact ⟨_, _, _, S6.unsuite ok, r6, q6⟩
    · rw [if_neg hxc] at q
      rw [decide_eq_false hxc]
      exact ih q
/-- THE RULE: try -/
theorem ss_try {hd0 : ExceptHandler} {hds : List ExceptHandler} {hs : Hs} {body : List Stmt} {Sb : Ss} {pos : Pos} (hst : X.stack = X.env :: X.outer) (hfr : X.env.frame = some X.env.locals) (hNd : X.N.Nodup) (ex : ExmOk X.K T xs) (tk : Takes X W)
    (hb : ∀ (W' : WX) (pn : List (Addr × Obj)) (xe : Value → Shared → Prop), Takes (X.tr pn xe) W' → PassesOwn (model X.prog X.w) X.A X.env xe → SSs T (RXc T xs xn) W' lm z0 G cl w (X.tr pn xe) body Sb) (hh : HdsR X T xs xn lm (hd0 :: hds) hs) :
    SS T (RXc T xs xn) W lm z0 G cl w X (.Try body (hd0 :: hds) [] [] pos) (.tryc Sb hs) := by
  refine ⟨fun pins s z H D I ⟨P, F, σ, rel, kp, q⟩ => ?_⟩
  have ok := I.ok
  have hfrm : X.A.frames = some (X.env :: X.outer) := by rw [ok.frames, hst]
  have q : PostS T (RXc T xs xn) W lm z0 P F D (match exSs G cl w Sb σ with | .exc x σ => handle x σ hs | r => r) := q
  have q' : PostS T (RXc T xs xn) (WHs T xs xn W lm z0 P D hs) lm z0 P F D (exSs G cl w Sb σ) := by
    revert q
    cases exSs G cl w Sb σ with
    | exc x σ1 => exact fun q F1 H1 z1 c d s1 rel1 kp1 rx1 => ⟨F1, σ1, x, rel1, kp1, rx1, PostS.later s1 q⟩
    | _ => exact fun q => q
  refine wpAny_Try_except ?_
  refine wpAny_mono ((hb (WHs T xs xn W lm z0 P D hs) (X.pn ++ pins) (fun e t => wpAny (model X.prog X.w) X.A (noteFrame e X.env) (fun _ t2 => wpAny (model X.prog X.w) X.A (setFlight e none) (fun _ t3 =>
    wpAny (model X.prog X.w) X.A (handleBy e X.env (hd0 :: hds)) (SP X pins D) X.xe t3) X.xe t2) X.xe t) (fun u s' caught => ?_) PassesOwn.looking).run [] s z H D (I.toTry _) ⟨P, F, σ, rel, kp, q'⟩) (fun f s1 hsp => ?_) (fun e s1 he => he)
  · obtain ⟨a, B, sI, pins', z1, H1, cls, d, rfl, J', nb, up, sky, na, os, ag, F1, σ1, x, rel1, kp1, rx1, q1⟩ := caught
    have J : Inv X pins z1 H1 sI := J'.ofTry ok
    have sky2 : Sky B (X.env :: X.outer) a (Zc cls d) X.env.locals s'.heap := hst ▸ sky
    show wpAny (model X.prog X.w) X.A (noteFrame (.ref a) X.env) _ _ _
    refine Sky.land Zc.steady hfrm hfr sky2 fun h3 fl3 up3 => ?_
    exact clauses_run hst hfr hNd ex tk J nb (up.trans up3) fl3 na os ag rel1 kp1 rx1 hh q1
  · cases f with
    | next =>
      obtain ⟨σ', H', J', q⟩ := hsp
      exact wpAny_execs_nil ⟨σ', H', J'.ofTry ok, q⟩
    | ret u =>
      obtain ⟨v, σ', H', J', r, q⟩ := hsp
      exact ⟨v, σ', H', J'.ofTry ok, r, q⟩
    | brk =>
      obtain ⟨σ', H', J', q⟩ := hsp
      exact ⟨σ', H', J'.ofTry ok, q⟩
    | cont =>
      obtain ⟨σ', H', J', q⟩ := hsp
      exact ⟨σ', H', J'.ofTry ok, q⟩
end
end Tf
end
section
set_option Elab.async false
set_option linter.all false
set_option maxRecDepth 100000
/-! bool(x), also of an own instance. -/
namespace Tf
open PySem PySem.Spec PyProof.Rows L2
section
variable {prog : Program} {w : World} {A : Around} {E : Value → Shared → Prop} {s : Shared}
theorem call_bool_by {v : Value} {Q : Value → Shared → Prop} (h : wpAny (model prog w) A.in1.in1 (truthy v) (fun b s' => Q (.bool b) s') E s) : wpAny (model prog w) A (call (.type "bool") [v]) Q E s := by
  refine callType_newIn F.called_bool F.newNe_bool (F.typeCall_bool_1 v) (F.newCall_bool_1 v) (fun obj => F.args_object_init_2 obj v) F.entry_bool_new
    (S := fun A' R t => wpAny (model prog w) A'.in1 (truthy v) (fun b t' => R (.ok (.ret (.bool b))) t') (fun e t' => R (.error e) t') t) ?_ ?_
  · intro A' R t ht
    have f1 := F.conv_sub_bool
    repeat (any_goals (first | assumption | wp_step))
    exact wpAny_mono ht (fun b t' hq => wpAny_pure hq) fun _ _ h => h
  · exact wpAny_mono h (fun b t hq => ⟨rfl, hq⟩) fun e t hq => hq
end
section
variable {T : Tb} {RX : XR} {W : WX} {X : Cx} {G : Prog} {cl : Call} {md : Md}
theorem se_boo {k : Nat} {fA : Nat → Addr} {a : Expr} {ea : E} {p pos : Pos} (hr : Room (k + 2) X.A) (tk : Takes X W) (hO : OwnUn X T RX G cl k fA m_bool "__bool__") (ha : SE T RX W G cl X a ea) (hs : isStar a = false) (hg : Gl X "bool") (hm : X.mg "bool" = none) :
    SE T RX W G cl X (.Call (.Name "bool" p) [a] [] pos) (.boo ea) :=
  SE.of (fun _ => rfl) (fun _ _ => rfl) ⟨fun pins s z H Q I ⟨P, F, σ, rel, q⟩ => by
    refine wpAny_Call_Name_kw (ld_blt I hg hm (by decide +kernel : bootBuiltins "bool" = some (.type "bool")) ?_ (by decide) (by decide))
    have pa : PA X [a] (tCons (R T RX W (ev G cl .val ea)) tNil) := pa_1 ha.v hs
    refine PyProof.Rows.callWith_type1 (thn (pa.run pos pins s z H (fun us H1 => ∃ u F1 σ1 x, us = [u] ∧ Rel T P F1 H1 σ1 z ∧ RD T F1 x u ∧ Post T RX W P z F1 Q (booV G cl x σ1)) I (R.mono (R.one rel q) fun u H1 ⟨F1, σ1, x, h⟩ => ⟨u, F1, σ1, x, rfl, h⟩))
      fun us s1 ⟨vs, H1, I1, r, u, F1, σ1, x, eu, rel1, rx, q1⟩ => ?_) (star_of hs) rfl
    subst eu
    obtain ⟨v, e1, r1⟩ := vals1 r
    subst e1
    cases x with
    | int i => exact call_bool1 pins s1 z H1 [u] [v] Q I1 r (.inl ⟨i, by rw [show u = .int i from rx], post_bl rel1 q1⟩)
    | bl b => exact call_bool1 pins s1 z H1 [u] [v] Q I1 r (.inr ⟨b, by rw [show u = .bl b from rx], post_bl rel1 q1⟩)
    | ins c fs =>
      obtain ⟨A, k1⟩ := id rel1
      obtain ⟨a, dx, gs, hc, e1, ea, rf⟩ := id rx
      subst e1
      obtain rfl : v = Value.ref a := r1
      obtain ⟨ox, od, J⟩ := inst_at I1 (k1.fH _ _ ea)
      obtain ⟨mm, hF⟩ := I1.fr
      have q2 : Post T RX W P z F1 Q ((ownCall G cl (.ins c fs) m_bool [] σ1).bind fun r σ => match r with | .d (.bl b) => .ok (.d (.bl b)) σ | _ => .bad) := q1
      cases ef : G.meth c m_bool with
      | none =>
        have e0 : ownCall G cl (.ins c fs) m_bool [] σ1 = .bad := by
          show opt (G.meth c m_bool) _ = _
          rw [ef]
          rfl
        rw [e0] at q2
        exact q2.elim
      | some f =>
        have e0 : ownCall G cl (.ins c fs) m_bool [] σ1 = after (cl f [owned (.ins c fs)]) [] σ1 := by
          show opt (G.meth c m_bool) _ = _
          rw [ef]
          rfl
        rw [e0] at q2
        obtain ⟨h1, h2, FD⟩ := hO c f hc ef
        have q3 : spD T RX cl f [.ref a] H1 (fun u H2 => ∃ b, u = .bl b ∧ Q (.bl b) H2) fun c d H' => W c d z H' := by
          refine call_ok (σ := σ1) (p := ([owned (.ins c fs)], [])) (arg_ds rel1 (xs := [.ins c fs]) ⟨_, _, rfl, rx, rfl⟩) ?_
          show Post T RX W P z F1 _ (after (cl f [owned (.ins c fs)]) [] σ1)
          revert q2
          cases after (cl f [owned (.ins c fs)]) [] σ1 with
          | bad => exact fun q => q
          | exc x σ2 => exact fun q => q
          | ok v σ2 =>
            intro q F2 H2 u2 s2 rv
            cases v with
            | d y => cases y with
              | bl b =>
                have eu : u2 = .bl b := rv.2
                exact ⟨b, eu, q F2 H2 (.bl b) s2 ⟨rv.1, rfl⟩⟩
              | _ => exact q.elim
            | _ => exact q.elim
        refine call_bool_by (PySem.W.truthy_K hF I1.ok.mod.kin J h1 h2 (wpAny_call (codeAny_mono (FD X.A.in1.in1 X.stack s1 H1 [.ref a] [.ref a] _ _ (hr.in1.in1) I1.env0.in1.in1 (.cons rfl .nil) q3) fun r s' hq => ?_)))
        cases r with
        | error e => exact tk e s' (XE.of_call I1 (fun _ _ _ h => h) hq)
        | ok fl =>
          cases fl with
          | ret u =>
            obtain ⟨v2, H2, J2, rv, b, eb, qq⟩ := I1.after hq
            subst eb
            obtain rfl : u = Value.bool b := rv
            exact ⟨.bl b, H2, J2, rfl, qq⟩
          | next => exact False.elim hq
          | brk => exact False.elim hq
          | cont => exact False.elim hq
    | _ => exact (show False from q1).elim⟩
end
end Tf
end
section
set_option Elab.async false
set_option linter.all false
set_option maxRecDepth 100000
/-! Texts: methods, f-strings, str(x); max and min of two; a list turned round. -/
namespace Tf
open PySem PySem.Spec PyProof.Rows L2
section
variable {T : Tb} {RX : XR} {W : WX} {X : Cx} {G : Prog} {cl : Call} {md : Md}
theorem txt_of {v : Val} {s : Str} (e : txtV v = some s) : v = .d (.str s) := by
  cases v with
  | d x => cases x with
    | str t => cases (Option.some.inj (show some t = some s from e)); rfl
    | _ => cases e
  | _ => cases e
theorem strs_rd {F : Hp} : ∀ {xs : List D} {us : List V} {ys : List Str}, RDs T F xs us → D.strs xs = some ys → us = ys.map V.str
  | [], _, _, r, e => by
    cases (Option.some.inj e)
    exact r
  | x :: xs, _, ys, r, e => by
    obtain ⟨v, s, eu, r1, r2⟩ := r
    subst eu
    cases x with
    | str t =>
      obtain ⟨zs, ez, e⟩ := Option.map_eq_some_iff.mp (show (D.strs xs).map (t :: ·) = some ys from e)
      subst e
      rw [strs_rd r2 ez, show v = .str t from r1] <;> rfl
    | _ => cases e
theorem rd_strs {F : Hp} : ∀ ys : List Str, RDs T F (ys.map D.str) (ys.map V.str)
  | [] => rfl
  | y :: ys => ⟨_, _, rfl, rfl, rd_strs ys⟩
/-- a text's method: behind both -/
theorem bm_two {ea eb : E} {m : Bm} {P F H : Hp} {σ : Fr} {z : L2.St} {Q : VK} {r : V → List V → Hp → VK → Prop} (rel : Rel T P F H σ z)
    (q : Post T RX W P z F Q ((ev G cl .val ea σ).bind fun v σ => opt (txtV v) fun x => (ev G cl .val eb σ).bind fun u σ => opt (toD u) fun y => opt (bmV m x y) fun z => .ok (.d z) σ))
    (k : ∀ P F H σ s y d u, Rel T P F H σ z → RD T F y u → bmV m s y = some d → Post T RX W P z F Q (.ok (.d d) σ) → r (.str s) [u] H Q) :
    tM1 r (R T RX W (ev G cl .val ea)) (R T RX W (ev G cl .val eb)) z H Q := by
  refine R.mono (R.bind rel q) fun u1 H1 ⟨F1, σ1, v, s1, rv, q1⟩ => ?_
  obtain ⟨s, es, q1⟩ := Post.opt q1
  have ev := txt_of es
  subst ev
  refine ⟨⟨s, rv.2⟩, ?_⟩
  rw [show u1 = .str s from rv.2]
  refine R.mono (R.one rv.1 q1) fun u2 H2 ⟨F2, σ2, y, rel2, ry, q2⟩ => ?_
  obtain ⟨d, ed, q2⟩ := Post.opt q2
  exact k P F2 H2 σ2 s y d u2 rel2 ry ed q2
theorem se_split {a b : Expr} {ea eb : E} {apos pos : Pos} (ha : SE T RX W G cl X a ea) (hb : SE T RX W G cl X b eb) (hs : isStar b = false) (hbase : attributeBase a "split" X.env (eval a X.env) = eval a X.env) (hl : (apos.endLine == pos.line) = true) :
    SE T RX W G cl X (.Call (.Attribute a "split" apos) [b] [] pos) (.bm ea .split eb) :=
  SE.of (fun _ => rfl) (fun _ _ => rfl) (impE (pe_split ha.v hb.v (star_of hs) hbase hl) fun z H Q ⟨P, F, σ, rel, q⟩ => bm_two rel q fun P F H σ s y d u rel ry e q => by
    cases y with
    | str t =>
      obtain ⟨hz, e⟩ := ite_some' (show (if 0 < t.length ∧ s.length + 2 ≤ lineN then some (D.lst ((PySem.Txt.split s t).map D.str)) else none) = some d from e)
      cases (Option.some.inj e)
      refine ⟨s, t, rfl, by rw [show u = .str t from ry], ?_, hz.2, fun p np => post_lst rel (rd_strs _) np q⟩
      have := hz.1
      cases h : t.length == 0 with
      | false => rfl
      | true => exact absurd (eq_of_beq h) (by omega)
    | _ => cases e)
theorem se_join {a b : Expr} {ea eb : E} {apos pos : Pos} (ha : SE T RX W G cl X a ea) (hb : SE T RX W G cl X b eb) (hs : isStar b = false) (hbase : attributeBase a "join" X.env (eval a X.env) = eval a X.env) (hl : (apos.endLine == pos.line) = true) :
    SE T RX W G cl X (.Call (.Attribute a "join" apos) [b] [] pos) (.bm ea .join eb) :=
  SE.of (fun _ => rfl) (fun _ _ => rfl) (impE (pe_join ha.v hb.v (star_of hs) hbase hl) fun z H Q ⟨P, F, σ, rel, q⟩ => bm_two rel q fun P F H σ s y d u rel ry e q => by
    cases y with
    | lst xs =>
      obtain ⟨ys, ey, e⟩ := Option.bind_eq_some_iff.mp (show ((D.strs xs).bind fun ys => if (ys.map (·.length)).sum + ys.length * s.length ≤ lineN then some (D.str (PySem.Txt.join s ys)) else none) = some d from e)
      obtain ⟨hz, e⟩ := ite_some' e
      cases (Option.some.inj e)
      obtain ⟨A, kk⟩ := id rel
      obtain ⟨p, us, eu, ep, rs⟩ := ry
      rw [strs_rd rs ey] at ep
      exact ⟨s, p, ys, rfl, by rw [eu], .inl (.of (kk.fH _ _ ep)), hz, post_str rel q⟩
    | _ => cases e)
/-! f-strings -/
theorem fmt_te {x : D} {y : Str} {F : Hp} {u : V} {H : Hp} {Q : VK} (r : RD T F x u) (e : fmtD x = some y) (q : Q (.str y) H) : (∃ y : Str, u = .str y ∧ y.length ≤ sizeLine ∧ Q (.str y) H) ∨ ∃ i : Int, u = .int i ∧ i.natAbs.log2 < 1920 ∧ Q (.str (toString i)) H := by
  cases x with
  | int i =>
    obtain ⟨hz, e⟩ := ite_some' (show (if i.natAbs.log2 < 1920 then some (PySem.Str.ofString (toString i)) else none) = some y from e)
    cases (Option.some.inj e)
    exact .inr ⟨i, r, hz, q⟩
  | str t =>
    obtain ⟨hz, e⟩ := ite_some' (show (if t.length ≤ lineN then some t else none) = some y from e)
    cases (Option.some.inj e)
    exact .inl ⟨_, r, hz, q⟩
  | _ => cases e
theorem emp_app (y : Str) : (PySem.Str.empty : Str) ++ y = y := by
  obtain ⟨⟨l⟩⟩ := y
  show PySem.Str.mk (#[] ++ _) = _
  simp
theorem fmt_in {m : Fr → Res Val} {z : L2.St} {H : Hp} {Q : VK} (h : R T RX W m z H fun u H1 => ∃ F x y, RD T F x u ∧ fmtD x = some y ∧ Q (.str y) H1) : tFmt (R T RX W m) z H Q := R.mono h fun u H1 ⟨F, x, y, r, e, q⟩ => fmt_te r e q
theorem se_fmt {a b : Expr} {ea eb : E} {s : Str} {j : Nat} {p1 p2 p3 pos : Pos} (ha : SE T RX W G cl X a ea) (hb : SE T RX W G cl X b eb) :
    SE T RX W G cl X (.JoinedStr [.FormattedValue a (-1) none p1, .Constant (.str s) j p2, .FormattedValue b (-1) none p3] pos) (.fmt ea s eb) :=
  SE.of (fun _ => rfl) (fun _ _ => rfl) (impE (pe_joined (.cons (pe_fmt ha.v) (.cons pe_str (.cons (pe_fmt hb.v) .nil)))) fun z H Q ⟨P, F, σ, rel, q⟩ => by
    show tFmt (R T RX W (ev G cl .val ea)) z H (fun x H1 => ∃ y : Str, x = .str y ∧ ((PySem.Str.empty : Str) ++ y).length ≤ sizeLine ∧ tJs [tC (.str s), tFmt (R T RX W (ev G cl .val eb))] ((PySem.Str.empty : Str) ++ y) z H1 fun out H1 => Q (.str out) H1)
    refine fmt_in (R.mono (R.one rel q) fun u1 H1 ⟨F1, σ1, x, rel1, rx, q1⟩ => ?_)
    obtain ⟨p, ep, q1⟩ := Post.opt q1
    obtain ⟨y, ey, ep⟩ := Option.bind_eq_some_iff.mp (show ((fmtD x).bind fun a => if a.length ≤ lineN ∧ (a ++ s).length ≤ lineN then some (a ++ s) else none) = some p from ep)
    obtain ⟨hz, ep⟩ := ite_some' ep
    cases (Option.some.inj ep)
    refine ⟨F1, x, y, rx, ey, y, rfl, by rw [emp_app]; exact hz.1, s, rfl, by rw [emp_app]; exact hz.2, ?_⟩
    rw [emp_app]
    show tFmt (R T RX W (ev G cl .val eb)) z H1 (fun x H2 => ∃ t : Str, x = .str t ∧ (y ++ s ++ t).length ≤ sizeLine ∧ tJs [] (y ++ s ++ t) z H2 fun out H1 => Q (.str out) H1)
    refine fmt_in (R.mono (R.one rel1 q1) fun u2 H2 ⟨F2, σ2, w, rel2, rw', q2⟩ => ?_)
    obtain ⟨d, ed, q2⟩ := Post.opt q2
    obtain ⟨t, et, ed⟩ := Option.bind_eq_some_iff.mp (show ((fmtD w).bind fun b => if (y ++ s ++ b).length ≤ lineN then some (D.str (y ++ s ++ b)) else none) = some d from ed)
    obtain ⟨hz2, ed⟩ := ite_some' ed
    cases (Option.some.inj ed)
    exact ⟨F2, w, t, rw', et, t, rfl, hz2, post_str rel2 q2⟩)
/-! max, min -/
theorem se_mxm {mx : Bool} {a b : Expr} {ea eb : E} {p pos : Pos} {f : Str} (hc : X.calm = true) (ha : SE T RX W G cl X a ea) (hb : SE T RX W G cl X b eb) (hs : isStar a = false) (hsb : isStar b = false) (hf : f = if mx then "max" else "min") (hg : Gl X f) (hm : X.mg f = none) :
    SE T RX W G cl X (.Call (.Name f p) [a, b] [] pos) (.mxm mx ea eb) :=
  SE.of (fun _ => rfl) (fun _ _ => rfl) (by
    have pa : PA X [a, b] (tCons (R T RX W (ev G cl .val ea)) (tCons (R T RX W (ev G cl .val eb)) tNil)) := pa_cons ha.v (pa_1 hb.v hsb) (star_of hs)
    have hpl : (backTo pos (starEach [b] X.env)).any (·.1) = false := by rw [star_of hsb]; rfl
    cases mx with
    | true =>
      subst hf
      refine impE (pe_callB (call_max2 hc) hg hm (by decide +kernel) pa (by decide) (by decide) (star_of hs) hpl) fun z H Q ⟨P, F, σ, rel, q⟩ => ?_
      refine R.mono (R.two rel q) fun u1 H1 h => R.mono h fun u2 H2 ⟨F2, σ2, x, y, rel2, rx, ry, q2⟩ => ?_
      obtain ⟨d, ed, q2⟩ := Post.opt q2
      cases x with
      | int i => cases y with
        | int j =>
          cases (Option.some.inj (show some (D.int (if j > i then j else i)) = some d from ed))
          exact ⟨i, j, by rw [show u1 = .int i from rx, show u2 = .int j from ry], post_int rel2 q2⟩
        | _ => cases ed
      | _ => cases ed
    | false =>
      subst hf
      refine impE (pe_callB (call_min2 hc) hg hm (by decide +kernel) pa (by decide) (by decide) (star_of hs) hpl) fun z H Q ⟨P, F, σ, rel, q⟩ => ?_
      refine R.mono (R.two rel q) fun u1 H1 h => R.mono h fun u2 H2 ⟨F2, σ2, x, y, rel2, rx, ry, q2⟩ => ?_
      obtain ⟨d, ed, q2⟩ := Post.opt q2
      cases x with
      | int i => cases y with
        | int j =>
          cases (Option.some.inj (show some (D.int (if j < i then j else i)) = some d from ed))
          exact ⟨i, j, by rw [show u1 = .int i from rx, show u2 = .int j from ry], post_int rel2 q2⟩
        | _ => cases ed
      | _ => cases ed)
/-! xs[::-1] -/
theorem pick_rev (its : List Value) : slicePick its.toArray none none (some (-1)) = its.reverse.toArray := by
  unfold slicePick
  congr 1
  have e1 : sliceBounds none none (some (-1)) its.toArray.size = ((its.length : Int) - 1, -1, -1) := by
    show ((if (-1 : Int) > 0 then (0 : Int) else (its.toArray.size : Int) - 1), (if (-1 : Int) > 0 then (its.toArray.size : Int) else -1), (-1 : Int)) = _
    simp
  rw [e1]
  have e2 : sliceRange ((its.length : Int) - 1) (-1) (-1) = (List.range its.length).reverse := by
    unfold sliceRange
    have c : (if (-1 : Int) > 0 then (if (its.length : Int) - 1 < -1 then (-1 - ((its.length : Int) - 1) + -1 - 1) / -1 else 0) else (if (its.length : Int) - 1 > -1 then ((its.length : Int) - 1 - -1 - -1 - 1) / (- -1) else 0)) = (its.length : Int) := by
      rw [if_neg (by decide), show (- -1 : Int) = 1 from rfl, Int.ediv_one]
      split <;> omega
    rw [c]
    apply List.ext_getElem
    · simp
    · intro i h1 h2
      simp at h1
      simp
      omega
  show List.filterMap (its.toArray[·]?) (sliceRange ((its.length : Int) - 1) (-1) (-1)) = its.reverse
  rw [e2, List.filterMap_reverse]
  congr 1
  have := pick_run its.toArray 0 its.length
  simpa using this
theorem se_rev {a : Expr} {ea : E} {j : Nat} {p0 p1 p2 pos : Pos} (ha : SE T RX W G cl X a ea) : SE T RX W G cl X (.Subscript a (.Slice none none (some (.UnaryOp .USub (.Constant (.int 1) j p0) p1)) p2) pos) (.rev ea) :=
  SE.of (fun _ => rfl) (fun _ _ => rfl) ⟨fun pins s z H Q I ⟨P, F, σ, rel, q⟩ => by
    refine Subscript_ (thn (ha.v.run pins s z H _ I (R.one rel q)) fun v s1 ⟨u, H1, I1, r1, F1, σ1, x, rel1, rx, q1⟩ => ?_)
    obtain ⟨d, ed, q1⟩ := Post.opt q1
    cases x with
    | lst xs =>
      cases (Option.some.inj (show some (D.lst xs.reverse) = some d from ed))
      obtain ⟨A, kk⟩ := id rel1
      obtain ⟨l, us, eu, el, rs⟩ := rx
      subst eu
      obtain rfl : v = Value.ref l := r1
      refine wpAny_Slice ?_
      rw [evalPart_none]
      refine wpAny_pure ?_
      refine wpAny_pure ?_
      rw [evalPart_some]
      have pn : PE X (.UnaryOp .USub (.Constant (.int 1) j p0) p1) (tC (.int (-1))) := ⟨fun pins s σ H Q I h => UnaryOp_ (thn (pe_int.run pins s σ H (fun u H1 => u = .int 1 ∧ Q (.int (-1)) H1) I ⟨rfl, h⟩) fun v s1 ⟨u, H1, I1, ru, eu, qq⟩ => un_neg pins s1 σ H1 u v Q I1 ru ⟨1, eu, qq⟩)⟩
      refine thn (pn.run pins s1 z H1 (fun u H2 => u = .int (-1) ∧ H2 = H1) I1 ⟨rfl, rfl⟩) fun vs s2 ⟨u, H2, I2, ru, eu, eH⟩ => ?_
      subst eu eH
      obtain ⟨t, rfl⟩ := ru
      have I4 : Inv X pins z H2 { s2 with heap := s2.heap.push { cls := .type "slice", data := .fields #[.none, .none, .int (-1) t] } } := I2.kept (t' := s2.toks) fun b ob q => Heap.get?_push_of_some _ q
      obtain ⟨its, r, ht, hz⟩ := I4.list (show SqL X.K H2 l us from .of (kk.fH _ _ el))
      show wpAny (model X.prog X.w) X.A (subscriptTail a _ (.ref l) (.ref s2.heap.objs.size)) (EP X pins z Q) X.xe { s2 with heap := s2.heap.push { cls := .type "slice", data := .fields #[.none, .none, .int (-1) t] } }
      refine tail_any (ops := [.ref l, .ref s2.heap.objs.size]) ht.isList.typeIs slot_list_getitem.lookup ?_ (by with_unfolding_all rfl)
      have hlen := r.length
      refine wpAny_getItem_list_slice ht.isList (Heap.IsSliceOf.new ..) .none .none (.int (-1) t) (by decide) ?_ (by rw [List.size_toArray] <;> omega)
      rw [pick_rev]
      have rr : RDs T F1 xs.reverse us.reverse := by
        have key : ∀ {xs : List D} {us : List V}, RDs T F1 xs us → RDs T F1 xs.reverse us.reverse := by
          intro xs
          induction xs with
          | nil => intro us r; rw [show us = [] from r]; exact rfl
          | cons x xs ih =>
            intro us r
            obtain ⟨v, r', eu, r1, r2⟩ := r
            subst eu
            rw [List.reverse_cons, List.reverse_cons]
            exact (ih r2).append ⟨v, [], rfl, r1, rfl⟩
        exact key rs
      refine ⟨.ref _, _, I4.laid (t' := s2.toks) (o := .lst us.reverse) (fun b ob q => Heap.get?_push_of_some _ q) (Nat.le_refl _) ?_, rfl, post_lst rel1 rr (I4.hok.fresh (Nat.le_refl _)) q1⟩
      have vr : Vals us.reverse its.reverse := by
        have key : ∀ {us : List V} {its : List Value}, Vals us its → Vals us.reverse its.reverse := by
          intro us its h
          induction h with
          | nil => exact .nil
          | cons r _ ih =>
            rw [List.reverse_cons, List.reverse_cons]
            exact ih.append (.cons r .nil)
        exact key r
      exact ⟨by rw [List.length_reverse, hlen]; omega, _, 0, vr, Heap.get?_push_size _ rfl⟩
    | _ => cases ed⟩
/-! str(x) -/
theorem se_sto {k : Nat} {fA : Nat → Addr} {a : Expr} {ea : E} {p pos : Pos} (hr : Room (k + 2) X.A) (tk : Takes X W) (hO : OwnUn X T RX G cl k fA m_str "__str__") (ha : SE T RX W G cl X a ea) (hs : isStar a = false) (hg : Gl X "str") (hm : X.mg "str" = none) :
    SE T RX W G cl X (.Call (.Name "str" p) [a] [] pos) (.sto ea) :=
  SE.of (fun _ => rfl) (fun _ _ => rfl) ⟨fun pins s z H Q I ⟨P, F, σ, rel, q⟩ => by
    refine wpAny_Call_Name_kw (ld_blt I hg hm (by decide +kernel : bootBuiltins "str" = some (.type "str")) ?_ (by decide) (by decide))
    have pa : PA X [a] (tCons (R T RX W (ev G cl .val ea)) tNil) := pa_1 ha.v hs
    refine PyProof.Rows.callWith_type1 (thn (pa.run pos pins s z H (fun us H1 => ∃ u F1 σ1 x, us = [u] ∧ Rel T P F1 H1 σ1 z ∧ RD T F1 x u ∧ Post T RX W P z F1 Q (stoV G cl x σ1)) I (R.mono (R.one rel q) fun u H1 ⟨F1, σ1, x, h⟩ => ⟨u, F1, σ1, x, rfl, h⟩))
      fun us s1 ⟨vs, H1, I1, r, u, F1, σ1, x, eu, rel1, rx, q1⟩ => ?_) (star_of hs) rfl
    subst eu
    obtain ⟨v, e1, r1⟩ := vals1 r
    subst e1
    cases x with
    | int i =>
      obtain ⟨d, ed, q1⟩ := Post.opt (show Post T RX W P z F1 Q (opt (biV .str (.d (.int i))) fun y => .ok (.d y) σ1) from q1)
      exact bi_str pins s1 P F1 H1 σ1 z (.d (.int i)) u v d Q I1 r1 ⟨rel1, rx⟩ ed q1
    | str i =>
      obtain ⟨d, ed, q1⟩ := Post.opt (show Post T RX W P z F1 Q (opt (biV .str (.d (.str i))) fun y => .ok (.d y) σ1) from q1)
      exact bi_str pins s1 P F1 H1 σ1 z (.d (.str i)) u v d Q I1 r1 ⟨rel1, rx⟩ ed q1
    | ins c fs =>
      obtain ⟨A, k1⟩ := id rel1
      obtain ⟨a, dx, gs, hc, e1, ea, rf⟩ := id rx
      subst e1
      obtain rfl : v = Value.ref a := r1
      obtain ⟨ox, od, J⟩ := inst_at I1 (k1.fH _ _ ea)
      have q2 : Post T RX W P z F1 Q ((ownCall G cl (.ins c fs) m_str [] σ1).bind fun r σ => match r with | .d (.str b) => .ok (.d (.str b)) σ | _ => .bad) := q1
      cases ef : G.meth c m_str with
      | none =>
        have e0 : ownCall G cl (.ins c fs) m_str [] σ1 = .bad := by
          show opt (G.meth c m_str) _ = _
          rw [ef]
          rfl
        rw [e0] at q2
        exact q2.elim
      | some f =>
        have e0 : ownCall G cl (.ins c fs) m_str [] σ1 = after (cl f [owned (.ins c fs)]) [] σ1 := by
          show opt (G.meth c m_str) _ = _
          rw [ef]
          rfl
        rw [e0] at q2
        obtain ⟨h1, h2, FD⟩ := hO c f hc ef
        have q3 : spD T RX cl f [.ref a] H1 (fun u H2 => ∃ b, u = .str b ∧ Q (.str b) H2) fun c d H' => W c d z H' := by
          refine call_ok (σ := σ1) (p := ([owned (.ins c fs)], [])) (arg_ds rel1 (xs := [.ins c fs]) ⟨_, _, rfl, rx, rfl⟩) ?_
          show Post T RX W P z F1 _ (after (cl f [owned (.ins c fs)]) [] σ1)
          revert q2
          cases after (cl f [owned (.ins c fs)]) [] σ1 with
          | bad => exact fun q => q
          | exc x σ2 => exact fun q => q
          | ok v σ2 =>
            intro q F2 H2 u2 s2 rv
            cases v with
            | d y => cases y with
              | str b =>
                have eu : u2 = .str b := rv.2
                exact ⟨b, eu, q F2 H2 (.str b) s2 ⟨rv.1, rfl⟩⟩
              | _ => exact q.elim
            | _ => exact q.elim
        refine PySem.W.kso_call hr.in1.in1.units0 I1.kIn J h1 h2 (wpAny_call (codeAny_mono (FD X.A.in1.in1 X.stack s1 H1 [.ref a] [.ref a] _ _ (hr.in1.in1) I1.env0.in1.in1 (.cons rfl .nil) q3) fun r s' hq => ?_))
        cases r with
        | error e => exact tk e s' (XE.of_call I1 (fun _ _ _ h => h) hq)
        | ok fl =>
          cases fl with
          | ret u =>
            obtain ⟨v2, H2, J2, rv, b, eb, qq⟩ := I1.after hq
            subst eb
            obtain ⟨t, rfl⟩ := rv
            exact ⟨.str b, H2, J2, ⟨t, rfl⟩, qq⟩
          | next => exact False.elim hq
          | brk => exact False.elim hq
          | cont => exact False.elim hq
    | _ => exact (show False from q1).elim⟩
/-! names of the text that mean a text or a number -/
theorem se_gloS {x z : Str} {pos : Pos} (hg : Gl X x) (hm : ∃ t, X.mg x = some (.str z t)) (hd : (x == ("__debug__" : PySem.Str)) = false) : SE T RX W G cl X (.Name x pos) (.cst (.str z)) := by
  obtain ⟨t, e⟩ := hm
  exact se_data (fun _ => rfl) (fun _ _ => rfl) (pe_glob (v := .str z) hg e ⟨t, rfl⟩ hd) fun _ => rfl
theorem se_gloI {x : Str} {i : Int} {pos : Pos} (hg : Gl X x) (hm : ∃ t, X.mg x = some (.int i t)) (hd : (x == ("__debug__" : PySem.Str)) = false) : SE T RX W G cl X (.Name x pos) (.cst (.int i)) := by
  obtain ⟨t, e⟩ := hm
  exact se_data (fun _ => rfl) (fun _ _ => rfl) (pe_glob (v := .int i) hg e ⟨t, rfl⟩ hd) fun _ => rfl
end
end Tf
end
section
set_option Elab.async false
set_option linter.all false
set_option maxRecDepth 100000
/-! The text's names, what is looked at behind the top. -/
namespace Tf
open PySem PySem.Spec PyProof.Rows L2
/-- where a def stands -/
inductive At where
  | glo (x : PySem.Str) | met (C m : PySem.Str) | cm (C m : PySem.Str)
  deriving DecidableEq
def recFst (K : PySem.W.Frag) (p : Addr) : Addr := match PySem.W.recIn K p "classmethod" with
  | some (.ref g :: _) => g
  | _ => 0
def At.a (K : PySem.W.Frag) : At → Addr
  | .glo x => He.ga K x
  | .met C m => He.ma K (He.ga K C) m
  | .cm C m => recFst K (He.ma K (He.ga K C) m)
def stNo : Stmt := .Pass ⟨0, 0, 0, 0⟩
def inCls (s : Stmt) : List Stmt := match s with
  | .ClassDef (body := z) .. => z
  | _ => []
/-- a def of the text: where it stands, its statement, its names -/
structure Fd where
  at_ : At
  name : PySem.Str
  qual : PySem.Str
  st : Stmt
/-- the names of a text -/
structure Nm where
  cn : List PySem.Str
  nc : Nat
  fld : List PySem.Str
  mn : List PySem.Str
  fds : List Fd
  /-- exception classes: the number, the def of __init__, its fields -/
  xcs : List (Nat × Fd × List PySem.Str)
  free : List PySem.Str
  glo : List (PySem.Str × D)
def Nm.c (N : Nm) (c : Nat) : PySem.Str := N.cn.getD c "?"
def Nm.T (N : Nm) (K : PySem.W.Frag) : Tb := { cA := fun c => He.ga K (N.c c), fN := fun f => N.fld.getD f "?", nc := N.nc, nf := N.fld.length }
def Nm.fA (N : Nm) (K : PySem.W.Frag) (f : Nat) : Addr := match N.fds[f]? with
  | some d => d.at_.a K
  | none => 0
def Nm.xs (N : Nm) : List Nat := N.xcs.map (·.1)
def Nm.xn (N : Nm) (c : Nat) : List PySem.Str := match N.xcs.lookup c with
  | some p => p.2
  | none => []
/-! ### what is looked at -/
def tyB (K : PySem.W.Frag) (C : Addr) : Bool := He.eqO (PySem.W.findIn K (.ref C) "__class__") (some (some (.builtin "object.__class__"))) && (He.eqO (PySem.W.specialIn K (.builtin "object.__class__") "__get__") (some (some (.builtin "getset_descriptor.__get__"))) &&
  (decide (PySem.W.takesIn K (.builtin "object.__class__") = some true) && decide (PySem.W.mroIn K C (.type "object") = some true)))
theorem tyB_ok {K : PySem.W.Frag} {C : Addr} (h : tyB K C = true) : TyC K C := by
  obtain ⟨h1, h⟩ := He.ba h
  obtain ⟨h2, h⟩ := He.ba h
  obtain ⟨h3, h4⟩ := He.ba h
  exact ⟨He.eqO_ok h1, He.eqO_ok h2, of_decide_eq_true h3, of_decide_eq_true h4⟩
/-- one of each shape -/
def reps (n : Nat) : List D := [.non, .bl true, .int 0, .str "", .tup [], .lst [], .scr []] ++ (List.range n).map fun c => .ins c []
def kitB (K : PySem.W.Frag) (T : Tb) (c : Cs) : Bool := (reps T.nc).all fun x => match tyD T x, isinD x c with
  | some t, some b => decide (PySem.W.kitOne K t (csV T c) = some b)
  | _, _ => true
theorem rep_of {T : Tb} {x : D} (h : DVal T x) (t : Value) (e : tyD T x = some t) : ∃ r, r ∈ reps T.nc ∧ tyD T r = some t ∧ ∀ c, isinD r c = isinD x c := by
  cases x with
  | non => exact ⟨.non, by simp [reps], e, fun c => rfl⟩
  | bl b => exact ⟨.bl true, by simp [reps], e, fun c => by cases c <;> rfl⟩
  | int b => exact ⟨.int 0, by simp [reps], e, fun c => by cases c <;> rfl⟩
  | str b => exact ⟨.str "", by simp [reps], e, fun c => by cases c <;> rfl⟩
  | tup b => exact ⟨.tup [], by simp [reps], e, fun c => by cases c <;> rfl⟩
  | lst b => exact ⟨.lst [], by simp [reps], e, fun c => by cases c <;> rfl⟩
  | scr b => exact ⟨.scr [], by simp [reps], e, fun c => by cases c <;> rfl⟩
  | ins c fs =>
    have hc : c < T.nc := h
    refine ⟨.ins c [], ?_, e, fun k => by cases k <;> rfl⟩
    unfold reps
    exact List.mem_append_right _ (List.mem_map.mpr ⟨c, List.mem_range.mpr hc, rfl⟩)
  | _ => cases e
theorem kitB_ok {K : PySem.W.Frag} {T : Tb} {c : Cs} (h : kitB K T c = true) (hty : ∀ k, k < T.nc → TyC K (T.cA k)) : IsOk K T c := by
  refine ⟨hty, fun x t b hv et eb => ?_⟩
  obtain ⟨r, hr, er, ei⟩ := rep_of hv t et
  have q := List.all_eq_true.mp h r hr
  rw [← ei c] at eb
  rw [er, eb] at q
  exact of_decide_eq_true q
def nfB (K : PySem.W.Frag) (T : Tb) (C : Addr) : Bool := (reps T.nc).all fun x => match tyD T x with
  | some t => PySem.W.notFirst K C t
  | none => true
theorem nfB_ok {K : PySem.W.Frag} {T : Tb} {C : Addr} (h : nfB K T C = true) (y : D) (t : Value) (hv : DVal T y) (e : tyD T y = some t) : PySem.W.notFirst K C t = true := by
  obtain ⟨r, hr, er, _⟩ := rep_of hv t e
  have q := List.all_eq_true.mp h r hr
  rw [er] at q
  exact q
/-- a classmethod of the class at C -/
def cmB (K : PySem.W.Frag) (C : Addr) (m : PySem.Str) : Bool := PySem.W.readsIn K C (.type "type") && (He.eqO (PySem.W.specialIn K (.ref C) "__getattribute__") (some (some (.builtin "type.__getattribute__"))) &&
  ((match PySem.W.findCls K (.ref C) (.type "type") m with
    | some (.get (.builtin i) (.ref p) .none (.ref C')) => decide (i = "classmethod.__get__") && (decide (p = He.ma K C m) && decide (C' = C))
    | _ => false) && ((match PySem.W.recIn K (He.ma K C m) "classmethod" with
      | some (.ref g :: _) => true
      | _ => false) && PySem.W.fnIn K (recFst K (He.ma K C m)))))
theorem cmB_ok {K : PySem.W.Frag} {C : Addr} {m : PySem.Str} (h : cmB K C m = true) : ClX.CRead K C (.type "type") ∧ ClX.CMet K C (.type "type") m (He.ma K C m) (recFst K (He.ma K C m)) := by
  obtain ⟨h1, h⟩ := He.ba h
  obtain ⟨h2, h⟩ := He.ba h
  obtain ⟨h3, h⟩ := He.ba h
  obtain ⟨h4, h5⟩ := He.ba h
  refine ⟨⟨h1, He.eqO_ok h2⟩, ⟨?_, ?_, h5⟩⟩
  · split at h3
    · rename_i i p C' e
      obtain ⟨g1, g2⟩ := He.ba h3
      obtain ⟨g2, g3⟩ := He.ba g2
      rw [e, of_decide_eq_true g1, of_decide_eq_true g2, of_decide_eq_true g3]
    · cases h3
  · split at h4
    · rename_i g r e
      exact ⟨r, by unfold recFst; rw [e]⟩
    · cases h4
/-! ### functions -/
abbrev FnV : Type := Option (PySem.Str × PySem.Str × Arguments × FuncBody × Scope × Addr × List PySem.Str × Value × Addr)
def fnV (K : PySem.W.Frag) (a : Addr) : FnV := match K.lookup a with
  | some ⟨_, _, .func fd, _⟩ => some (fd.name, fd.qualname, fd.params, fd.body, fd.scope, fd.globals, fd.closure.map (·.1), fd.defaults, fd.builtins)
  | _ => none
def Fd.val (d : Fd) (cl : List PySem.Str) : FnV := some (d.name, d.qual, defArgs d.st, .stmts (defBody d.st), defScope d.st, mainGlobals, cl, .none, builtinsNs)
def codeB (K : PySem.W.Frag) (a : Addr) (q : PySem.Str) : Bool := match K.lookup a with
  | some ⟨_, _, .func fd, _⟩ => PySem.W.codeIn K fd.code q
  | _ => false
theorem fnV_ok {K : PySem.W.Frag} {d : Fd} {a : Addr} (e : fnV K a = d.val []) (c : codeB K a d.qual = true) :
    ∃ oc od osl kV doc pm an cdv ct, K.lookup a = some ⟨oc, od, .func (PySem.W.fnOf d.name d.qual (defArgs d.st) (defBody d.st) (defScope d.st) .none kV doc pm an cdv ct), osl⟩ ∧ PySem.W.codeIn K cdv d.qual = true := by
  unfold codeB at c
  unfold fnV at e
  cases q : K.lookup a with
  | none =>
    rw [q] at c
    cases c
  | some o =>
    obtain ⟨oc, od, dt, osl⟩ := o
    rw [q] at c e
    cases dt with
    | func fd =>
      obtain ⟨n1, n2, n3, n4, n5, n6, n7, n8, n9, n10, n11, n12, n13, n14, n15⟩ := fd
      have e2 : (some (n1, n2, n3, n4, n5, n6, n7.map (·.1), n8, n15) : FnV) = some (d.name, d.qual, defArgs d.st, .stmts (defBody d.st), defScope d.st, mainGlobals, [], .none, builtinsNs) := e
      simp only [Option.some.injEq, Prod.mk.injEq] at e2
      obtain ⟨h1, h2, h3, h4, h5, h6, h7, h8, h9⟩ := e2
      have h7' : n7 = [] := List.map_eq_nil_iff.mp h7
      subst h1 h2 h3 h4 h5 h6 h7' h8 h9
      exact ⟨oc, od, osl, n9, n10, n11, n12, n13, n14, rfl, c⟩
    | _ => cases c
/-- what stands in the cell of an exception's __init__, its code's file -/
def cellAt (K : PySem.W.Frag) (a : Addr) : Addr := match K.lookup a with
  | some ⟨_, _, .func fd, _⟩ => (match fd.closure with
    | [(_, c)] => c
    | _ => 0)
  | _ => 0
def codeAt (K : PySem.W.Frag) (a : Addr) : Addr := match K.lookup a with
  | some ⟨_, _, .func fd, _⟩ => (match fd.code with
    | .ref c => c
    | _ => 0)
  | _ => 0
def cellB (K : PySem.W.Frag) (a C : Addr) : Bool := match K.lookup (cellAt K a) with
  | some ⟨_, _, .cell (some (.ref D)), _⟩ => decide (D = C)
  | _ => false
def fileB (P : Program) (K : PySem.W.Frag) (a : Addr) : Bool := match K.lookup (codeAt K a) with
  | some ⟨_, _, .fields vs, _⟩ => (match (vs[2]? : Option Value) with
    | some (.str file _) => (P.main.file : PySem.Str) == file
    | _ => false)
  | _ => false
def oexB (K : PySem.W.Frag) (C : Addr) : Bool := (match K.lookup C with
  | some ⟨.type "type", _, .cls cd, sl⟩ => (match cd.mro, sl.toList with
    | .ref C' :: bm, [_, _, _, _, some (.builtin n), _] => decide (C' = C) && (decide (n = "ValueError.__new__") && (!cd.hasDel && (cd.hasDict && PySem.HandSPX.refsVE bm)))
    | _, _ => false)
  | _ => false) && (He.eqO (PySem.W.findIn K (.ref C) "__setattr__") (some (some (.builtin "object.__setattr__"))) && (decide (PySem.W.subIn K (.ref C) (.type "BaseException") = some true) && (decide (PySem.W.typeIn K (.ref C) = some (.type "type")) && PySem.W.keepIn K (.ref C))))
theorem oexB_ok {K : PySem.W.Frag} {C : Addr} (h : oexB K C = true) : OexC K C := by
  obtain ⟨h0, h⟩ := He.ba h
  obtain ⟨h1, h⟩ := He.ba h
  obtain ⟨h2, h⟩ := He.ba h
  obtain ⟨h3, h4⟩ := He.ba h
  refine ⟨?_, He.eqO_ok h1, of_decide_eq_true h2, of_decide_eq_true h3, h4⟩
  split at h0
  · rename_i dd cd sl e
    split at h0
    · rename_i C' bm k0 k1 k2 k3 n k5 e1 e2
      obtain ⟨nm, bs, mro, ns, qn, hd, sn, sub, ab, col, del⟩ := cd
      dsimp only at e1
      have h0' : (decide (C' = C) && (decide (n = "ValueError.__new__") && (!del && (hd && PySem.HandSPX.refsVE bm)))) = true := h0
      obtain ⟨g1, w1⟩ := He.ba h0'
      obtain ⟨g2, w2⟩ := He.ba w1
      obtain ⟨g3, w3⟩ := He.ba w2
      obtain ⟨g4, g5⟩ := He.ba w3
      have eC := of_decide_eq_true g1
      have en := of_decide_eq_true g2
      subst eC en e1
      have hdel : del = false := by simpa using g3
      subst hdel g4
      have hsl : sl = #[k0, k1, k2, k3, some (.builtin "ValueError.__new__"), k5] := by
        obtain ⟨l⟩ := sl
        simp only at e2
        rw [e2]
      subst hsl
      exact ⟨nm, qn, ns, bs, bm, sn, sub, ab, col, dd, k0, k1, k2, k3, k5, e, g5⟩
    · cases h0
  · cases h0
/-- an exception class with such an __init__: what is looked at -/
def xcB (P : Program) (K : PySem.W.Frag) (C a : Addr) (q : PySem.Str) (fs : List PySem.Str) : Bool := oexB K C && (xfB K C && (He.eqO (PySem.W.findIn K (.ref C) "__init__") (some (some (.ref a))) && (decide (PySem.W.typeIn K (.ref a) = some (.type "function")) &&
  (codeB K a q && (cellB K a C && (fileB P K a && (He.eqO (PySem.W.ks_superIn K C C "__init__") (some (some (.builtin "ValueError.__init__"))) && (decide (PySem.W.subIn K (.ref C) (.type "ValueError") = some true) && (decide (PySem.W.mroIn K C (.ref C) = some true) &&
  fs.all fun f => He.eqO (PySem.W.findIn K (.ref C) f) (some none))))))))))
structure XcF (P : Program) (K : PySem.W.Frag) (C a : Addr) (d : Fd) (fs : List PySem.Str) : Prop where
  ex : ∃ fd, ExcI P K C a d.qual (defArgs d.st) (defBody d.st) (defScope d.st) fd
  xf : XfC K C
  no : ∀ f, f ∈ fs → PySem.W.findIn K (.ref C) f = some none
theorem xcB_ok {P : Program} {K : PySem.W.Frag} {C a : Addr} {d : Fd} {fs : List PySem.Str} (hn : d.name = "__init__") (e : fnV K a = d.val ["__class__"]) (h : xcB P K C a d.qual fs = true) (nsup : PySem.W.nsIn K mainGlobals "super" = some none) (stat : PySem.W.nsIn K cStatics "thirdparty.any" = some none)
    (top : (P.main.scope.names.lookup ("super" : PySem.Str)).isSome = false) : XcF P K C a d fs := by
  obtain ⟨h1, h⟩ := He.ba h
  obtain ⟨h2, h⟩ := He.ba h
  obtain ⟨h3, h⟩ := He.ba h
  obtain ⟨h4, h⟩ := He.ba h
  obtain ⟨h5, h⟩ := He.ba h
  obtain ⟨h6, h⟩ := He.ba h
  obtain ⟨h7, h⟩ := He.ba h
  obtain ⟨h8, h⟩ := He.ba h
  obtain ⟨h9, h⟩ := He.ba h
  obtain ⟨h10, h11⟩ := He.ba h
  refine ⟨?_, xfB_ok h2, fun f hf => He.eqO_ok (List.all_eq_true.mp h11 f hf)⟩
  unfold codeB at h5
  unfold fnV at e
  unfold cellB cellAt at h6
  unfold fileB codeAt at h7
  cases q : K.lookup a with
  | none =>
    rw [q] at h5
    cases h5
  | some o =>
    obtain ⟨oc, od, dt, osl⟩ := o
    rw [q] at h5 e h6 h7
    cases dt with
    | func fd =>
      obtain ⟨n1, n2, n3, n4, n5, n6, n7, n8, n9, n10, n11, n12, n13, n14, n15⟩ := fd
      have e2 : (some (n1, n2, n3, n4, n5, n6, n7.map (·.1), n8, n15) : FnV) = some (d.name, d.qual, defArgs d.st, FuncBody.stmts (defBody d.st), defScope d.st, mainGlobals, [("__class__" : PySem.Str)], Value.none, builtinsNs) := e
      simp only [Option.some.injEq, Prod.mk.injEq] at e2
      obtain ⟨g1, g2, g3, g4, g5, g6, g7, g8, g9⟩ := e2
      match n7, g7 with
      | [(y, cc)], g7 =>
        have ey : y = "__class__" := by simpa using g7
        subst g1 g2 g3 g4 g5 g6 ey g8 g9
        dsimp only at h6 h7 h5
        cases n13 with
        | ref cda =>
          dsimp only at h6 h7
          cases q2 : K.lookup cc with
          | none => rw [q2] at h6; cases h6
          | some oc2 =>
            obtain ⟨cl, cld, cdt, csl⟩ := oc2
            rw [q2] at h6
            cases cdt with
            | cell v =>
              cases v with
              | none => cases h6
              | some v =>
                cases v with
                | ref D =>
                  have eD : D = C := of_decide_eq_true h6
                  subst eD
                  cases q3 : K.lookup cda with
                  | none => rw [q3] at h7; cases h7
                  | some oc3 =>
                    obtain ⟨ccl, cdd, cdt3, ccs⟩ := oc3
                    rw [q3] at h7
                    cases cdt3 with
                    | fields vs =>
                      have h7' : (match (vs[2]? : Option Value) with | some (.str file _) => (P.main.file : PySem.Str) == file | _ => false) = true := h7
                      split at h7'
                      · rename_i file tf ev
                        refine ⟨⟨d.name, d.qual, defArgs d.st, FuncBody.stmts (defBody d.st), defScope d.st, mainGlobals, [("__class__", cc)], Value.none, n9, n10, n11, n12, Value.ref cda, n14, builtinsNs⟩, oexB_ok h1, He.eqO_ok h3, of_decide_eq_true h4, ?_, He.eqO_ok h8, of_decide_eq_true h9, of_decide_eq_true h10, nsup, stat, top⟩
                        refine ⟨oc, od, n9, n10, n11, n12, cda, n14, cc, osl, cl, cld, csl, ccl, cdd, vs, ccs, file, tf, ?_, q, h5, q2, q3, ev, h7'⟩
                        rw [hn]
                      · cases h7'
                    | _ => cases h7
                | _ => cases h6
            | _ => cases h6
        | _ => exact absurd (show false = true from h5) (by decide)
    | _ => cases h5
end Tf
end
section
set_option Elab.async false
set_option linter.all false
set_option maxRecDepth 100000
/-! What is said of a text, as the rules of the layer ask it. -/
namespace Tf
open PySem PySem.Spec PyProof.Rows L2
def Nm.m (N : Nm) (m : Nat) : PySem.Str := N.mn.getD m "?"
def dunders : List PySem.Str := ["__eq__", "__add__", "__sub__", "__mul__", "__neg__", "__bool__", "__len__", "__iter__", "__call__", "__and__", "__or__", "__str__"]
/-- what is known of the text's names alone -/
def Nm.stc (N : Nm) (G : Prog) : Bool := decide (N.mn.take 12 = dunders) && (decide (N.fds.length = G.defs.length) && ((N.fld.all fun f => N.mn.all fun m => decide (f ≠ m)) && (decide N.fld.Nodup && (decide N.xs.Nodup &&
  ((List.range N.nc).all fun c => match G.clss[c]? with
    | some C => decide ((N.fds[C.init]?).map (·.at_) = some (.met (N.c c) "__init__")) && ((C.meths.all fun p => decide ((N.fds[p.2]?).map (·.at_) = some (.met (N.c c) (N.m p.1)))) && (C.cms.all fun p => decide ((N.fds[p.2]?).map (·.at_) = some (.cm (N.c c) (N.m p.1)))))
    | none => false)))))
def Nm.clB (N : Nm) (K : PySem.W.Frag) (c : Nat) : Bool := (He.Fa.cls (N.c c)).ok K && ((N.fld.all fun f => (He.Fa.noat (N.c c) f).ok K) && ((He.Fa.mkr (N.c c)).ok K && (tyB K (He.ga K (N.c c)) && (nfB K (N.T K) (He.ga K (N.c c)) && (PySem.W.selfFirst K (He.ga K (N.c c)) && (K.lookup (He.ga K (N.c c))).isSome)))))
def Nm.meB (N : Nm) (G : Prog) (K : PySem.W.Frag) (c : Nat) : Bool := match G.clss[c]? with
  | some C => (C.meths.all fun p => (He.Fa.meth (N.c c) (N.m p.1)).ok K) && (C.cms.all fun p => cmB K (He.ga K (N.c c)) (N.m p.1))
  | none => false
def Nm.kiB (N : Nm) (K : PySem.W.Frag) : Bool := ((List.range N.nc).all fun c => kitB K (N.T K) (.own c)) && (kitB K (N.T K) .int && (kitB K (N.T K) .bool && (kitB K (N.T K) .str && (kitB K (N.T K) .list && kitB K (N.T K) .tuple))))
def Nm.apB (N : Nm) (K : PySem.W.Frag) : Bool := (List.range N.nc).all fun c => (List.range N.nc).all fun d => decide (c = d) || decide (He.ga K (N.c c) ≠ He.ga K (N.c d))
def Nm.gfB (K : PySem.W.Frag) (d : Fd) : Bool := codeB K (d.at_.a K) d.qual && (match d.at_ with
  | .glo x => (He.Fa.glo x).ok K && PySem.W.keepIn K (.ref (He.ga K x))
  | _ => true)
def Nm.exB (N : Nm) (K : PySem.W.Frag) : Bool := N.xs.all fun c => N.xs.all fun d => decide (PySem.W.exmOne K (.ref (He.ga K (N.c c))) (.ref (He.ga K (N.c d))) = some (decide (c = d)))
def gloB (K : PySem.W.Frag) (x : PySem.Str) : D → Bool
  | .int i => (He.Fa.int x i).ok K
  | .str z => (He.Fa.str x z).ok K
  | _ => false
/-- what is looked at behind the top -/
def Nm.chk (N : Nm) (P : Program) (G : Prog) (K : PySem.W.Frag) : Bool :=
  ((List.range N.nc).all fun c => N.clB K c) && (((List.range N.nc).all fun c => N.meB G K c) && (N.kiB K && (N.apB K && ((N.cn.all fun x => (He.Fa.glo x).ok K) && ((N.fds.all fun d => Nm.gfB K d) && ((N.free.all fun x => (He.Fa.free x).ok K) &&
  ((N.xcs.all fun p => xcB P K (He.ga K (N.c p.1)) (p.2.1.at_.a K) p.2.1.qual p.2.2) && (N.exB K && ((He.Fa.free "super").ok K && (He.eqO (PySem.W.nsIn K cStatics "thirdparty.any") (some none) && N.glo.all fun g => gloB K g.1 g.2))))))))))
/-- what is said of the text, calls answered by cl to the level k -/
structure Txt (P : Program) (w : World) (K : PySem.W.Frag) (mg : PySem.Str → Option Value) (base : Heap) (N : Nm) (G : Prog) (cl : Call) (k : Nat) : Prop where
  st : N.stc G = true
  ck : N.chk P G K = true
  kin : K.In base
  mgl : base.Ns mainGlobals mg
  fn : ∀ f, f < N.fds.length → FnR P w K mg base (L2.CX P w) k (N.fA K f) (spD (N.T K) (RXc (N.T K) N.xs N.xn) cl f)
  refl : Refl G cl
  xc : ∀ p, p ∈ N.xcs → XcF P K (He.ga K (N.c p.1)) (p.2.1.at_.a K) p.2.1 p.2.2
theorem all_range {n : Nat} {f : Nat → Bool} (h : (List.range n).all f = true) {i : Nat} (hi : i < n) : f i = true := List.all_eq_true.mp h i (List.mem_range.mpr hi)
theorem mem_lkp {α β : Type} [BEq α] [LawfulBEq α] {k : α} {v : β} : ∀ {l : List (α × β)}, l.lookup k = some v → (k, v) ∈ l
  | [], h => by cases h
  | (j, u) :: r, h => by
    rw [List.lookup_cons] at h
    cases e : (k == j) with
    | true =>
      rw [e] at h
      cases h
      rw [eq_of_beq e]
      exact List.mem_cons_self
    | false =>
      rw [e] at h
      exact List.mem_cons_of_mem _ (mem_lkp h)
theorem lt_b {a b : Nat} (h : Nat.blt a b = true) : a < b := Nat.blt_eq.mp h
theorem getD_of {α : Type} {l : List α} {i : Nat} {x d : α} (h : l[i]? = some x) : l.getD i d = x := by
  rw [List.getD_eq_getElem?_getD, h]
  rfl
section
variable {P : Program} {w : World} {K : PySem.W.Frag} {mg : PySem.Str → Option Value} {base : Heap} {N : Nm} {G : Prog} {cl : Call} {k : Nat} (C : Txt P w K mg base N G cl k)
include C
theorem Txt.parts : ((List.range N.nc).all fun c => N.clB K c) = true ∧ ((List.range N.nc).all fun c => N.meB G K c) = true ∧ N.kiB K = true ∧ N.apB K = true ∧ (N.cn.all fun x => (He.Fa.glo x).ok K) = true ∧ (N.fds.all fun d => Nm.gfB K d) = true ∧ (N.free.all fun x => (He.Fa.free x).ok K) = true ∧
    N.exB K = true ∧ (He.Fa.free "super").ok K = true ∧ (N.glo.all fun g => gloB K g.1 g.2) = true := by
  obtain ⟨h1, h⟩ := He.ba C.ck
  obtain ⟨h2, h⟩ := He.ba h
  obtain ⟨h3, h⟩ := He.ba h
  obtain ⟨h4, h⟩ := He.ba h
  obtain ⟨h5, h⟩ := He.ba h
  obtain ⟨h6, h⟩ := He.ba h
  obtain ⟨h7, h⟩ := He.ba h
  obtain ⟨h8, h⟩ := He.ba h
  obtain ⟨h9, h⟩ := He.ba h
  obtain ⟨h10, h⟩ := He.ba h
  obtain ⟨h11, h12⟩ := He.ba h
  exact ⟨h1, h2, h3, h4, h5, h6, h7, h9, h10, h12⟩
theorem Txt.cl_ {c : Nat} (hc : c < N.nc) : Cls K (He.ga K (N.c c)) ∧ (∀ f, f ∈ N.fld → NoAttr K (He.ga K (N.c c)) f) ∧ Mk K (He.ga K (N.c c)) (He.ma K (He.ga K (N.c c)) "__init__") ∧ TyC K (He.ga K (N.c c)) ∧ nfB K (N.T K) (He.ga K (N.c c)) = true ∧ PySem.W.selfFirst K (He.ga K (N.c c)) = true ∧ (K.lookup (He.ga K (N.c c))).isSome = true := by
  have h := all_range C.parts.1 hc
  obtain ⟨h1, h⟩ := He.ba h
  obtain ⟨h2, h⟩ := He.ba h
  obtain ⟨h3, h⟩ := He.ba h
  obtain ⟨h4, h⟩ := He.ba h
  obtain ⟨h5, h⟩ := He.ba h
  obtain ⟨h6, h7⟩ := He.ba h
  exact ⟨He.cls_ok h1, fun f hf => He.noat_ok (List.all_eq_true.mp h2 f hf), He.mkr_ok h3, tyB_ok h4, h5, h6, h7⟩
theorem Txt.sts : N.mn.take 12 = dunders ∧ N.fds.length = G.defs.length ∧ (∀ f, f ∈ N.fld → ∀ m, m ∈ N.mn → f ≠ m) ∧ N.fld.Nodup ∧ N.xs.Nodup ∧ ∀ c, c < N.nc → ∃ D, G.clss[c]? = some D ∧ (N.fds[D.init]?).map (·.at_) = some (.met (N.c c) "__init__") ∧
    (∀ p, p ∈ D.meths → (N.fds[p.2]?).map (·.at_) = some (.met (N.c c) (N.m p.1))) ∧ ∀ p, p ∈ D.cms → (N.fds[p.2]?).map (·.at_) = some (.cm (N.c c) (N.m p.1)) := by
  obtain ⟨h1, h⟩ := He.ba C.st
  obtain ⟨h2, h⟩ := He.ba h
  obtain ⟨h3, h⟩ := He.ba h
  obtain ⟨h4, h⟩ := He.ba h
  obtain ⟨h5, h6⟩ := He.ba h
  refine ⟨of_decide_eq_true h1, of_decide_eq_true h2, fun f hf m hm => of_decide_eq_true (List.all_eq_true.mp (List.all_eq_true.mp h3 f hf) m hm), of_decide_eq_true h4, of_decide_eq_true h5, fun c hc => ?_⟩
  have q := all_range h6 hc
  cases e : G.clss[c]? with
  | none => rw [e] at q; cases q
  | some D =>
    rw [e] at q
    obtain ⟨q1, q⟩ := He.ba q
    obtain ⟨q2, q3⟩ := He.ba q
    exact ⟨D, rfl, of_decide_eq_true q1, fun p hp => of_decide_eq_true (List.all_eq_true.mp q2 p hp), fun p hp => of_decide_eq_true (List.all_eq_true.mp q3 p hp)⟩
theorem Txt.tb : TbOk K (N.T K) := ⟨fun c hc => (C.cl_ hc).1, fun c f hc hf => by
    have hf' : f < N.fld.length := hf
    have e : (N.T K).fN f = N.fld[f] := getD_of (List.getElem?_eq_getElem hf')
    rw [e]
    exact (C.cl_ hc).2.1 _ (List.getElem_mem hf'), fun f g hf hg e => by
    have hf' : f < N.fld.length := hf
    have hg' : g < N.fld.length := hg
    have e1 : (N.T K).fN f = N.fld[f] := getD_of (List.getElem?_eq_getElem hf')
    have e2 : (N.T K).fN g = N.fld[g] := getD_of (List.getElem?_eq_getElem hg')
    rw [e1, e2] at e
    exact (List.getElem_inj C.sts.2.2.2.1).mp e⟩
theorem Txt.gcls {c : Nat} {x : PySem.Str} (h : N.cn[c]? = some x) : mg x = some (.ref ((N.T K).cA c)) := by
  have e : N.c c = x := getD_of h
  show mg x = some (.ref (He.ga K (N.c c)))
  rw [e]
  exact He.glo_ok C.kin C.mgl (List.all_eq_true.mp C.parts.2.2.2.2.1 x (List.mem_of_getElem? h))
theorem Txt.gfn {f : Nat} {x : PySem.Str} (h : (N.fds[f]?).map (·.at_) = some (.glo x)) : mg x = some (.ref (N.fA K f)) ∧ PySem.W.keepIn K (.ref (N.fA K f)) = true := by
  obtain ⟨d, e, ed⟩ := Option.map_eq_some_iff.mp h
  have q := List.all_eq_true.mp C.parts.2.2.2.2.2.1 d (List.mem_of_getElem? e)
  have ea : N.fA K f = He.ga K x := by
    unfold Nm.fA
    rw [e]
    show d.at_.a K = _
    rw [ed]
    rfl
  rw [ea]
  unfold Nm.gfB at q
  rw [ed] at q
  obtain ⟨_, q⟩ := He.ba q
  obtain ⟨q1, q2⟩ := He.ba q
  exact ⟨He.glo_ok C.kin C.mgl q1, q2⟩
theorem Txt.gfree {i : Nat} {x : PySem.Str} (h : N.free[i]? = some x) : mg x = none := He.free_ok C.kin C.mgl (List.all_eq_true.mp C.parts.2.2.2.2.2.2.1 x (List.mem_of_getElem? h))
theorem Txt.gloS {i : Nat} {x z : PySem.Str} (h : N.glo[i]? = some (x, .str z)) : ∃ t, mg x = some (.str z t) := He.str_ok C.kin C.mgl (show gloB K x (.str z) = true from List.all_eq_true.mp C.parts.2.2.2.2.2.2.2.2.2 (x, D.str z) (List.mem_of_getElem? h))
theorem Txt.gloI {i : Nat} {x : PySem.Str} {n : Int} (h : N.glo[i]? = some (x, .int n)) : ∃ t, mg x = some (.int n t) := He.int_ok C.kin C.mgl (show gloB K x (.int n) = true from List.all_eq_true.mp C.parts.2.2.2.2.2.2.2.2.2 (x, D.int n) (List.mem_of_getElem? h))
theorem Txt.gsup : mg "super" = none := He.free_ok C.kin C.mgl C.parts.2.2.2.2.2.2.2.2.1
/-- a method's def -/
theorem Txt.meth_at {c m f : Nat} (hc : c < N.nc) (e : G.meth c m = some f) : f < N.fds.length ∧ Meth K ((N.T K).cA c) (N.m m) (N.fA K f) := by
  obtain ⟨D, eD, _, hm, _⟩ := C.sts.2.2.2.2.2 c hc
  have q := all_range C.parts.2.1 hc
  unfold Nm.meB at q
  unfold Prog.meth at e
  rw [eD] at e q
  have e' : D.meths.lookup m = some f := e
  have mem : (m, f) ∈ D.meths := mem_lkp e'
  have e2 := hm _ mem
  obtain ⟨d, e3, e4⟩ := Option.map_eq_some_iff.mp e2
  obtain ⟨q1, _⟩ := He.ba q
  have z := He.meth_ok (List.all_eq_true.mp q1 _ mem)
  have ea : N.fA K f = He.ma K (He.ga K (N.c c)) (N.m m) := by
    unfold Nm.fA
    rw [show N.fds[f]? = some d from e3]
    show d.at_.a K = _
    rw [e4]
    rfl
  refine ⟨(List.getElem?_eq_some_iff.mp (show N.fds[f]? = some d from e3)).1, ?_⟩
  rw [ea]
  exact z
theorem Txt.cmeth_at {c m f : Nat} (hc : c < N.nc) (e : G.cmeth c m = some f) : f < N.fds.length ∧ ∃ mc p, ClX.CRead K ((N.T K).cA c) mc ∧ ClX.CMet K ((N.T K).cA c) mc (N.m m) p (N.fA K f) := by
  obtain ⟨D, eD, _, _, hm⟩ := C.sts.2.2.2.2.2 c hc
  have q := all_range C.parts.2.1 hc
  unfold Nm.meB at q
  unfold Prog.cmeth at e
  rw [eD] at e q
  have e' : D.cms.lookup m = some f := e
  have mem : (m, f) ∈ D.cms := mem_lkp e'
  have e2 := hm _ mem
  obtain ⟨d, e3, e4⟩ := Option.map_eq_some_iff.mp e2
  obtain ⟨_, q1⟩ := He.ba q
  obtain ⟨z1, z2⟩ := cmB_ok (List.all_eq_true.mp q1 _ mem)
  have ea : N.fA K f = recFst K (He.ma K (He.ga K (N.c c)) (N.m m)) := by
    unfold Nm.fA
    rw [show N.fds[f]? = some d from e3]
    show d.at_.a K = _
    rw [e4]
    rfl
  refine ⟨(List.getElem?_eq_some_iff.mp (show N.fds[f]? = some d from e3)).1, _, He.ma K (He.ga K (N.c c)) (N.m m), z1, ?_⟩
  rw [ea]
  exact z2
theorem Txt.init_at {c : Nat} {D : ClsI} (hc : c < N.nc) (eD : G.clss[c]? = some D) : D.init < N.fds.length ∧ Mk K ((N.T K).cA c) (N.fA K D.init) := by
  obtain ⟨D', eD', h, _⟩ := C.sts.2.2.2.2.2 c hc
  rw [eD] at eD'
  cases eD'
  obtain ⟨d, e3, e4⟩ := Option.map_eq_some_iff.mp h
  have ea : N.fA K D.init = He.ma K (He.ga K (N.c c)) "__init__" := by
    unfold Nm.fA
    rw [show N.fds[D.init]? = some d from e3]
    show d.at_.a K = _
    rw [e4]
    rfl
  refine ⟨(List.getElem?_eq_some_iff.mp (show N.fds[D.init]? = some d from e3)).1, ?_⟩
  rw [ea]
  exact (C.cl_ hc).2.2.1
theorem Txt.isok : ∀ c : Cs, (∀ j, c = .own j → j < N.nc) → IsOk K (N.T K) c := fun c hc => by
  obtain ⟨h0, h⟩ := He.ba C.parts.2.2.1
  obtain ⟨h1, h⟩ := He.ba h
  obtain ⟨h2, h⟩ := He.ba h
  obtain ⟨h3, h⟩ := He.ba h
  obtain ⟨h4, h5⟩ := He.ba h
  have ty : ∀ k, k < (N.T K).nc → TyC K ((N.T K).cA k) := fun k hk => (C.cl_ hk).2.2.2.1
  cases c with
  | own j => exact kitB_ok (all_range h0 (hc j rfl)) ty
  | int => exact kitB_ok h1 ty
  | bool => exact kitB_ok h2 ty
  | str => exact kitB_ok h3 ty
  | list => exact kitB_ok h4 ty
  | tuple => exact kitB_ok h5 ty
theorem Txt.exm : ExmOk K (N.T K) N.xs := fun c c' hc hc' => of_decide_eq_true (List.all_eq_true.mp (List.all_eq_true.mp C.parts.2.2.2.2.2.2.2.1 c hc) c' hc')
end
section
variable {X : Cx} {N : Nm} {G : Prog} {cl : Call} {k : Nat} (C : Txt X.prog X.w X.K X.mg X.base N G cl k)
include C
/-- the promise of the def f -/
theorem Txt.F (f : Nat) (hf : f < N.fds.length) : FnD X (N.T X.K) (RXc (N.T X.K) N.xs N.xn) cl k (N.fA X.K f) f := C.fn f hf
theorem Txt.M {m : Nat} {x : PySem.Str} (h : N.mn[m]? = some x) : MethOk X (N.T X.K) (RXc (N.T X.K) N.xs N.xn) G cl k (N.fA X.K) m x where
  no := fun f hf e => by
    have hf' : f < N.fld.length := hf
    have e1 : (N.T X.K).fN f = N.fld[f] := getD_of (List.getElem?_eq_getElem hf')
    rw [e1] at e
    exact C.sts.2.2.1 _ (List.getElem_mem hf') x (List.mem_of_getElem? h) e
  at_ := fun c f hc e => by
    obtain ⟨h1, h2⟩ := C.meth_at hc e
    rw [show N.m m = x from getD_of h] at h2
    exact ⟨h2, C.F f h1⟩
theorem Txt.CM {m : Nat} {x : PySem.Str} (h : N.mn[m]? = some x) : CmOk X (N.T X.K) (RXc (N.T X.K) N.xs N.xn) G cl k (N.fA X.K) m x where
  at_ := fun c f hc e => by
    obtain ⟨h1, mc, p, h2, h3⟩ := C.cmeth_at hc e
    rw [show N.m m = x from getD_of h] at h3
    exact ⟨mc, p, h2, h3, C.F f h1⟩
theorem Txt.MK : MkOk X (N.T X.K) (RXc (N.T X.K) N.xs N.xn) G cl k (N.fA X.K) where
  at_ := fun c D hc e => by
    obtain ⟨h1, h2⟩ := C.init_at hc e
    exact ⟨h2, C.F _ h1⟩
theorem dn_at (h : N.mn.take 12 = dunders) {i : Nat} {x : PySem.Str} (hi : i < 12) (hx : dunders[i]? = some x) : N.m i = x := by
  refine getD_of ?_
  rw [← h, List.getElem?_take_of_lt hi] at hx
  exact hx
theorem Txt.bin {m : Nat} {nm : String} (hm : m < 12) (hd : dunders[m]? = some (PySem.dunder nm)) : OwnBin X (N.T X.K) (RXc (N.T X.K) N.xs N.xn) G cl k (N.fA X.K) m nm := fun c f hc e => by
  obtain ⟨h1, h2⟩ := C.meth_at hc e
  rw [dn_at C C.sts.1 hm hd] at h2
  exact ⟨h2.at_, h2.fn, (C.cl_ hc).2.2.2.2.2.1, C.F f h1⟩
theorem Txt.un {m : Nat} {nm : PySem.Str} (hm : m < 12) (hd : dunders[m]? = some nm) : OwnUn X (N.T X.K) (RXc (N.T X.K) N.xs N.xn) G cl k (N.fA X.K) m nm := fun c f hc e => by
  obtain ⟨h1, h2⟩ := C.meth_at hc e
  rw [dn_at C C.sts.1 hm hd] at h2
  exact ⟨h2.at_, h2.fn, C.F f h1⟩
theorem Txt.add : OwnBin X (N.T X.K) (RXc (N.T X.K) N.xs N.xn) G cl k (N.fA X.K) m_add "add" := C.bin (by decide) (by decide +kernel)
theorem Txt.sub : OwnBin X (N.T X.K) (RXc (N.T X.K) N.xs N.xn) G cl k (N.fA X.K) m_sub "sub" := C.bin (by decide) (by decide +kernel)
theorem Txt.mul : OwnBin X (N.T X.K) (RXc (N.T X.K) N.xs N.xn) G cl k (N.fA X.K) m_mul "mul" := C.bin (by decide) (by decide +kernel)
theorem Txt.neg : OwnUn X (N.T X.K) (RXc (N.T X.K) N.xs N.xn) G cl k (N.fA X.K) m_neg "__neg__" := C.un (by decide) (by decide +kernel)
theorem Txt.boo : OwnUn X (N.T X.K) (RXc (N.T X.K) N.xs N.xn) G cl k (N.fA X.K) m_bool "__bool__" := C.un (by decide) (by decide +kernel)
theorem Txt.sto : OwnUn X (N.T X.K) (RXc (N.T X.K) N.xs N.xn) G cl k (N.fA X.K) m_str "__str__" := C.un (by decide) (by decide +kernel)
theorem Txt.eq : EqOk X (N.T X.K) (RXc (N.T X.K) N.xs N.xn) G cl k (N.fA X.K) where
  at_ := fun c f hc e => by
    obtain ⟨h1, h2⟩ := C.meth_at hc e
    rw [dn_at C C.sts.1 (i := m_eq) (x := "__eq__") (by decide) (by decide +kernel)] at h2
    exact ⟨h2.at_, h2.fn, C.F f h1, fun y t hv et => nfB_ok (C.cl_ hc).2.2.2.2.1 y t hv et⟩
  refl := C.refl
  one := fun pins z F H s I sF => {
    c := fun c c' hc hc' e => by
      have q := all_range (all_range C.parts.2.2.2.1 hc) hc'
      rcases Bool.or_eq_true_iff.mp q with q | q
      · exact of_decide_eq_true q
      · exact absurd e (of_decide_eq_true q)
    f := C.tb.inj
    n := fun c hc => by
      obtain ⟨o, ho⟩ := Option.isSome_iff_exists.mp (C.cl_ hc).2.2.2.2.2.2
      have hn := (I.bs _ _ (C.kin _ _ ho)).2
      cases e : F ((N.T X.K).cA c) with
      | none => rfl
      | some q =>
        have z := sF _ _ e
        rw [show H ((N.T X.K).cA c) = none from hn] at z
        cases z }
end
end Tf
end
section
set_option Elab.async false
set_option linter.all false
set_option maxRecDepth 100000
/-! raise, the rules' short forms. -/
namespace Tf
open PySem PySem.Spec PyProof.Rows L2
/-- so an __init__ binds -/
def BindsX (d : Fd) (ps : List PySem.Str) : Prop := ∀ kV doc pm an cdv ct cc, ∀ us : List Value, us.length = ps.length → bindArgs (PySem.W.ksFn "__init__" d.qual (defArgs d.st) (defBody d.st) (defScope d.st) .none kV doc pm an cdv ct cc) ⟨us, []⟩ = pure (ps.zip us)
theorem ExcI.binds {P : Program} {K : PySem.W.Frag} {C a : Addr} {d : Fd} {fd : FuncData} {ps : List PySem.Str} (EI : ExcI P K C a d.qual (defArgs d.st) (defBody d.st) (defScope d.st) fd) (hb : BindsX d ps) : Binds K fd ps [] := by
  obtain ⟨oc, od, kV, doc, pm, an, cda, ct, cc, osl, cl, cld, csl, ccl, cdd, vs', ccs, file, tf, efd, _⟩ := EI.fn
  subst efd
  exact Binds.all fun us hl => hb _ _ _ _ _ _ _ us hl
section
variable {X : Cx} {N : Nm} {G : Prog} {cl : Call} {k c : Nat} {W : WX} {d : Fd} {x y cn : PySem.Str} {e e2 : Expr} {as : Es} {p pos : Pos} {p0 p1 p2 p3 p4 q1 q2 q3 q4 q5 r1 r2 r3 r4 r5 : Pos}
theorem Txt.mk1 (C : Txt X.prog X.w X.K X.mg X.base N G cl k) (hp : N.xcs.lookup c = some (d, [x])) (hn : N.cn[c]? = some cn) (hr : Room (k + 2) X.A) (tk : Takes X W) (hg : Gl X cn) (ha : PA X [e] (RV (N.T X.K) (RXc (N.T X.K) N.xs N.xn) W (evs G cl as)))
    (hbody : defBody d.st = [.Expr (.Call (.Attribute (.Call (.Name "super" p0) [] [] p1) "__init__" p2) [.Name x q1] [] p3) p4, .Assign [.Attribute (.Name "self" q2) x q3] (.Name x q4) q5] := by rfl)
    (S : ScopeX ["self", x] ["self", x] (defScope d.st) := by exact ⟨rfl, rfl, rfl, by decide +kernel, by decide +kernel, by decide +kernel, by decide +kernel, rfl, rfl⟩)
    (hself : ∃ ar, ((defArgs d.st).posonlyargs ++ (defArgs d.st).args).head? = some ar ∧ ar.arg = "self" := by exact ⟨_, rfl, rfl⟩) (hb : BindsX d ["self", x] := by exact fun _ _ _ _ _ _ _ us hl => match us, hl with | [_, _], _ => rfl)
    (hl : (p2.endLine == p3.line) = true := by rfl) (hd : (x == ("__debug__" : PySem.Str)) = false := by rfl) (hcd : (x == ("__classdict__" : PySem.Str)) = false := by rfl) (hdb : (cn == ("__debug__" : PySem.Str)) = false := by rfl) (hs : isStar e = false := by rfl) :
    PMk X (.Call (.Name cn p) [e] [] pos) (tXs (N.T X.K) (N.xn c) ((N.T X.K).cA c) (RV (N.T X.K) (RXc (N.T X.K) N.xs N.xn) W (evs G cl as))) := by
  have F := C.xc _ (mem_lkp hp)
  obtain ⟨fd, EI⟩ := F.ex
  have hb2 := EI.binds hb
  rw [hbody] at EI
  have en : N.xn c = [x] := by
    unfold Nm.xn
    rw [hp]
  rw [en]
  exact pmk_x1 EI.ox EI.iC EI.tI (fn_ex1 (k := k) EI S hself C.gsup hl (F.no x (by simp)) hd hcd) (hr := hr.mono (by omega)) hb2 tk hg (C.gcls hn) hdb ha hs
theorem Txt.mk2 (C : Txt X.prog X.w X.K X.mg X.base N G cl k) (hp : N.xcs.lookup c = some (d, [x, y])) (hn : N.cn[c]? = some cn) (hr : Room (k + 2) X.A) (tk : Takes X W) (hg : Gl X cn) (ha : PA X [e, e2] (RV (N.T X.K) (RXc (N.T X.K) N.xs N.xn) W (evs G cl as)))
    (hbody : defBody d.st = [.Expr (.Call (.Attribute (.Call (.Name "super" p0) [] [] p1) "__init__" p2) [.Name x q1, .Name y r1] [] p3) p4, .Assign [.Attribute (.Name "self" q2) x q3] (.Name x q4) q5, .Assign [.Attribute (.Name "self" r2) y r3] (.Name y r4) r5] := by rfl)
    (S : ScopeX ["self", x, y] ["self", x, y] (defScope d.st) := by exact ⟨rfl, rfl, rfl, by decide +kernel, by decide +kernel, by decide +kernel, by decide +kernel, rfl, rfl⟩)
    (hself : ∃ ar, ((defArgs d.st).posonlyargs ++ (defArgs d.st).args).head? = some ar ∧ ar.arg = "self" := by exact ⟨_, rfl, rfl⟩) (hb : BindsX d ["self", x, y] := by exact fun _ _ _ _ _ _ _ us hl => match us, hl with | [_, _, _], _ => rfl)
    (hl : (p2.endLine == p3.line) = true := by rfl) (hd : (x == ("__debug__" : PySem.Str)) = false := by rfl) (hcd : (x == ("__classdict__" : PySem.Str)) = false := by rfl) (hd2 : (y == ("__debug__" : PySem.Str)) = false := by rfl) (hcd2 : (y == ("__classdict__" : PySem.Str)) = false := by rfl)
    (hxy : x ≠ y := by decide) (hdb : (cn == ("__debug__" : PySem.Str)) = false := by rfl) (hs : isStar e = false := by rfl) (hs2 : isStar e2 = false := by rfl) :
    PMk X (.Call (.Name cn p) [e, e2] [] pos) (tXs (N.T X.K) (N.xn c) ((N.T X.K).cA c) (RV (N.T X.K) (RXc (N.T X.K) N.xs N.xn) W (evs G cl as))) := by
  have F := C.xc _ (mem_lkp hp)
  obtain ⟨fd, EI⟩ := F.ex
  have hb2 := EI.binds hb
  rw [hbody] at EI
  have en : N.xn c = [x, y] := by
    unfold Nm.xn
    rw [hp]
  rw [en]
  exact pmk_x2 hxy EI.ox EI.iC EI.tI (fn_ex2 (k := k) EI S hself C.gsup hl (F.no x (by simp)) (F.no y (by simp)) hd hcd hd2 hcd2) (hr := hr.mono (by omega)) hb2 tk hg (C.gcls hn) hdb ha hs hs2
end
/-! ### lengths of argument lists -/
def Es.fixed : Es → Option Nat
  | .nil => some 0
  | .cons false _ r => (Es.fixed r).map (· + 1)
  | .cons true _ _ => none
theorem evs_len {G : Prog} {cl : Call} : ∀ {as : Es} {n : Nat}, as.fixed = some n → ∀ (σ : Fr) (os : List O) (σ1 : Fr), evs G cl as σ = .ok os σ1 → os.length = n
  | .nil, n, h, σ, os, σ1, e => by
    cases h
    have e' : Res.ok ([] : List O) σ = .ok os σ1 := by unfold evs at e; exact e
    cases e'
    rfl
  | .cons false a r, n, h, σ, os, σ1, e => by
    obtain ⟨m, hm, rfl⟩ := Option.map_eq_some_iff.mp (show (Es.fixed r).map (· + 1) = some n from h)
    have e' : (Tf.ev G cl .val a σ).bind (fun v σ => opt (asO v) fun o => (evs G cl r σ).map fun os => o :: os) = .ok os σ1 := by unfold evs at e; exact e
    obtain ⟨v, σ2, _, e'⟩ := Res.bind_ok e'
    obtain ⟨o, _, e'⟩ := opt_ok e'
    obtain ⟨os', σ3, e3, e'⟩ := Res.bind_ok e'
    cases e'
    rw [List.length_cons, evs_len hm _ _ _ e3]
  | .cons true a r, n, h, _, _, _, _ => by cases h
/-! ### methods of one name take alike -/
def methModes (G : Prog) (m : Nat) (ms : List Mode) : Bool := G.clss.all fun C => match C.meths.lookup m with
  | some f => decide ((modesOf G f).tail = ms)
  | none => true
theorem meth_modes {G : Prog} {m : Nat} {ms : List Mode} (h : methModes G m ms = true) (c f : Nat) (e : G.meth c m = some f) : (modesOf G f).tail = ms := by
  unfold Prog.meth at e
  obtain ⟨C, eC, e⟩ := Option.bind_eq_some_iff.mp e
  have q := List.all_eq_true.mp h C (List.mem_of_getElem? eC)
  rw [e] at q
  exact of_decide_eq_true q
def cmethModes (G : Prog) (m : Nat) (ms : List Mode) : Bool := G.clss.all fun C => match C.cms.lookup m with
  | some f => decide ((modesOf G f).tail = ms)
  | none => true
theorem cmeth_modes {G : Prog} {m : Nat} {ms : List Mode} (h : cmethModes G m ms = true) (c f : Nat) (e : G.cmeth c m = some f) : (modesOf G f).tail = ms := by
  unfold Prog.cmeth at e
  obtain ⟨C, eC, e⟩ := Option.bind_eq_some_iff.mp e
  have q := List.all_eq_true.mp h C (List.mem_of_getElem? eC)
  rw [e] at q
  exact of_decide_eq_true q
def makeModes (G : Prog) (ms : List Mode) (nc : Nat) : Bool := (G.clss.take nc).all fun C => decide ((modesOf G C.init).tail = ms)
/-- all by value -/
def isVal : Mode → Bool
  | .val => true
  | .lend => false
theorem evAs_val {G : Prog} {cl : Call} : ∀ {as : Es} {ms : List Mode}, ms.all isVal = true → ∀ σ, evAs G cl ms as σ = evAs G cl [] as σ
  | .nil, ms, h, σ => by unfold evAs; rfl
  | .cons true e r, ms, h, σ => by unfold evAs; rfl
  | .cons false e r, [], h, σ => rfl
  | .cons false e r, .val :: ms, h, σ => by
    have ih := fun σ => evAs_val (G := G) (cl := cl) (as := r) (ms := ms) (by simpa [List.all_cons, isVal] using h) σ
    rw [evAs, evAs]
    simp only [ih]
  | .cons false e r, .lend :: ms, h, σ => by simp [List.all_cons, isVal] at h
section
variable {X : Cx} {T : Tb} {RX : XR} {W : WX} {G : Prog} {cl : Call} {es : List Expr} {as : Es} {ms : List Mode}
theorem PArgs.val (hm : ms.all isVal = true) (h : PArgs X es (RA T RX W (evAs G cl [] as))) : PArgs X es (RA T RX W (evAs G cl ms as)) := by
  rw [show evAs G cl ms as = evAs G cl [] as from funext (evAs_val hm)]
  exact h
theorem PA.val (hm : ms.all isVal = true) (h : PA X es (RA T RX W (evAs G cl [] as))) : PA X es (RA T RX W (evAs G cl ms as)) := by
  rw [show evAs G cl ms as = evAs G cl [] as from funext (evAs_val hm)]
  exact h
end
def methVal (G : Prog) (m : Nat) : Bool := G.clss.all fun C => match C.meths.lookup m with
  | some f => (modesOf G f).tail.all isVal
  | none => true
theorem meth_val {G : Prog} {m c f : Nat} (h : methVal G m = true) (e : G.meth c m = some f) : (modesOf G f).tail.all isVal = true := by
  unfold Prog.meth at e
  obtain ⟨C, eC, e⟩ := Option.bind_eq_some_iff.mp e
  have q := List.all_eq_true.mp h C (List.mem_of_getElem? eC)
  rw [e] at q
  exact q
def cmethVal (G : Prog) (m : Nat) : Bool := G.clss.all fun C => match C.cms.lookup m with
  | some f => (modesOf G f).tail.all isVal
  | none => true
theorem cmeth_val {G : Prog} {m c f : Nat} (h : cmethVal G m = true) (e : G.cmeth c m = some f) : (modesOf G f).tail.all isVal = true := by
  unfold Prog.cmeth at e
  obtain ⟨C, eC, e⟩ := Option.bind_eq_some_iff.mp e
  have q := List.all_eq_true.mp h C (List.mem_of_getElem? eC)
  rw [e] at q
  exact q
def makeVal (G : Prog) : Bool := G.clss.all fun C => (modesOf G C.init).tail.all isVal
theorem make_val {G : Prog} {c : Nat} {D : ClsI} (h : makeVal G = true) (e : G.clss[c]? = some D) : (modesOf G D.init).tail.all isVal = true := List.all_eq_true.mp h D (List.mem_of_getElem? e)
/-- the names of a block -/
def blkB (N : List PySem.Str) (sc scope : Scope) (own : List (PySem.Str × Nat)) : Bool := decide (scope.kind = .function) && ((scope.names.all fun y => decide (scope.names.lookup y.1 = some y.2)) && ((own.all fun p => decide (N[p.2]? = some p.1)) &&
  ((scope.names.all fun y => !decide (y.2 = .free) || (decide (sc.names.lookup y.1 = some .cell) || decide (sc.names.lookup y.1 = some .free))) && scope.names.all fun y => !(decide (y.2 = .local) || decide (y.2 = .cell)) || (decide (y.1 ∈ own.map (·.1)) || decide (y.1 ∉ N)))))
theorem blk_ok {N : List PySem.Str} {sc scope : Scope} {own : List (PySem.Str × Nat)} (h : blkB N sc scope own = true) : BlkOk N sc scope own := by
  obtain ⟨h1, h⟩ := He.ba h
  obtain ⟨h2, h⟩ := He.ba h
  obtain ⟨h3, h⟩ := He.ba h
  obtain ⟨h4, h5⟩ := He.ba h
  refine ⟨of_decide_eq_true h1, fun y hy => of_decide_eq_true (List.all_eq_true.mp h2 y hy), fun p hp => of_decide_eq_true (List.all_eq_true.mp h3 p hp), fun y hy e => ?_, fun y hy e => ?_⟩
  · have q := List.all_eq_true.mp h4 y hy
    simp only [e, decide_true, Bool.not_true, Bool.false_or, Bool.or_eq_true, decide_eq_true_eq] at q
    exact q
  · have q := List.all_eq_true.mp h5 y hy
    rcases e with e | e <;> simp only [e, decide_true, Bool.true_or, Bool.or_true, Bool.not_true, Bool.false_or, Bool.or_eq_true, decide_eq_true_eq] at q <;> exact q
/-! targets -/
theorem wipe_set {x : Option V} {i : Nat} : ∀ {vs : List Nat} {z : L2.St}, vs.contains i = true → wipe (z.set i x) vs = wipe z vs := by
  intro vs
  induction vs with
  | nil => intro z h; cases h
  | cons v vs ih =>
    intro z h
    show (wipe (z.set i x) vs).set v none = (wipe z vs).set v none
    by_cases hv : vs.contains i = true
    · rw [ih hv]
    · have e : i = v := by
        simp only [List.contains_cons, Bool.or_eq_true] at h
        rcases h with h | h
        · exact eq_of_beq h
        · exact absurd h hv
      subst e
      apply List.ext_getElem?
      intro j
      have hn : ∀ (vs : List Nat) (z : L2.St), (wipe z vs).length = z.length := fun vs z => wipe_length z vs
      by_cases hj : j = i
      · subst hj
        by_cases hl : j < z.length
        · rw [List.getElem?_set_self (by rw [hn]; simpa using hl), List.getElem?_set_self (by rw [hn]; exact hl)]
        · rw [List.getElem?_eq_none (by simp [hn]; omega), List.getElem?_eq_none (by simp [hn]; omega)]
      · rw [List.getElem?_set_ne (Ne.symm hj), List.getElem?_set_ne (Ne.symm hj)]
        have key : ∀ (vs : List Nat) (z : L2.St), (wipe (z.set i x) vs)[j]? = (wipe z vs)[j]? := by
          intro vs
          induction vs with
          | nil => intro z; exact List.getElem?_set_ne (Ne.symm hj)
          | cons v vs ih2 =>
            intro z
            show ((wipe (z.set i x) vs).set v none)[j]? = ((wipe z vs).set v none)[j]?
            rw [List.getElem?_set, List.getElem?_set, ih2 z, hn, hn, List.length_set]
        exact key vs z
theorem tgW {T : Tb} {vs : List Nat} {z : L2.St} {i : Nat} (h : vs.contains i = true) : TgR T (gName i) (fun z' => wipe z' vs = wipe z vs) (asg (.var i)) := tg_var fun z1 u e => by rw [wipe_set h, e]
theorem tgK {T : Tb} {lm : List Nat} {z0 : L2.St} {i : Nat} (h : i ∉ lm) : TgR T (gName i) (Keep lm z0) (asg (.var i)) := tg_var fun z u k => k.set h
theorem pgSeq {X : Cx} {es : List Expr} {k : Nat} {t : TGs} {n : Nat} {pos : Pos} (hc : X.calm = true) (h : PGs X es t) (hn : (assignEach es X.env).length = n) (hst : (assignEach es X.env).findIdx? (·.1) = none) : PG X (.Tuple es k pos) (gSeq X.K n t) := PG.or (pg_tup hc h hn hst) (pg_unl hc h hn hst)
end Tf
namespace Tf
open PySem PySem.Spec PyProof.Rows L2
section
variable {X : Cx} {T : Tb} {RX : XR} {W : WX} {G : Prog} {cl : Call} {lm : List Nat} {z0 : L2.St} {w : Nat}
/-- a def that is never run -/
theorem ss_dead {st : List Stmt} : SSs T RX W lm z0 G cl w X st (.cons .never .nil) := ⟨fun _ _ _ _ _ _ ⟨_, _, _, _, _, q⟩ => False.elim q⟩
end
section
variable {P : Program} {w : World} {K : PySem.W.Frag} {mg : PySem.Str → Option Value} {base : Heap} {N : Nm} {G : Prog} {cl : Call} {k : Nat} (C : Txt P w K mg base N G cl k)
include C
theorem Txt.xf {c : Nat} {p : Fd × List PySem.Str} (h : N.xcs.lookup c = some p) : XfC K ((N.T K).cA c) := (C.xc _ (mem_lkp h)).xf
theorem Txt.xno {c : Nat} {p : Fd × List PySem.Str} {f : PySem.Str} (h : N.xcs.lookup c = some p) (hf : f ∈ p.2) : PySem.W.findIn K (.ref ((N.T K).cA c)) f = some none := (C.xc _ (mem_lkp h)).no f hf
end
end Tf
end
section
set_option Elab.async false
set_option linter.all false
set_option maxRecDepth 100000
/-! An own == says True of a thing and itself. -/
namespace Tf
open PySem PySem.Spec PyProof.Rows L2
/-- self.f == other.f and .. -/
def rfE : E → Bool
  | .cmp .eq (.fld (.var 0) i) (.fld (.var 1) j) => i == j
  | .and a b => rfE a && rfE b
  | _ => false
/-- isinstance(other, C) and self.f == other.f and .. -/
def rfS (c : Nat) : Ss → Bool
  | .cons (.ret (.and (.isin (.var 1) (.own k)) e)) .nil => k == c && rfE e
  | _ => false
def rfB (G : Prog) : Bool := (List.range G.clss.length).all fun c => match G.meth c m_eq with
  | some f => (match G.defs[f]? with
    | some D => decide (D.np = 2) && (decide (D.modes = [.val, .val]) && (!D.star && rfS c D.body))
    | none => true)
  | none => true
theorem fld_ev {G : Prog} {cl : Call} {x : D} {r : Fr} {i k : Nat} {v : Val} {σ' : Fr} {md : Md} (hm : md = .val ∨ md = .pk) (hk : k = 0 ∨ k = 1) (h : ev G cl md (.fld (.var k) i) (some (owned x) :: some (owned x) :: r) = .ok v σ') :
    σ' = some (owned x) :: some (owned x) :: r ∧ ∃ c fs y, x = .ins c fs ∧ fs.lookup i = some y ∧ v = .d y := by
  have g : getVar .pk k (some (owned x) :: some (owned x) :: r) = .ok (.d x) (some (owned x) :: some (owned x) :: r) := by
    rcases hk with rfl | rfl <;> rfl
  have h : (((getVar .pk k (some (owned x) :: some (owned x) :: r)).bind fun v σ => opt (fldV v i) fun v => .ok v σ).bind (fin md)) = .ok v σ' := h
  rw [g] at h
  have h : (opt (fldV (.d x) i) fun v => Res.ok v (some (owned x) :: some (owned x) :: r)).bind (fin md) = .ok v σ' := h
  cases x with
  | ins c fs =>
    cases e : fs.lookup i with
    | none =>
      have e2 : fldV (.d (.ins c fs)) i = none := by
        show (fs.lookup i).map Val.d = none
        rw [e]
        rfl
      rw [e2] at h
      cases h
    | some y =>
      have e2 : fldV (.d (.ins c fs)) i = some (.d y) := by
        show (fs.lookup i).map Val.d = some (.d y)
        rw [e]
        rfl
      rw [e2] at h
      have h : fin md (.d y) (some (owned (.ins c fs)) :: some (owned (.ins c fs)) :: r) = .ok v σ' := h
      rcases hm with rfl | rfl
      · cases h
        exact ⟨rfl, c, fs, y, rfl, e, rfl⟩
      · cases h
        exact ⟨rfl, c, fs, y, rfl, e, rfl⟩
  | _ => cases h
theorem rfE_ok {G : Prog} {cl : Call} (hr : Refl G cl) {x : D} {r : Fr} : ∀ {e : E}, rfE e = true → ∀ {md : Md} {v : Val} {σ' : Fr}, md = .val ∨ md = .pk → ev G cl md e (some (owned x) :: some (owned x) :: r) = .ok v σ' → v = .d (.bl true) ∧ σ' = some (owned x) :: some (owned x) :: r
  | .cmp .eq (.fld (.var 0) i) (.fld (.var 1) j), h, md, v, σ', hm, q => by
    have ij : i = j := eq_of_beq h
    subst ij
    obtain ⟨v1, σ1, e1, q⟩ := Res.bind_ok q
    obtain ⟨v2, σ2, e2, e1⟩ := Res.bind_ok e1
    obtain ⟨hs, c, fs, y, hx, hl, hv⟩ := fld_ev (.inl rfl) (.inl rfl) e2
    subst hs hv
    obtain ⟨x1, ex, e1⟩ := opt_ok e1
    cases ex
    obtain ⟨v3, σ3, e3, e1⟩ := Res.bind_ok e1
    obtain ⟨hs, c', fs', y', hx', hl', hv⟩ := fld_ev (.inr rfl) (.inr rfl) e3
    subst hs hv
    rw [hx] at hx'
    cases hx'
    rw [hl] at hl'
    cases hl'
    obtain ⟨b, eb, e1⟩ := opt_ok e1
    cases e1
    have eb' : eqD G cl eqN y y = some b := eb
    have hb := eqD_refl hr eqN y b eb'
    subst hb
    rcases hm with rfl | rfl
    · cases q; exact ⟨rfl, rfl⟩
    · cases q; exact ⟨rfl, rfl⟩
  | .and a b, h, md, v, σ', hm, q => by
    obtain ⟨h1, h2⟩ := Bool.and_eq_true_iff.mp h
    obtain ⟨v1, σ1, e1, q⟩ := Res.bind_ok q
    obtain ⟨ev1, es⟩ := rfE_ok hr h1 hm e1
    subst ev1 es
    exact rfE_ok hr h2 hm q
theorem rfS_inv {c : Nat} {b : Ss} (h : rfS c b = true) : ∃ e, b = .cons (.ret (.and (.isin (.var 1) (.own c)) e)) .nil ∧ rfE e = true := by
  unfold rfS at h
  split at h
  · rename_i k e
    obtain ⟨h1, h2⟩ := Bool.and_eq_true_iff.mp h
    have e1 := eq_of_beq h1
    subst e1
    exact ⟨e, rfl, h2⟩
  · cases h
theorem refl_step {G : Prog} (hG : rfB G = true) {wt n : Nat} (hr : Refl G (callD G wt n)) : Refl G (callD G wt (n + 1)) := fun c fs f b hm h => by
  have hc : c < G.clss.length := by
    unfold Prog.meth at hm
    obtain ⟨C, eC, _⟩ := Option.bind_eq_some_iff.mp hm
    exact (List.getElem?_eq_some_iff.mp eC).1
  have q := List.all_eq_true.mp hG c (List.mem_range.mpr hc)
  rw [hm] at q
  dsimp only at q
  have hr1 := ansB_some h
  unfold callD at hr1
  cases eD : G.defs[f]? with
  | none =>
    rw [eD] at hr1
    cases hr1
  | some D =>
    rw [eD] at q hr1
    obtain ⟨q1, q⟩ := Bool.and_eq_true_iff.mp q
    obtain ⟨q2, q⟩ := Bool.and_eq_true_iff.mp q
    obtain ⟨q3, q4⟩ := Bool.and_eq_true_iff.mp q
    have np := of_decide_eq_true q1
    have ms := of_decide_eq_true q2
    have st : D.star = false := by simpa using q3
    have pk : packed D [owned (.ins c fs), owned (.ins c fs)] = some [owned (.ins c fs), owned (.ins c fs)] := by
      unfold packed
      rw [st]
    dsimp only at hr1
    rw [pk] at hr1
    dsimp only at hr1
    rw [if_pos ⟨by rw [np]; rfl, by rw [ms]; rfl⟩] at hr1
    obtain ⟨np', star, modes, ns, own, body⟩ := D
    dsimp only at np ms st q4 hr1
    subst ms st np
    obtain ⟨e, eb, g2⟩ := rfS_inv q4
    subst eb
    · generalize hr' : List.replicate (ns - 2) (none : Option Sl) = rest at hr1
      have hb : ∀ v σ, ev G (callD G wt n) .val (.and (.isin (.var 1) (.own c)) e) (some (owned (.ins c fs)) :: some (owned (.ins c fs)) :: rest) = .ok v σ → v = .d (.bl true) := fun v σ hq => by
        obtain ⟨v1, σ1, e1, hq⟩ := Res.bind_ok hq
        have e1' : Res.ok (.d (.bl (c == c))) (some (owned (.ins c fs)) :: some (owned (.ins c fs)) :: rest) = .ok v1 σ1 := e1
        rw [beq_self_eq_true] at e1'
        cases e1'
        exact (rfE_ok hr g2 (.inl rfl) hq).1
      have hr2 : finish ⟨2, false, [.val, .val], ns, own, .cons (.ret (.and (.isin (.var 1) (.own c)) e)) .nil⟩ (exSs G (callD G wt n) wt (.cons (.ret (.and (.isin (.var 1) (.own c)) e)) .nil) (some (owned (.ins c fs)) :: some (owned (.ins c fs)) :: rest)) = .ret (.d (.bl b)) [] := hr1
      have ex : exSs G (callD G wt n) wt (.cons (.ret (.and (.isin (.var 1) (.own c)) e)) .nil) (some (owned (.ins c fs)) :: some (owned (.ins c fs)) :: rest) =
          (match (ev G (callD G wt n) .val (.and (.isin (.var 1) (.own c)) e) (some (owned (.ins c fs)) :: some (owned (.ins c fs)) :: rest)).st fun v σ => .ret v σ with | .next σ => .next σ | z => z) := rfl
      rw [ex] at hr2
      cases eq : ev G (callD G wt n) .val (.and (.isin (.var 1) (.own c)) e) (some (owned (.ins c fs)) :: some (owned (.ins c fs)) :: rest) with
      | ok v σ =>
        rw [eq] at hr2
        have hv := hb v σ eq
        subst hv
        have hr3 : (match retV own (.d (.bl true)), lentsOf σ [.val, .val] with | some v, some ls => CR.ret v ls | _, _ => .bad) = .ret (.d (.bl b)) [] := hr2
        have rv : retV own (.d (.bl true)) = some (.d (.bl true)) := by cases own <;> rfl
        rw [rv] at hr3
        cases el : lentsOf σ [.val, .val] with
        | none => rw [el] at hr3; cases hr3
        | some ls =>
          rw [el] at hr3
          injection hr3 with h1 h2
          injection h1 with h1
          injection h1 with h1
          exact h1.symm
      | exc x σ =>
        rw [eq] at hr2
        have hr3 : (match lentsOf σ [.val, .val] with | some ls => CR.exc x ls | none => .bad) = .ret (.d (.bl b)) [] := hr2
        split at hr3 <;> cases hr3
      | bad =>
        rw [eq] at hr2
        cases hr2
theorem refl_all {G : Prog} (hG : rfB G = true) (wt : Nat) : ∀ n : Nat, Refl G (callD G wt n)
  | 0 => fun c fs f b _ h => by cases h
  | n + 1 => refl_step hG (refl_all hG wt n)
end Tf
end
section
set_option Elab.async false
set_option linter.all false
set_option maxRecDepth 100000
/-! The join: what is looked at behind the top, all defs at once, the law. -/
namespace Tf
open PySem PySem.Spec PyProof.Rows L2
def asX (g : Addr → Option Obj) : Nat → List Addr
  | 0 => [mainGlobals, cStatics]
  | n + 1 => He.growD g (asX g n)
abbrev AlX : Type := Bool × List FnV × List FnV
def noLst (K : PySem.W.Frag) : Bool := K.all fun p => !decide (p.2.cls = .type "list")
def obsX (N : Nm) (P : Program) (G : Prog) (K : PySem.W.Frag) : AlX := (N.chk P G K && noLst K, N.fds.map fun d => fnV K (d.at_.a K), N.xcs.map fun p => fnV K (p.2.1.at_.a K))
def valX (N : Nm) : AlX := (true, N.fds.map fun d => d.val [], N.xcs.map fun p => p.2.1.val ["__class__"])
def obsXG (n : Nat) (N : Nm) (P : Program) (G : Prog) (g : Addr → Option Obj) : AlX := obsX N P G (He.frG g (asX g n))
def hookX (n : Nat) (N : Nm) (P : Program) (G : Prog) : PySem.W.Hook where
  α := AlX
  obs := fun s => obsXG n N P G s.heap.get?
  val := fun _ => valX N
  says := fun _ h => ∃ K : PySem.W.Frag, K.In h ∧ obsX N P G K = valX N
  of := fun _ _ e => ⟨_, He.frG_in, e⟩
  keeps := fun _ _ _ ⟨K, hK, c⟩ k => ⟨K, PySem.W.Frag.In.keeps hK k, c⟩
theorem obsXG_eq {n : Nat} {N : Nm} {P : Program} {G : Prog} {g : Addr → Option Obj} {s : Shared} (h : ∀ a, g a = s.heap.get? a) : obsXG n N P G g = (hookX n N P G).obs s := by
  have e : g = s.heap.get? := funext h
  rw [e] <;> rfl
section
variable {N : Nm} {P : Program} {G : Prog} {K : PySem.W.Frag} (c : obsX N P G K = valX N)
include c
theorem say_chk : N.chk P G K = true ∧ noLst K = true := He.ba (congrArg (fun z : AlX => z.1) c)
theorem map_at {α β : Type} {l : List α} {f g : α → β} (h : l.map f = l.map g) {i : Nat} {x : α} (e : l[i]? = some x) : f x = g x := by
  have e2 : (l.map f)[i]? = (l.map g)[i]? := by rw [h]
  rw [List.getElem?_map, List.getElem?_map, e] at e2
  exact Option.some.inj e2
theorem say_fn {i : Nat} {d : Fd} (e : N.fds[i]? = some d) : fnV K (d.at_.a K) = d.val [] ∧ codeB K (d.at_.a K) d.qual = true := by
  refine ⟨map_at c (congrArg (fun z : AlX => z.2.1) c) e, ?_⟩
  obtain ⟨_, h⟩ := He.ba (say_chk c).1
  obtain ⟨_, h⟩ := He.ba h
  obtain ⟨_, h⟩ := He.ba h
  obtain ⟨_, h⟩ := He.ba h
  obtain ⟨_, h⟩ := He.ba h
  obtain ⟨h6, _⟩ := He.ba h
  exact (He.ba (List.all_eq_true.mp h6 d (List.mem_of_getElem? e))).1
theorem say_xc (hn : ∀ p, p ∈ N.xcs → p.2.1.name = "__init__") (top : (P.main.scope.names.lookup ("super" : PySem.Str)).isSome = false) (p : Nat × Fd × List PySem.Str) (hp : p ∈ N.xcs) : XcF P K (He.ga K (N.c p.1)) (p.2.1.at_.a K) p.2.1 p.2.2 := by
  obtain ⟨i, hi, e⟩ := List.mem_iff_getElem.mp hp
  have e1 := map_at c (congrArg (fun z : AlX => z.2.2) c) (show N.xcs[i]? = some p by rw [List.getElem?_eq_getElem hi, e])
  obtain ⟨_, h⟩ := He.ba (say_chk c).1
  obtain ⟨_, h⟩ := He.ba h
  obtain ⟨_, h⟩ := He.ba h
  obtain ⟨_, h⟩ := He.ba h
  obtain ⟨_, h⟩ := He.ba h
  obtain ⟨_, h⟩ := He.ba h
  obtain ⟨_, h⟩ := He.ba h
  obtain ⟨h8, h⟩ := He.ba h
  obtain ⟨_, h⟩ := He.ba h
  obtain ⟨h10, h⟩ := He.ba h
  obtain ⟨h11, _⟩ := He.ba h
  exact xcB_ok (hn p hp) e1 (List.all_eq_true.mp h8 p hp) (He.eqO_ok h10) (He.eqO_ok h11) top
/-- all defs at once, by the depth -/
theorem txt_all {w : World} {mg : PySem.Str → Option Value} {base : Heap} {wt : Nat} (st : N.stc G = true) (hr : rfB G = true) (hn : ∀ p, p ∈ N.xcs → p.2.1.name = "__init__") (top : (P.main.scope.names.lookup ("super" : PySem.Str)).isSome = false) (kin : K.In base) (mgl : base.Ns mainGlobals mg)
    (step : ∀ (n : Nat), Txt P w K mg base N G (callD G wt n) (9 * n) → ∀ f, f < N.fds.length → FnR P w K mg base (L2.CX P w) (9 * n + 9) (N.fA K f) (spD (N.T K) (RXc (N.T K) N.xs N.xn) (callD G wt (n + 1)) f)) :
    ∀ n : Nat, Txt P w K mg base N G (callD G wt n) (9 * n)
  | 0 => ⟨st, (say_chk c).1, kin, mgl, fun f hf A outer s H us vs Q E hroom e0 r ⟨P', F', ss, B, _, _, q⟩ => False.elim q, refl_all hr wt 0, say_xc c hn top⟩
  | n + 1 => ⟨st, (say_chk c).1, kin, mgl, fun f hf => step n (txt_all st hr hn top kin mgl step n) f hf, refl_all hr wt (n + 1), say_xc c hn top⟩
end
/-- the law's promise: that the evaluator says True -/
def spL (T : Tb) (RX : XR) (G : Prog) (n f : Nat) : Sp := fun vs H Q E => ∃ wt, spD T RX (callD G wt n) f vs H Q E
theorem fnL {P : Program} {w : World} {K : PySem.W.Frag} {mg : PySem.Str → Option Value} {base : Heap} {k : Nat} {fa : Addr} {fd : FuncData} {ps : List PySem.Str} {T : Tb} {RX : XR} {G : Prog} {n f : Nat} (h : ∀ wt, FnOk P w K mg base (L2.CX P w) k fa fd ps (spD T RX (callD G wt n) f)) :
    FnOk P w K mg base (L2.CX P w) k fa fd ps (spL T RX G n f) :=
  ⟨fun vs H Q E ⟨wt, q⟩ => (h wt).len vs H Q E q, fun A outer s H args us vs Q E hr e0 hb r ⟨wt, q⟩ => (h wt).run A outer s H args us vs Q E hr e0 hb r q⟩
theorem law_sp {T : Tb} {RX : XR} {G : Prog} {n f wt : Nat} {K : PySem.W.Frag} {H : Hp} {a : Addr} {ns : List Int} (hK : noLst K = true) (hO : Only H) (hS : SqL K H a (ns.map V.int)) (h : callD G wt n f [owned (.scr ns)] = .ret (.d (.bl true)) []) :
    spL T RX G n f [.ref a] H (fun v _ => v = .bl true) fun _ _ _ => False := by
  refine ⟨wt, fun _ => none, H, [owned (.scr ns)], [], ?_, ?_, ?_⟩
  · have key : ∃ o, H a = some (.frz o (.lst (ns.map V.int))) := by
      rcases hS with (h1 | h1) | ⟨o, its, m, h1, h2, _⟩
      · rcases hO a with z | ⟨o, xs, z⟩
        · rw [z] at h1; cases h1
        · rw [z] at h1; cases h1
      · exact h1
      · have q := List.all_eq_true.mp hK _ (mem_lkp h1)
        simp [h2] at q
    obtain ⟨o, e⟩ := key
    exact ⟨_, [], [], [], rfl, rfl, ⟨rfl, a, o, rfl, e⟩, rfl, rfl⟩
  · exact ⟨fun _ => (by simp), fun _ m => (by cases m), fun _ m => (by cases m), fun _ _ e => (by cases e), fun _ _ e => e, fun _ _ e => (by cases e)⟩
  · rw [h]
    intro F1 H1 u s ⟨o, B, C, e, r, _⟩
    cases e
    exact r.2
theorem cx_none {P : Program} {w : World} {H : Hp} {s : Shared} {e : Value} {s' : Shared} (h : L2.CX P w [] H s (fun _ _ _ => False) e s') : False := by
  obtain ⟨_, _, _, _, _, _, _, _, _, _, _, _, q⟩ := h
  exact q
/-- .. whatever the world -/
def CXW (P : Program) : CXT := fun outer H s E u s' => ∃ w, L2.CX P w outer H s E u s'
theorem fnW {P : Program} {w : World} {K : PySem.W.Frag} {mg : PySem.Str → Option Value} {base : Heap} {k : Nat} {fa : Addr} {fd : FuncData} {ps : List PySem.Str} {sp : Sp} (h : FnOk P w K mg base (L2.CX P w) k fa fd ps sp) : FnOk P w K mg base (CXW P) k fa fd ps sp :=
  ⟨h.len, fun A outer s H args us vs Q E hr e0 hb r q => codeAny_mono (h.run A outer s H args us vs Q E hr e0 hb r q) fun r s' z => by
    cases r with
    | ok fl => cases fl <;> exact z
    | error e => exact ⟨w, z⟩⟩
theorem cxw_none {P : Program} {H : Hp} {s : Shared} {e : Value} {s' : Shared} (h : CXW P [] H s (fun _ _ _ => False) e s') : False := by
  obtain ⟨w, h⟩ := h
  exact cx_none h
end Tf
end
section
set_option Elab.async false
set_option linter.all false
namespace Tf.P
open Tf
set_option maxRecDepth 20000
/- common(a, b) slots [(0, 'a'), (1, 'b'), (2, 'one'), (3, 'other')] -/
def f0_body : Ss :=
    (.cons (.par 2 3 (.bi .abs (.var 0)) (.bi .abs (.var 1)))
    (.cons (.whl (.cmp .ne (.var 3) (.cst (.int 0))) (.cons (.par 2 3 (.var 3) (.bin .mod (.var 2) (.var 3)))
    .nil))
    (.cons (.ret (.var 2))
    .nil)))
def f0 : DefI := { np := 2, star := false, modes := [.val, .val], ns := 4, own := false, body := f0_body }
/- is_count(word) slots [(0, 'word'), (1, 'sign')] -/
def f1_body : Ss :=
    (.cons (.ife (.or (.cmp .eq (.var 0) (.cst (.str ""))) (.not (.bi .all (.comp false (.cmp .in_ (.var 1) (.cst (.str "0123456789"))) (.var 1) (.seq (.var 0)) .nil [1]))))
    (.cons (.ret (.cst (.bl false)))
    .nil)
    .nil)
    (.cons (.ret (.or (.cmp .ne (.idx (.var 0) (.cst (.int 0))) (.cst (.str "0"))) (.cmp .eq (.var 0) (.cst (.str "0")))))
    .nil))
def f1 : DefI := { np := 1, star := false, modes := [.val], ns := 2, own := false, body := f1_body }
/- is_top(word) slots [(0, 'word')] -/
def f2_body : Ss :=
    (.cons (.ife (.cmp .eq (.slc (.var 0) .none (.some (.cst (.int 1)))) (.cst (.str "-")))
    (.cons (.ret (.and (.call 1 (.cons false (.slc (.var 0) (.some (.cst (.int 1))) .none) .nil)) (.cmp .ne (.var 0) (.cst (.str "-0")))))
    .nil)
    .nil)
    (.cons (.ret (.call 1 (.cons false (.var 0) .nil)))
    .nil))
def f2 : DefI := { np := 1, star := false, modes := [.val], ns := 1, own := false, body := f2_body }
/- Ratio.__init__(self, top, bottom) slots [(0, 'self'), (1, 'top'), (2, 'bottom'), (3, 'divisor')] -/
def f3_body : Ss :=
    (.cons (.ife (.cmp .eq (.var 2) (.cst (.int 0)))
    (.cons (.raise 2 (.cons false (.cst (.int 0)) .nil))
    .nil)
    .nil)
    (.cons (.asg 3 (.call 0 (.cons false (.var 1) (.cons false (.var 2) .nil))))
    (.cons (.ife (.cmp .lt (.var 2) (.cst (.int 0)))
    (.cons (.asg 3 (.neg (.var 3)))
    .nil)
    .nil)
    (.cons (.sfld 0 0 (.bin .fdiv (.var 1) (.var 3)))
    (.cons (.sfld 0 1 (.bin .fdiv (.var 2) (.var 3)))
    .nil)))))
def f3 : DefI := { np := 3, star := false, modes := [.lend, .val, .val], ns := 4, own := false, body := f3_body }
/- Ratio.read(cls, text) slots [(0, 'cls'), (1, 'text'), (2, 'words')] -/
def f4_body : Ss :=
    (.cons (.asg 2 (.bm (.var 1) .split (.cst (.str "/"))))
    (.cons (.ife (.or (.cmp .gt (.bi .len (.var 2)) (.cst (.int 2))) (.not (.call 2 (.cons false (.idx (.var 2) (.cst (.int 0))) .nil))))
    (.cons (.raise 3 (.cons false (.cst (.int 0)) .nil))
    .nil)
    .nil)
    (.cons (.ife (.cmp .eq (.bi .len (.var 2)) (.cst (.int 1)))
    (.cons (.ret (.callv (.var 0) (.cons false (.bi .int (.idx (.var 2) (.cst (.int 0)))) (.cons false (.cst (.int 1)) .nil))))
    .nil)
    .nil)
    (.cons (.ife (.or (.not (.call 1 (.cons false (.idx (.var 2) (.cst (.int 1))) .nil))) (.cmp .eq (.idx (.var 2) (.cst (.int 1))) (.cst (.str "0"))))
    (.cons (.raise 3 (.cons false (.cst (.int 1)) .nil))
    .nil)
    .nil)
    (.cons (.ret (.callv (.var 0) (.cons false (.bi .int (.idx (.var 2) (.cst (.int 0)))) (.cons false (.bi .int (.idx (.var 2) (.cst (.int 1)))) .nil))))
    .nil)))))
def f4 : DefI := { np := 2, star := false, modes := [.val, .val], ns := 3, own := false, body := f4_body }
/- Ratio.__add__(self, other) slots [(0, 'self'), (1, 'other')] -/
def f5_body : Ss :=
    (.cons (.ret (.make 0 (.cons false (.bin .add (.bin .mul (.fld (.var 0) 0) (.fld (.var 1) 1)) (.bin .mul (.fld (.var 1) 0) (.fld (.var 0) 1))) (.cons false (.bin .mul (.fld (.var 0) 1) (.fld (.var 1) 1)) .nil))))
    .nil)
def f5 : DefI := { np := 2, star := false, modes := [.val, .val], ns := 2, own := false, body := f5_body }
/- Ratio.__sub__(self, other) slots [(0, 'self'), (1, 'other')] -/
def f6_body : Ss :=
    (.cons (.ret (.make 0 (.cons false (.bin .sub (.bin .mul (.fld (.var 0) 0) (.fld (.var 1) 1)) (.bin .mul (.fld (.var 1) 0) (.fld (.var 0) 1))) (.cons false (.bin .mul (.fld (.var 0) 1) (.fld (.var 1) 1)) .nil))))
    .nil)
def f6 : DefI := { np := 2, star := false, modes := [.val, .val], ns := 2, own := false, body := f6_body }
/- Ratio.__neg__(self) slots [(0, 'self')] -/
def f7_body : Ss :=
    (.cons (.ret (.make 0 (.cons false (.neg (.fld (.var 0) 0)) (.cons false (.fld (.var 0) 1) .nil))))
    .nil)
def f7 : DefI := { np := 1, star := false, modes := [.val], ns := 1, own := false, body := f7_body }
/- Ratio.__mul__(self, other) slots [(0, 'self'), (1, 'other')] -/
def f8_body : Ss :=
    (.cons (.ret (.make 0 (.cons false (.bin .mul (.fld (.var 0) 0) (.fld (.var 1) 0)) (.cons false (.bin .mul (.fld (.var 0) 1) (.fld (.var 1) 1)) .nil))))
    .nil)
def f8 : DefI := { np := 2, star := false, modes := [.val, .val], ns := 2, own := false, body := f8_body }
/- Ratio.__eq__(self, other) slots [(0, 'self'), (1, 'other')] -/
def f9_body : Ss :=
    (.cons (.ret (.and (.isin (.var 1) (.own 0)) (.and (.cmp .eq (.fld (.var 0) 0) (.fld (.var 1) 0)) (.cmp .eq (.fld (.var 0) 1) (.fld (.var 1) 1)))))
    .nil)
def f9 : DefI := { np := 2, star := false, modes := [.val, .val], ns := 2, own := false, body := f9_body }
/- Ratio.__str__(self) slots [(0, 'self')] -/
def f10_body : Ss :=
    (.cons (.ife (.cmp .eq (.fld (.var 0) 1) (.cst (.int 1)))
    (.cons (.ret (.sto (.fld (.var 0) 0)))
    .nil)
    .nil)
    (.cons (.ret (.fmt (.fld (.var 0) 0) "/" (.fld (.var 0) 1)))
    .nil))
def f10 : DefI := { np := 1, star := false, modes := [.val], ns := 1, own := false, body := f10_body }
/- _law_bag(_law_cell) slots [(0, '_law_cell')] -/
def f11_body : Ss :=
    (.cons (.ret (.lst true (.cons false (.var 0) (.cons false (.cst (.int 0)) (.cons false (.cmp .ge (.var 0) (.bin .pow (.cst (.int 10)) (.cst (.int 18)))) .nil)))))
    .nil)
def f11 : DefI := { np := 1, star := false, modes := [.val], ns := 1, own := true, body := f11_body }
/- _law_draw(_law_pool, _law_limit) slots [(0, '_law_pool'), (1, '_law_limit'), (2, '_law_drawn'), (3, '_law_mixed')] -/
def f12_body : Ss :=
    (.cons (.sidx 0 (.cst (.int 1)) (.bin .add (.idx (.var 0) (.cst (.int 1))) (.cst (.int 1))))
    (.cons (.ife (.idx (.var 0) (.cst (.int 2)))
    (.cons (.asg 2 (.bin .mod (.bi .int (.idx (.var 0) (.cst (.int 0)))) (.var 1)))
    (.cons (.sidx 0 (.cst (.int 0)) (.bin .fdiv (.bi .int (.idx (.var 0) (.cst (.int 0)))) (.var 1)))
    (.cons (.ret (.var 2))
    .nil)))
    .nil)
    (.cons (.asg 3 (.bin .mod (.bi .int (.bin .add (.bin .add (.bin .mul (.idx (.var 0) (.cst (.int 0))) (.cst (.int 7919))) (.bin .mul (.idx (.var 0) (.cst (.int 1))) (.cst (.int 104729)))) (.cst (.int 13)))) (.cst (.int 2147483647))))
    (.cons (.ret (.bin .mod (.bin .fdiv (.bi .int (.bin .mod (.bin .pow (.var 3) (.cst (.int 5))) (.cst (.int 2147483647)))) (.cst (.int 17))) (.var 1)))
    .nil))))
def f12 : DefI := { np := 2, star := false, modes := [.lend, .val], ns := 4, own := false, body := f12_body }
/- _law_at_of(_law_script, _law_k) slots [(0, '_law_script'), (1, '_law_k')] -/
def f13_body : Ss :=
    (.cons (.ife (.cmp .lt (.var 1) (.bi .len (.var 0)))
    (.cons (.ret (.idx (.var 0) (.var 1)))
    .nil)
    .nil)
    (.cons (.ret (.cst (.int 0)))
    .nil))
def f13 : DefI := { np := 2, star := false, modes := [.val, .val], ns := 2, own := false, body := f13_body }
/- _law_count_of(_law_word) slots [(0, '_law_word'), (1, '_law_sign')] -/
def f14_body : Ss :=
    (.cons (.ife (.or (.cmp .eq (.var 0) (.cst (.str ""))) (.cmp .ne (.comp false (.var 1) (.var 1) (.seq (.var 0)) (.cons false (.cmp .notin (.var 1) (.cst (.str "0123456789"))) .nil) [1]) (.lst false .nil)))
    (.cons (.ret (.cst (.bl false)))
    .nil)
    .nil)
    (.cons (.ret (.or (.cmp .eq (.var 0) (.cst (.str "0"))) (.cmp .ne (.idx (.var 0) (.cst (.int 0))) (.cst (.str "0")))))
    .nil))
def f14 : DefI := { np := 1, star := false, modes := [.val], ns := 2, own := false, body := f14_body }
/- _law_due_of(_law_text) slots [(0, '_law_text'), (1, '_law_words'), (2, '_law_front'), (3, '_law_top'), (4, '_law_bottom')] -/
def f15_body : Ss :=
    (.cons (.asg 1 (.bm (.var 0) .split (.cst (.str "/"))))
    (.cons (.asg 2 (.idx (.var 1) (.cst (.int 0))))
    (.cons (.asg 3 (.or (.call 14 (.cons false (.var 2) .nil)) (.and (.cmp .eq (.slc (.var 2) .none (.some (.cst (.int 1)))) (.cst (.str "-"))) (.and (.call 14 (.cons false (.slc (.var 2) (.some (.cst (.int 1))) .none) .nil)) (.cmp .ne (.var 2) (.cst (.str "-0")))))))
    (.cons (.ife (.or (.cmp .gt (.bi .len (.var 1)) (.cst (.int 2))) (.not (.var 3)))
    (.cons (.ret (.lst false (.cons false (.cst (.str "text")) (.cons false (.cst (.int 0)) .nil))))
    .nil)
    .nil)
    (.cons (.ife (.and (.cmp .eq (.bi .len (.var 1)) (.cst (.int 2))) (.or (.not (.call 14 (.cons false (.idx (.var 1) (.cst (.int 1))) .nil))) (.cmp .eq (.idx (.var 1) (.cst (.int 1))) (.cst (.str "0")))))
    (.cons (.ret (.lst false (.cons false (.cst (.str "text")) (.cons false (.cst (.int 1)) .nil))))
    .nil)
    .nil)
    (.cons (.asg 4 (.cst (.int 1)))
    (.cons (.ife (.cmp .eq (.bi .len (.var 1)) (.cst (.int 2)))
    (.cons (.asg 4 (.bi .int (.idx (.var 1) (.cst (.int 1)))))
    .nil)
    .nil)
    (.cons (.ret (.lst false (.cons false (.cst (.str "ratio")) (.cons false (.bi .int (.var 2)) (.cons false (.var 4) .nil)))))
    .nil))))))))
def f15 : DefI := { np := 1, star := false, modes := [.val], ns := 5, own := false, body := f15_body }
/- _law_told_of(_law_text) slots [(0, '_law_text'), (1, '_law_ratio'), (2, 'e')] -/
def f16_body : Ss :=
    (.cons (.tryc (.cons (.asg 1 (.cmeth (.clsv 0) 12 (.cons false (.var 0) .nil)))
    .nil) (.cons 3 2 (.ret (.lst (.cons (.cst (.str "text")) (.cons (.exf 0) .nil)))) .nil))
    (.cons (.ret (.lst false (.cons false (.cst (.str "ratio")) (.cons false (.fld (.var 1) 0) (.cons false (.fld (.var 1) 1) .nil)))))
    .nil))
def f16 : DefI := { np := 1, star := false, modes := [.val], ns := 3, own := false, body := f16_body }
/- _law_fits(_law_text) slots [(0, '_law_text'), (1, '_law_due'), (2, '_law_told'), (3, '_law_one'), (4, '_law_other'), (5, '_law_top'), (6, '_law_bottom')] -/
def f17_body : Ss :=
    (.cons (.par 1 2 (.call 15 (.cons false (.var 0) .nil)) (.call 16 (.cons false (.var 0) .nil)))
    (.cons (.ife (.or (.cmp .eq (.idx (.var 1) (.cst (.int 0))) (.cst (.str "text"))) (.cmp .eq (.idx (.var 2) (.cst (.int 0))) (.cst (.str "text"))))
    (.cons (.ret (.cmp .eq (.var 1) (.var 2)))
    .nil)
    .nil)
    (.cons (.par 3 4 (.bi .abs (.idx (.var 1) (.cst (.int 1)))) (.idx (.var 1) (.cst (.int 2))))
    (.cons (.whl (.cmp .gt (.var 4) (.cst (.int 0))) (.cons (.par 3 4 (.var 4) (.bin .mod (.var 3) (.var 4)))
    .nil))
    (.cons (.par 5 6 (.bin .fdiv (.idx (.var 1) (.cst (.int 1))) (.var 3)) (.bin .fdiv (.idx (.var 1) (.cst (.int 2))) (.var 3)))
    (.cons (.ife (.cmp .ne (.var 2) (.lst false (.cons false (.cst (.str "ratio")) (.cons false (.var 5) (.cons false (.var 6) .nil)))))
    (.cons (.ret (.cst (.bl false)))
    .nil)
    .nil)
    (.cons (.ret (.cmp .eq (.sto (.cmeth (.clsv 0) 12 (.cons false (.var 0) .nil))) (.bin .add (.sto (.var 5)) (.idx (.lst false (.cons false (.bin .add (.cst (.str "/")) (.sto (.var 6))) (.cons false (.cst (.str "")) .nil))) (.bi .int (.cmp .eq (.var 6) (.cst (.int 1))))))))
    .nil)))))))
def f17 : DefI := { np := 1, star := false, modes := [.val], ns := 7, own := false, body := f17_body }
/- _law_changed(_law_pool, _law_text) slots [(0, '_law_pool'), (1, '_law_text'), (2, '_law_which'), (3, '_law_at')] -/
def f18_body : Ss :=
    (.cons (.asg 2 (.call 12 (.cons false (.var 0) (.cons false (.cst (.int 5)) .nil))))
    (.cons (.asg 3 (.call 12 (.cons false (.var 0) (.cons false (.bin .add (.bi .len (.var 1)) (.cst (.int 1))) .nil))))
    (.cons (.ife (.cmp .eq (.var 2) (.cst (.int 0)))
    (.cons (.ret (.bin .add (.slc (.var 1) .none (.some (.var 3))) (.slc (.var 1) (.some (.bin .add (.var 3) (.cst (.int 1)))) .none)))
    .nil)
    .nil)
    (.cons (.ife (.cmp .eq (.var 2) (.cst (.int 1)))
    (.cons (.ret (.bin .add (.bin .add (.slc (.var 1) .none (.some (.var 3))) (.idx (.cst (.str "0123456789-/ +x_.")) (.call 12 (.cons false (.var 0) (.cons false (.cst (.int 17)) .nil))))) (.slc (.var 1) (.some (.var 3)) .none)))
    .nil)
    .nil)
    (.cons (.ife (.cmp .eq (.var 2) (.cst (.int 2)))
    (.cons (.ret (.bm (.cst (.str "/")) .join (.rev (.bm (.var 1) .split (.cst (.str "/"))))))
    .nil)
    .nil)
    (.cons (.ife (.cmp .eq (.var 2) (.cst (.int 3)))
    (.cons (.ret (.bin .add (.bin .add (.var 1) (.cst (.str "/"))) (.var 1)))
    .nil)
    .nil)
    (.cons (.ret (.bin .add (.slc (.var 1) .none (.some (.var 3))) (.slc (.var 1) (.some (.mxm true (.cst (.int 0)) (.bin .sub (.var 3) (.cst (.int 1))))) .none)))
    .nil)))))))
def f18 : DefI := { np := 2, star := false, modes := [.lend, .val], ns := 4, own := false, body := f18_body }
/- law(_law_script) slots [(0, '_law_script'), (1, '_law_pool'), (2, '_law_size'), (3, '_law_top'), (4, '_law_bottom'), (5, '_law_ratio'), (6, '_law_text'), (7, '_law_cell'), (8, '_law_tried'), (9, '_law_count')] -/
def f19_body : Ss :=
    (.cons (.asg 1 (.call 11 (.cons false (.call 13 (.cons false (.var 0) (.cons false (.cst (.int 0)) .nil))) .nil)))
    (.cons (.asg 2 (.idx (.lst false (.cons false (.cst (.int 3)) (.cons false (.cst (.int 50)) (.cons false (.bin .pow (.cst (.int 10)) (.cst (.int 9))) (.cons false (.bin .pow (.cst (.int 10)) (.cst (.int 40))) .nil))))) (.call 12 (.cons false (.var 1) (.cons false (.cst (.int 4)) .nil)))))
    (.cons (.par 3 4 (.bin .sub (.call 12 (.cons false (.var 1) (.cons false (.bin .add (.bin .mul (.cst (.int 2)) (.var 2)) (.cst (.int 1))) .nil))) (.var 2)) (.bin .add (.cst (.int 1)) (.call 12 (.cons false (.var 1) (.cons false (.var 2) .nil)))))
    (.cons (.asg 5 (.make 0 (.cons false (.var 3) (.cons false (.var 4) .nil))))
    (.cons (.asg 6 (.sto (.var 5)))
    (.cons (.ife (.and (.cmp .eq (.fld (.var 5) 1) (.cst (.int 1))) (.cmp .ne (.var 6) (.sto (.fld (.var 5) 0))))
    (.cons (.ret (.cst (.bl false)))
    .nil)
    .nil)
    (.cons (.ife (.and (.cmp .gt (.fld (.var 5) 1) (.cst (.int 1))) (.cmp .ne (.var 6) (.bin .add (.bin .add (.sto (.fld (.var 5) 0)) (.cst (.str "/"))) (.sto (.fld (.var 5) 1)))))
    (.cons (.ret (.cst (.bl false)))
    .nil)
    .nil)
    (.cons (.ife (.or (.not (.cmp .eq (.cmeth (.clsv 0) 12 (.cons false (.var 6) .nil)) (.var 5))) (.not (.cmp .eq (.cmeth (.clsv 0) 12 (.cons false (.bin .add (.bin .add (.sto (.var 3)) (.cst (.str "/"))) (.sto (.var 4))) .nil)) (.var 5))))
    (.cons (.ret (.cst (.bl false)))
    .nil)
    .nil)
    (.cons (.for_ (.var 7) (.seq (.bin .add (.lst false (.cons false (.call 13 (.cons false (.var 0) (.cons false (.cst (.int 1)) .nil))) .nil)) (.bi .list (.slc (.var 0) (.some (.cst (.int 2))) (.some (.cst (.int 9)))))))
    (.cons (.asg 1 (.call 11 (.cons false (.var 7) .nil)))
    (.cons (.asg 8 (.idx (.lst false (.cons false (.var 6) (.cons false (.bin .add (.bin .add (.sto (.var 3)) (.cst (.str "/"))) (.sto (.var 4))) (.cons false (.cst (.str "0")) (.cons false (.cst (.str "-7")) (.cons false (.cst (.str "12/18")) .nil)))))) (.call 12 (.cons false (.var 1) (.cons false (.cst (.int 5)) .nil)))))
    (.cons (.for_ (.var 9) (.rng (.cons false (.bin .add (.cst (.int 1)) (.call 12 (.cons false (.var 1) (.cons false (.cst (.int 2)) .nil)))) .nil))
    (.cons (.asg 8 (.call 18 (.cons false (.var 1) (.cons false (.var 8) .nil))))
    .nil))
    (.cons (.ife (.not (.call 17 (.cons false (.var 8) .nil)))
    (.cons (.ret (.cst (.bl false)))
    .nil)
    .nil)
    .nil)))))
    (.cons (.ret (.and (.cmp .eq (.call 16 (.cons false (.cst (.str "")) .nil)) (.lst false (.cons false (.cst (.str "text")) (.cons false (.cst (.int 0)) .nil)))) (.cmp .eq (.call 16 (.cons false (.cst (.str "1/")) .nil)) (.lst false (.cons false (.cst (.str "text")) (.cons false (.cst (.int 1)) .nil))))))
    .nil))))))))))
def f19 : DefI := { np := 1, star := false, modes := [.val], ns := 10, own := false, body := f19_body }
/- class 0: Ratio -/
/- class 1: FeeError -/
/- class 2: BadNumber -/
/- class 3: BadText -/
def G : Prog := ⟨[f0, f1, f2, f3, f4, f5, f6, f7, f8, f9, f10, f11, f12, f13, f14, f15, f16, f17, f18, f19],
  [{ frz := true, init := 3, meths := [(1, 5), (2, 6), (4, 7), (3, 8), (0, 9), (11, 10)], cms := [(12, 4)], exn := none },
    { frz := true, init := 0, meths := [], cms := [], exn := some 0 },
    { frz := true, init := 0, meths := [], cms := [], exn := some 1 },
    { frz := true, init := 0, meths := [], cms := [], exn := some 1 }],
  [(.str "0123456789")]⟩
/- fields [(0, 'top'), (1, 'bottom')] -/
/- methods [(0, '__eq__'), (1, '__add__'), (2, '__sub__'), (3, '__mul__'), (4, '__neg__'), (5, '__bool__'), (6, '__len__'), (7, '__iter__'), (8, '__call__'), (9, '__and__'), (10, '__or__'), (11, '__str__'), (12, 'read')] -/
end Tf.P
end
section
set_option Elab.async false
set_option linter.all false
set_option maxRecDepth 100000
set_option maxHeartbeats 4000000
namespace Tf.P
open Tf PySem PySem.Spec PyProof.Rows L2
abbrev pg : Program := PySem.Challenge.pw_truthfees_k12_texts_of_fractions
def topS (i : Nat) : Stmt := pg.main.body.getD i stNo
def metS (i j : Nat) : Stmt := (inCls (topS i)).getD j stNo
def f0_d : Fd := ⟨.glo "common", "common", "common", (topS 7)⟩
def f0_N : List PySem.Str := ["a", "b", "one", "other"]
def f1_d : Fd := ⟨.glo "is_count", "is_count", "is_count", (topS 8)⟩
def f1_N : List PySem.Str := ["word", "sign"]
def f2_d : Fd := ⟨.glo "is_top", "is_top", "is_top", (topS 9)⟩
def f2_N : List PySem.Str := ["word"]
def f3_d : Fd := ⟨.met "Ratio" "__init__", "__init__", "Ratio.__init__", (metS 10 0)⟩
def f3_N : List PySem.Str := ["self", "top", "bottom", "divisor"]
def f4_d : Fd := ⟨.cm "Ratio" "read", "read", "Ratio.read", (metS 10 2)⟩
def f4_N : List PySem.Str := ["cls", "text", "words"]
def f5_d : Fd := ⟨.met "Ratio" "__add__", "__add__", "Ratio.__add__", (metS 10 3)⟩
def f5_N : List PySem.Str := ["self", "other"]
def f6_d : Fd := ⟨.met "Ratio" "__sub__", "__sub__", "Ratio.__sub__", (metS 10 4)⟩
def f6_N : List PySem.Str := ["self", "other"]
def f7_d : Fd := ⟨.met "Ratio" "__neg__", "__neg__", "Ratio.__neg__", (metS 10 5)⟩
def f7_N : List PySem.Str := ["self"]
def f8_d : Fd := ⟨.met "Ratio" "__mul__", "__mul__", "Ratio.__mul__", (metS 10 6)⟩
def f8_N : List PySem.Str := ["self", "other"]
def f9_d : Fd := ⟨.met "Ratio" "__eq__", "__eq__", "Ratio.__eq__", (metS 10 7)⟩
def f9_N : List PySem.Str := ["self", "other"]
def f10_d : Fd := ⟨.met "Ratio" "__str__", "__str__", "Ratio.__str__", (metS 10 9)⟩
def f10_N : List PySem.Str := ["self"]
def f11_d : Fd := ⟨.glo "_law_bag", "_law_bag", "_law_bag", (topS 12)⟩
def f11_N : List PySem.Str := ["_law_cell"]
def f12_d : Fd := ⟨.glo "_law_draw", "_law_draw", "_law_draw", (topS 13)⟩
def f12_N : List PySem.Str := ["_law_pool", "_law_limit", "_law_drawn", "_law_mixed"]
def f13_d : Fd := ⟨.glo "_law_at_of", "_law_at_of", "_law_at_of", (topS 14)⟩
def f13_N : List PySem.Str := ["_law_script", "_law_k"]
def f14_d : Fd := ⟨.glo "_law_count_of", "_law_count_of", "_law_count_of", (topS 15)⟩
def f14_N : List PySem.Str := ["_law_word", "_law_sign"]
def f15_d : Fd := ⟨.glo "_law_due_of", "_law_due_of", "_law_due_of", (topS 16)⟩
def f15_N : List PySem.Str := ["_law_text", "_law_words", "_law_front", "_law_top", "_law_bottom"]
def f16_d : Fd := ⟨.glo "_law_told_of", "_law_told_of", "_law_told_of", (topS 17)⟩
def f16_N : List PySem.Str := ["_law_text", "_law_ratio", "e"]
def f17_d : Fd := ⟨.glo "_law_fits", "_law_fits", "_law_fits", (topS 18)⟩
def f17_N : List PySem.Str := ["_law_text", "_law_due", "_law_told", "_law_one", "_law_other", "_law_top", "_law_bottom"]
def f18_d : Fd := ⟨.glo "_law_changed", "_law_changed", "_law_changed", (topS 19)⟩
def f18_N : List PySem.Str := ["_law_pool", "_law_text", "_law_which", "_law_at"]
def f19_d : Fd := ⟨.glo "law", "law", "law", (topS 20)⟩
def f19_N : List PySem.Str := ["_law_script", "_law_pool", "_law_size", "_law_top", "_law_bottom", "_law_ratio", "_law_text", "_law_cell", "_law_tried", "_law_count"]
def x2_d : Fd := ⟨.met "BadNumber" "__init__", "__init__", "BadNumber.__init__", (metS 3 0)⟩
def x3_d : Fd := ⟨.met "BadText" "__init__", "__init__", "BadText.__init__", (metS 4 0)⟩
def N : Nm where
  cn := ["Ratio", "FeeError", "BadNumber", "BadText"]
  nc := 1
  fld := ["top", "bottom"]
  mn := ["__eq__", "__add__", "__sub__", "__mul__", "__neg__", "__bool__", "__len__", "__iter__", "__call__", "__and__", "__or__", "__str__", "read"]
  fds := [f0_d, f1_d, f2_d, f3_d, f4_d, f5_d, f6_d, f7_d, f8_d, f9_d, f10_d, f11_d, f12_d, f13_d, f14_d, f15_d, f16_d, f17_d, f18_d, f19_d]
  xcs := [(2, x2_d, ["n"]), (3, x3_d, ["at"])]
  free := ["len", "abs", "int", "bool", "str", "list", "tuple", "sum", "min", "max", "all", "any", "sorted", "range", "isinstance", "enumerate", "zip", "dict"]
  glo := [("DIGITS", (.str "0123456789"))]
section
variable {w : World} {K : PySem.W.Frag} {mg : PySem.Str → Option Value} {base : Heap} {cl : Call} {k : Nat}
abbrev RXP (K : PySem.W.Frag) : XR := RXc (N.T K) N.xs N.xn
theorem f0_sc : FnScope f0_N ["a", "b"] (defScope (topS 7)) := ⟨rfl, rfl, rfl, by decide +kernel, rfl, by decide +kernel, by decide +kernel⟩
theorem f0_ok (C : Txt pg w K mg base N G cl k) (wt : Nat) {fa : Addr} {cdv : Value} (A : Around) (outer : List Env) (s : Shared) (H : Hp) (E : XK) (z0 : L2.St) (hr : Room (k + 8) (A.deeper (envOfC f0_d.qual (defScope (topS 7)) s.heap.objs.size fa cdv))) :
    SSs (N.T K) (RXP K) (fun c d _ H => E c d H) (lendIx f0.modes) z0 G cl wt (cxOf (L2.CX pg w) pg w K mg base f0_N f0_d.qual (defScope (topS 7)) fa cdv A outer s H E) (defBody (topS 7)) f0.body := by
  have nd := f0_sc.nd
  have h0 := hr.mono (j := k) (by omega)
  have h1 := hr.mono (j := k + 1) (by omega)
  have h2 := hr.mono (j := k + 2) (by omega)
  have h6 := hr.mono (j := k + 6) (by omega)
  have h7 := hr.mono (j := k + 7) (by omega)
  have tk : Takes (cxOf (L2.CX pg w) pg w K mg base f0_N f0_d.qual (defScope (topS 7)) fa cdv A outer s H E) (fun c d _ H => E c d H) := takes_of rfl rfl rfl rfl
  have hp : PassesOwn (model pg w) (A.deeper (envOfC f0_d.qual (defScope (topS 7)) s.heap.objs.size fa cdv)) (envOfC f0_d.qual (defScope (topS 7)) s.heap.objs.size fa cdv) (cxOf (L2.CX pg w) pg w K mg base f0_N f0_d.qual (defScope (topS 7)) fa cdv A outer s H E).xe := PassesOwn.leaving
  exact (sss_cons (ss_par rfl nd rfl rfl (by decide) rfl rfl (pv_cons (se_bi rfl (se_var rfl (.inl rfl) rfl rfl) rfl rfl (C.gfree (i := 1) rfl) (by kernel_rfl) (by decide) rfl) (pv_cons (se_bi rfl (se_var rfl (.inl rfl) rfl rfl) rfl rfl (C.gfree (i := 1) rfl) (by kernel_rfl) (by decide) rfl) pv_nil rfl) rfl) rfl rfl (by decide) (by decide))
    (sss_cons (ss_whl hp (se_cmp (co_ne C.eq h6) (se_var rfl (.inl rfl) rfl rfl) (se_cst rfl) rfl) (sss_cons (ss_par rfl nd rfl rfl (by decide) rfl rfl (pv_cons (se_var rfl (.inl rfl) rfl rfl) (pv_cons (se_bin bo_mod (se_var rfl (.inl rfl) rfl rfl) (se_var rfl (.inl rfl) rfl rfl)) pv_nil rfl) rfl) rfl rfl (by decide) (by decide))
    sss_nil))
    (sss_cons (ss_ret (se_var rfl (.inl rfl) rfl rfl))
    sss_nil)))
theorem f1_sc : FnScope f1_N ["word"] (defScope (topS 8)) := ⟨rfl, rfl, rfl, by decide +kernel, rfl, by decide +kernel, by decide +kernel⟩
theorem f1_ok (C : Txt pg w K mg base N G cl k) (wt : Nat) {fa : Addr} {cdv : Value} (A : Around) (outer : List Env) (s : Shared) (H : Hp) (E : XK) (z0 : L2.St) (hr : Room (k + 8) (A.deeper (envOfC f1_d.qual (defScope (topS 8)) s.heap.objs.size fa cdv))) :
    SSs (N.T K) (RXP K) (fun c d _ H => E c d H) (lendIx f1.modes) z0 G cl wt (cxOf (L2.CX pg w) pg w K mg base f1_N f1_d.qual (defScope (topS 8)) fa cdv A outer s H E) (defBody (topS 8)) f1.body := by
  have nd := f1_sc.nd
  have h0 := hr.mono (j := k) (by omega)
  have h1 := hr.mono (j := k + 1) (by omega)
  have h2 := hr.mono (j := k + 2) (by omega)
  have h6 := hr.mono (j := k + 6) (by omega)
  have h7 := hr.mono (j := k + 7) (by omega)
  have tk : Takes (cxOf (L2.CX pg w) pg w K mg base f1_N f1_d.qual (defScope (topS 8)) fa cdv A outer s H E) (fun c d _ H => E c d H) := takes_of rfl rfl rfl rfl
  have hp : PassesOwn (model pg w) (A.deeper (envOfC f1_d.qual (defScope (topS 8)) s.heap.objs.size fa cdv)) (envOfC f1_d.qual (defScope (topS 8)) s.heap.objs.size fa cdv) (cxOf (L2.CX pg w) pg w K mg base f1_N f1_d.qual (defScope (topS 8)) fa cdv A outer s H E).xe := PassesOwn.leaving
  exact (sss_cons (ss_ife (SW.se (sw_or (se_cmp (co_eq C.eq h6) (se_var rfl (.inl rfl) rfl rfl) (se_cst (by kernel_rfl)) rfl) (sw_or1 (se_not (se_bi rfl (se_comp rfl nd (ow := [("sign", 1)]) (pi_seqR (se_var rfl (.inl rfl) rfl rfl)) (blk_ok (by kernel_rfl)) (fun _ _ _ _ _ => (pg_name (i := 1) nd rfl (.inl rfl) (.inr rfl))) (fun _ => (tgW rfl)) (fun _ _ _ _ _ => pts_nilR) (fun _ _ _ _ _ => (se_cmp (co_in C.eq h7) (se_var rfl (.inl rfl) rfl rfl) (se_gloS rfl (C.gloS (i := 0) rfl) rfl) rfl)) (fun _ => rfl)) rfl rfl (C.gfree (i := 10) rfl) (by kernel_rfl) (by decide) rfl)))))
    (sss_cons (ss_ret (se_cst rfl))
    sss_nil)
    sss_nil)
    (sss_cons (ss_ret (SW.se (sw_or (se_cmp (co_ne C.eq h6) (se_idx (se_var rfl (.inl rfl) rfl rfl) (se_cst rfl) (fun _ _ => rfl)) (se_cst (by kernel_rfl)) rfl) (sw_or1 (se_cmp (co_eq C.eq h6) (se_var rfl (.inl rfl) rfl rfl) (se_cst (by kernel_rfl)) rfl)))))
    sss_nil))
theorem f2_sc : FnScope f2_N ["word"] (defScope (topS 9)) := ⟨rfl, rfl, rfl, by decide +kernel, rfl, by decide +kernel, by decide +kernel⟩
theorem f2_ok (C : Txt pg w K mg base N G cl k) (wt : Nat) {fa : Addr} {cdv : Value} (A : Around) (outer : List Env) (s : Shared) (H : Hp) (E : XK) (z0 : L2.St) (hr : Room (k + 8) (A.deeper (envOfC f2_d.qual (defScope (topS 9)) s.heap.objs.size fa cdv))) :
    SSs (N.T K) (RXP K) (fun c d _ H => E c d H) (lendIx f2.modes) z0 G cl wt (cxOf (L2.CX pg w) pg w K mg base f2_N f2_d.qual (defScope (topS 9)) fa cdv A outer s H E) (defBody (topS 9)) f2.body := by
  have nd := f2_sc.nd
  have h0 := hr.mono (j := k) (by omega)
  have h1 := hr.mono (j := k + 1) (by omega)
  have h2 := hr.mono (j := k + 2) (by omega)
  have h6 := hr.mono (j := k + 6) (by omega)
  have h7 := hr.mono (j := k + 7) (by omega)
  have tk : Takes (cxOf (L2.CX pg w) pg w K mg base f2_N f2_d.qual (defScope (topS 9)) fa cdv A outer s H E) (fun c d _ H => E c d H) := takes_of rfl rfl rfl rfl
  have hp : PassesOwn (model pg w) (A.deeper (envOfC f2_d.qual (defScope (topS 9)) s.heap.objs.size fa cdv)) (envOfC f2_d.qual (defScope (topS 9)) s.heap.objs.size fa cdv) (cxOf (L2.CX pg w) pg w K mg base f2_N f2_d.qual (defScope (topS 9)) fa cdv A outer s H E).xe := PassesOwn.leaving
  exact (sss_cons (ss_ife (se_cmp (co_eq C.eq h6) (se_slc (se_var rfl (.inl rfl) rfl rfl) po_noneR (po_someR (se_cst rfl))) (se_cst (by kernel_rfl)) rfl)
    (sss_cons (ss_ret (SW.se (sw_and (se_call (C.F 1 (lt_b rfl)) h0 tk (C.gfn (f := 1) rfl).2 rfl (C.gfn (f := 1) rfl).1 rfl (parg_cons rfl (pa_consV (se_slc (se_var rfl (.inl rfl) rfl rfl) (po_someR (se_cst rfl)) po_noneR) pa_nilR (.inl ⟨_, rfl, rfl⟩) (star_of rfl)))) (sw_and1 (se_cmp (co_ne C.eq h6) (se_var rfl (.inl rfl) rfl rfl) (se_cst (by kernel_rfl)) rfl)))))
    sss_nil)
    sss_nil)
    (sss_cons (ss_ret (se_call (C.F 1 (lt_b rfl)) h0 tk (C.gfn (f := 1) rfl).2 rfl (C.gfn (f := 1) rfl).1 rfl (parg_cons rfl (pa_consV (se_var rfl (.inl rfl) rfl rfl) pa_nilR (.inl ⟨_, rfl, rfl⟩) (star_of rfl)))))
    sss_nil))
theorem f3_sc : FnScope f3_N ["self", "top", "bottom"] (defScope (metS 10 0)) := ⟨rfl, rfl, rfl, by decide +kernel, rfl, by decide +kernel, by decide +kernel⟩
theorem f3_ok (C : Txt pg w K mg base N G cl k) (wt : Nat) {fa : Addr} {cdv : Value} (A : Around) (outer : List Env) (s : Shared) (H : Hp) (E : XK) (z0 : L2.St) (hr : Room (k + 8) (A.deeper (envOfC f3_d.qual (defScope (metS 10 0)) s.heap.objs.size fa cdv))) :
    SSs (N.T K) (RXP K) (fun c d _ H => E c d H) (lendIx f3.modes) z0 G cl wt (cxOf (L2.CX pg w) pg w K mg base f3_N f3_d.qual (defScope (metS 10 0)) fa cdv A outer s H E) (defBody (metS 10 0)) f3.body := by
  have nd := f3_sc.nd
  have h0 := hr.mono (j := k) (by omega)
  have h1 := hr.mono (j := k + 1) (by omega)
  have h2 := hr.mono (j := k + 2) (by omega)
  have h6 := hr.mono (j := k + 6) (by omega)
  have h7 := hr.mono (j := k + 7) (by omega)
  have tk : Takes (cxOf (L2.CX pg w) pg w K mg base f3_N f3_d.qual (defScope (metS 10 0)) fa cdv A outer s H E) (fun c d _ H => E c d H) := takes_of rfl rfl rfl rfl
  have hp : PassesOwn (model pg w) (A.deeper (envOfC f3_d.qual (defScope (metS 10 0)) s.heap.objs.size fa cdv)) (envOfC f3_d.qual (defScope (metS 10 0)) s.heap.objs.size fa cdv) (cxOf (L2.CX pg w) pg w K mg base f3_N f3_d.qual (defScope (metS 10 0)) fa cdv A outer s H E).xe := PassesOwn.leaving
  exact (sss_cons (ss_ife (se_cmp (co_eq C.eq h6) (se_var rfl (.inl rfl) rfl rfl) (se_cst rfl) rfl)
    (sss_cons (ss_raise (by decide) rfl tk (C.mk1 rfl rfl h2 tk rfl (pv_cons (se_cst rfl) pv_nil rfl)) (evs_len rfl))
    sss_nil)
    sss_nil)
    (sss_cons (ss_asg (se_call (C.F 0 (lt_b rfl)) h0 tk (C.gfn (f := 0) rfl).2 rfl (C.gfn (f := 0) rfl).1 rfl (parg_cons rfl (pa_consV (se_var rfl (.inl rfl) rfl rfl) (pa_consV (se_var rfl (.inl rfl) rfl rfl) pa_nilR (.inl ⟨_, rfl, rfl⟩) (star_of rfl)) (.inl ⟨_, rfl, rfl⟩) (star_of rfl)))) nd rfl (.inl rfl) (by decide) rfl (.inl rfl))
    (sss_cons (ss_ife (se_cmp co_lt (se_var rfl (.inl rfl) rfl rfl) (se_cst rfl) rfl)
    (sss_cons (ss_asg (se_neg h0 tk C.neg (se_var rfl (.inl rfl) rfl rfl)) nd rfl (.inl rfl) (by decide) rfl (.inl rfl))
    sss_nil)
    sss_nil)
    (sss_cons (ss_sfld C.tb (lt_b rfl) rfl (se_bin bo_fdiv (se_var rfl (.inl rfl) rfl rfl) (se_var rfl (.inl rfl) rfl rfl)) rfl (.inl rfl) rfl rfl rfl)
    (sss_cons (ss_sfld C.tb (lt_b rfl) rfl (se_bin bo_fdiv (se_var rfl (.inl rfl) rfl rfl) (se_var rfl (.inl rfl) rfl rfl)) rfl (.inl rfl) rfl rfl rfl)
    sss_nil)))))
theorem f4_sc : FnScope f4_N ["cls", "text"] (defScope (metS 10 2)) := ⟨rfl, rfl, rfl, by decide +kernel, rfl, by decide +kernel, by decide +kernel⟩
theorem f4_ok (C : Txt pg w K mg base N G cl k) (wt : Nat) {fa : Addr} {cdv : Value} (A : Around) (outer : List Env) (s : Shared) (H : Hp) (E : XK) (z0 : L2.St) (hr : Room (k + 8) (A.deeper (envOfC f4_d.qual (defScope (metS 10 2)) s.heap.objs.size fa cdv))) :
    SSs (N.T K) (RXP K) (fun c d _ H => E c d H) (lendIx f4.modes) z0 G cl wt (cxOf (L2.CX pg w) pg w K mg base f4_N f4_d.qual (defScope (metS 10 2)) fa cdv A outer s H E) (defBody (metS 10 2)) f4.body := by
  have nd := f4_sc.nd
  have h0 := hr.mono (j := k) (by omega)
  have h1 := hr.mono (j := k + 1) (by omega)
  have h2 := hr.mono (j := k + 2) (by omega)
  have h6 := hr.mono (j := k + 6) (by omega)
  have h7 := hr.mono (j := k + 7) (by omega)
  have tk : Takes (cxOf (L2.CX pg w) pg w K mg base f4_N f4_d.qual (defScope (metS 10 2)) fa cdv A outer s H E) (fun c d _ H => E c d H) := takes_of rfl rfl rfl rfl
  have hp : PassesOwn (model pg w) (A.deeper (envOfC f4_d.qual (defScope (metS 10 2)) s.heap.objs.size fa cdv)) (envOfC f4_d.qual (defScope (metS 10 2)) s.heap.objs.size fa cdv) (cxOf (L2.CX pg w) pg w K mg base f4_N f4_d.qual (defScope (metS 10 2)) fa cdv A outer s H E).xe := PassesOwn.leaving
  exact (sss_cons (ss_asg (se_split (se_var rfl (.inl rfl) rfl rfl) (se_cst (by kernel_rfl)) rfl rfl rfl) nd rfl (.inl rfl) (by decide) rfl (.inl rfl))
    (sss_cons (ss_ife (SW.se (sw_or (se_cmp co_gt (se_bi rfl (se_var rfl (.inl rfl) rfl rfl) rfl rfl (C.gfree (i := 0) rfl) (by kernel_rfl) (by decide) rfl) (se_cst rfl) rfl) (sw_or1 (se_not (se_call (C.F 2 (lt_b rfl)) h0 tk (C.gfn (f := 2) rfl).2 rfl (C.gfn (f := 2) rfl).1 rfl (parg_cons rfl (pa_consV (se_idx (se_var rfl (.inl rfl) rfl rfl) (se_cst rfl) (fun _ _ => rfl)) pa_nilR (.inl ⟨_, rfl, rfl⟩) (star_of rfl))))))))
    (sss_cons (ss_raise (by decide) rfl tk (C.mk1 rfl rfl h2 tk rfl (pv_cons (se_cst rfl) pv_nil rfl)) (evs_len rfl))
    sss_nil)
    sss_nil)
    (sss_cons (ss_ife (se_cmp (co_eq C.eq h6) (se_bi rfl (se_var rfl (.inl rfl) rfl rfl) rfl rfl (C.gfree (i := 0) rfl) (by kernel_rfl) (by decide) rfl) (se_cst rfl) rfl)
    (sss_cons (ss_ret (se_callv C.MK h1 tk (se_var rfl (.inl rfl) rfl rfl) (fun _ _ e => PArgs.val (make_val rfl e) (parg_cons rfl (pa_consV (se_bi rfl (se_idx (se_var rfl (.inl rfl) rfl rfl) (se_cst rfl) (fun _ _ => rfl)) rfl rfl (C.gfree (i := 2) rfl) (by kernel_rfl) (by decide) rfl) (pa_consV (se_cst rfl) pa_nilR (.inr ⟨rfl, rfl⟩) (star_of rfl)) (.inr ⟨rfl, rfl⟩) (star_of rfl))))))
    sss_nil)
    sss_nil)
    (sss_cons (ss_ife (SW.se (sw_or (se_not (se_call (C.F 1 (lt_b rfl)) h0 tk (C.gfn (f := 1) rfl).2 rfl (C.gfn (f := 1) rfl).1 rfl (parg_cons rfl (pa_consV (se_idx (se_var rfl (.inl rfl) rfl rfl) (se_cst rfl) (fun _ _ => rfl)) pa_nilR (.inl ⟨_, rfl, rfl⟩) (star_of rfl))))) (sw_or1 (se_cmp (co_eq C.eq h6) (se_idx (se_var rfl (.inl rfl) rfl rfl) (se_cst rfl) (fun _ _ => rfl)) (se_cst (by kernel_rfl)) rfl))))
    (sss_cons (ss_raise (by decide) rfl tk (C.mk1 rfl rfl h2 tk rfl (pv_cons (se_cst rfl) pv_nil rfl)) (evs_len rfl))
    sss_nil)
    sss_nil)
    (sss_cons (ss_ret (se_callv C.MK h1 tk (se_var rfl (.inl rfl) rfl rfl) (fun _ _ e => PArgs.val (make_val rfl e) (parg_cons rfl (pa_consV (se_bi rfl (se_idx (se_var rfl (.inl rfl) rfl rfl) (se_cst rfl) (fun _ _ => rfl)) rfl rfl (C.gfree (i := 2) rfl) (by kernel_rfl) (by decide) rfl) (pa_consV (se_bi rfl (se_idx (se_var rfl (.inl rfl) rfl rfl) (se_cst rfl) (fun _ _ => rfl)) rfl rfl (C.gfree (i := 2) rfl) (by kernel_rfl) (by decide) rfl) pa_nilR (.inr ⟨rfl, rfl⟩) (star_of rfl)) (.inr ⟨rfl, rfl⟩) (star_of rfl))))))
    sss_nil)))))
theorem f5_sc : FnScope f5_N ["self", "other"] (defScope (metS 10 3)) := ⟨rfl, rfl, rfl, by decide +kernel, rfl, by decide +kernel, by decide +kernel⟩
theorem f5_ok (C : Txt pg w K mg base N G cl k) (wt : Nat) {fa : Addr} {cdv : Value} (A : Around) (outer : List Env) (s : Shared) (H : Hp) (E : XK) (z0 : L2.St) (hr : Room (k + 8) (A.deeper (envOfC f5_d.qual (defScope (metS 10 3)) s.heap.objs.size fa cdv))) :
    SSs (N.T K) (RXP K) (fun c d _ H => E c d H) (lendIx f5.modes) z0 G cl wt (cxOf (L2.CX pg w) pg w K mg base f5_N f5_d.qual (defScope (metS 10 3)) fa cdv A outer s H E) (defBody (metS 10 3)) f5.body := by
  have nd := f5_sc.nd
  have h0 := hr.mono (j := k) (by omega)
  have h1 := hr.mono (j := k + 1) (by omega)
  have h2 := hr.mono (j := k + 2) (by omega)
  have h6 := hr.mono (j := k + 6) (by omega)
  have h7 := hr.mono (j := k + 7) (by omega)
  have tk : Takes (cxOf (L2.CX pg w) pg w K mg base f5_N f5_d.qual (defScope (metS 10 3)) fa cdv A outer s H E) (fun c d _ H => E c d H) := takes_of rfl rfl rfl rfl
  have hp : PassesOwn (model pg w) (A.deeper (envOfC f5_d.qual (defScope (metS 10 3)) s.heap.objs.size fa cdv)) (envOfC f5_d.qual (defScope (metS 10 3)) s.heap.objs.size fa cdv) (cxOf (L2.CX pg w) pg w K mg base f5_N f5_d.qual (defScope (metS 10 3)) fa cdv A outer s H E).xe := PassesOwn.leaving
  exact (sss_cons (ss_ret (se_make (lt_b rfl) rfl (C.init_at (c := 0) (lt_b rfl) rfl).2 (C.F 3 (lt_b rfl)) h1 tk rfl (C.gcls rfl) rfl (parg_cons rfl (pa_consV (se_bin (bo_add h0 tk C.add) (se_bin (bo_mul h0 tk C.mul) (se_fld C.tb (se_var rfl (.inl rfl) rfl rfl) (lt_b rfl) rfl rfl) (se_fld C.tb (se_var rfl (.inl rfl) rfl rfl) (lt_b rfl) rfl rfl)) (se_bin (bo_mul h0 tk C.mul) (se_fld C.tb (se_var rfl (.inl rfl) rfl rfl) (lt_b rfl) rfl rfl) (se_fld C.tb (se_var rfl (.inl rfl) rfl rfl) (lt_b rfl) rfl rfl))) (pa_consV (se_bin (bo_mul h0 tk C.mul) (se_fld C.tb (se_var rfl (.inl rfl) rfl rfl) (lt_b rfl) rfl rfl) (se_fld C.tb (se_var rfl (.inl rfl) rfl rfl) (lt_b rfl) rfl rfl)) pa_nilR (.inl ⟨_, rfl, rfl⟩) (star_of rfl)) (.inl ⟨_, rfl, rfl⟩) (star_of rfl)))))
    sss_nil)
theorem f6_sc : FnScope f6_N ["self", "other"] (defScope (metS 10 4)) := ⟨rfl, rfl, rfl, by decide +kernel, rfl, by decide +kernel, by decide +kernel⟩
theorem f6_ok (C : Txt pg w K mg base N G cl k) (wt : Nat) {fa : Addr} {cdv : Value} (A : Around) (outer : List Env) (s : Shared) (H : Hp) (E : XK) (z0 : L2.St) (hr : Room (k + 8) (A.deeper (envOfC f6_d.qual (defScope (metS 10 4)) s.heap.objs.size fa cdv))) :
    SSs (N.T K) (RXP K) (fun c d _ H => E c d H) (lendIx f6.modes) z0 G cl wt (cxOf (L2.CX pg w) pg w K mg base f6_N f6_d.qual (defScope (metS 10 4)) fa cdv A outer s H E) (defBody (metS 10 4)) f6.body := by
  have nd := f6_sc.nd
  have h0 := hr.mono (j := k) (by omega)
  have h1 := hr.mono (j := k + 1) (by omega)
  have h2 := hr.mono (j := k + 2) (by omega)
  have h6 := hr.mono (j := k + 6) (by omega)
  have h7 := hr.mono (j := k + 7) (by omega)
  have tk : Takes (cxOf (L2.CX pg w) pg w K mg base f6_N f6_d.qual (defScope (metS 10 4)) fa cdv A outer s H E) (fun c d _ H => E c d H) := takes_of rfl rfl rfl rfl
  have hp : PassesOwn (model pg w) (A.deeper (envOfC f6_d.qual (defScope (metS 10 4)) s.heap.objs.size fa cdv)) (envOfC f6_d.qual (defScope (metS 10 4)) s.heap.objs.size fa cdv) (cxOf (L2.CX pg w) pg w K mg base f6_N f6_d.qual (defScope (metS 10 4)) fa cdv A outer s H E).xe := PassesOwn.leaving
  exact (sss_cons (ss_ret (se_make (lt_b rfl) rfl (C.init_at (c := 0) (lt_b rfl) rfl).2 (C.F 3 (lt_b rfl)) h1 tk rfl (C.gcls rfl) rfl (parg_cons rfl (pa_consV (se_bin (bo_sub h0 tk C.sub) (se_bin (bo_mul h0 tk C.mul) (se_fld C.tb (se_var rfl (.inl rfl) rfl rfl) (lt_b rfl) rfl rfl) (se_fld C.tb (se_var rfl (.inl rfl) rfl rfl) (lt_b rfl) rfl rfl)) (se_bin (bo_mul h0 tk C.mul) (se_fld C.tb (se_var rfl (.inl rfl) rfl rfl) (lt_b rfl) rfl rfl) (se_fld C.tb (se_var rfl (.inl rfl) rfl rfl) (lt_b rfl) rfl rfl))) (pa_consV (se_bin (bo_mul h0 tk C.mul) (se_fld C.tb (se_var rfl (.inl rfl) rfl rfl) (lt_b rfl) rfl rfl) (se_fld C.tb (se_var rfl (.inl rfl) rfl rfl) (lt_b rfl) rfl rfl)) pa_nilR (.inl ⟨_, rfl, rfl⟩) (star_of rfl)) (.inl ⟨_, rfl, rfl⟩) (star_of rfl)))))
    sss_nil)
theorem f7_sc : FnScope f7_N ["self"] (defScope (metS 10 5)) := ⟨rfl, rfl, rfl, by decide +kernel, rfl, by decide +kernel, by decide +kernel⟩
theorem f7_ok (C : Txt pg w K mg base N G cl k) (wt : Nat) {fa : Addr} {cdv : Value} (A : Around) (outer : List Env) (s : Shared) (H : Hp) (E : XK) (z0 : L2.St) (hr : Room (k + 8) (A.deeper (envOfC f7_d.qual (defScope (metS 10 5)) s.heap.objs.size fa cdv))) :
    SSs (N.T K) (RXP K) (fun c d _ H => E c d H) (lendIx f7.modes) z0 G cl wt (cxOf (L2.CX pg w) pg w K mg base f7_N f7_d.qual (defScope (metS 10 5)) fa cdv A outer s H E) (defBody (metS 10 5)) f7.body := by
  have nd := f7_sc.nd
  have h0 := hr.mono (j := k) (by omega)
  have h1 := hr.mono (j := k + 1) (by omega)
  have h2 := hr.mono (j := k + 2) (by omega)
  have h6 := hr.mono (j := k + 6) (by omega)
  have h7 := hr.mono (j := k + 7) (by omega)
  have tk : Takes (cxOf (L2.CX pg w) pg w K mg base f7_N f7_d.qual (defScope (metS 10 5)) fa cdv A outer s H E) (fun c d _ H => E c d H) := takes_of rfl rfl rfl rfl
  have hp : PassesOwn (model pg w) (A.deeper (envOfC f7_d.qual (defScope (metS 10 5)) s.heap.objs.size fa cdv)) (envOfC f7_d.qual (defScope (metS 10 5)) s.heap.objs.size fa cdv) (cxOf (L2.CX pg w) pg w K mg base f7_N f7_d.qual (defScope (metS 10 5)) fa cdv A outer s H E).xe := PassesOwn.leaving
  exact (sss_cons (ss_ret (se_make (lt_b rfl) rfl (C.init_at (c := 0) (lt_b rfl) rfl).2 (C.F 3 (lt_b rfl)) h1 tk rfl (C.gcls rfl) rfl (parg_cons rfl (pa_consV (se_neg h0 tk C.neg (se_fld C.tb (se_var rfl (.inl rfl) rfl rfl) (lt_b rfl) rfl rfl)) (pa_consV (se_fld C.tb (se_var rfl (.inl rfl) rfl rfl) (lt_b rfl) rfl rfl) pa_nilR (.inl ⟨_, rfl, rfl⟩) (star_of rfl)) (.inl ⟨_, rfl, rfl⟩) (star_of rfl)))))
    sss_nil)
theorem f8_sc : FnScope f8_N ["self", "other"] (defScope (metS 10 6)) := ⟨rfl, rfl, rfl, by decide +kernel, rfl, by decide +kernel, by decide +kernel⟩
theorem f8_ok (C : Txt pg w K mg base N G cl k) (wt : Nat) {fa : Addr} {cdv : Value} (A : Around) (outer : List Env) (s : Shared) (H : Hp) (E : XK) (z0 : L2.St) (hr : Room (k + 8) (A.deeper (envOfC f8_d.qual (defScope (metS 10 6)) s.heap.objs.size fa cdv))) :
    SSs (N.T K) (RXP K) (fun c d _ H => E c d H) (lendIx f8.modes) z0 G cl wt (cxOf (L2.CX pg w) pg w K mg base f8_N f8_d.qual (defScope (metS 10 6)) fa cdv A outer s H E) (defBody (metS 10 6)) f8.body := by
  have nd := f8_sc.nd
  have h0 := hr.mono (j := k) (by omega)
  have h1 := hr.mono (j := k + 1) (by omega)
  have h2 := hr.mono (j := k + 2) (by omega)
  have h6 := hr.mono (j := k + 6) (by omega)
  have h7 := hr.mono (j := k + 7) (by omega)
  have tk : Takes (cxOf (L2.CX pg w) pg w K mg base f8_N f8_d.qual (defScope (metS 10 6)) fa cdv A outer s H E) (fun c d _ H => E c d H) := takes_of rfl rfl rfl rfl
  have hp : PassesOwn (model pg w) (A.deeper (envOfC f8_d.qual (defScope (metS 10 6)) s.heap.objs.size fa cdv)) (envOfC f8_d.qual (defScope (metS 10 6)) s.heap.objs.size fa cdv) (cxOf (L2.CX pg w) pg w K mg base f8_N f8_d.qual (defScope (metS 10 6)) fa cdv A outer s H E).xe := PassesOwn.leaving
  exact (sss_cons (ss_ret (se_make (lt_b rfl) rfl (C.init_at (c := 0) (lt_b rfl) rfl).2 (C.F 3 (lt_b rfl)) h1 tk rfl (C.gcls rfl) rfl (parg_cons rfl (pa_consV (se_bin (bo_mul h0 tk C.mul) (se_fld C.tb (se_var rfl (.inl rfl) rfl rfl) (lt_b rfl) rfl rfl) (se_fld C.tb (se_var rfl (.inl rfl) rfl rfl) (lt_b rfl) rfl rfl)) (pa_consV (se_bin (bo_mul h0 tk C.mul) (se_fld C.tb (se_var rfl (.inl rfl) rfl rfl) (lt_b rfl) rfl rfl) (se_fld C.tb (se_var rfl (.inl rfl) rfl rfl) (lt_b rfl) rfl rfl)) pa_nilR (.inl ⟨_, rfl, rfl⟩) (star_of rfl)) (.inl ⟨_, rfl, rfl⟩) (star_of rfl)))))
    sss_nil)
theorem f9_sc : FnScope f9_N ["self", "other"] (defScope (metS 10 7)) := ⟨rfl, rfl, rfl, by decide +kernel, rfl, by decide +kernel, by decide +kernel⟩
theorem f9_ok (C : Txt pg w K mg base N G cl k) (wt : Nat) {fa : Addr} {cdv : Value} (A : Around) (outer : List Env) (s : Shared) (H : Hp) (E : XK) (z0 : L2.St) (hr : Room (k + 8) (A.deeper (envOfC f9_d.qual (defScope (metS 10 7)) s.heap.objs.size fa cdv))) :
    SSs (N.T K) (RXP K) (fun c d _ H => E c d H) (lendIx f9.modes) z0 G cl wt (cxOf (L2.CX pg w) pg w K mg base f9_N f9_d.qual (defScope (metS 10 7)) fa cdv A outer s H E) (defBody (metS 10 7)) f9.body := by
  have nd := f9_sc.nd
  have h0 := hr.mono (j := k) (by omega)
  have h1 := hr.mono (j := k + 1) (by omega)
  have h2 := hr.mono (j := k + 2) (by omega)
  have h6 := hr.mono (j := k + 6) (by omega)
  have h7 := hr.mono (j := k + 7) (by omega)
  have tk : Takes (cxOf (L2.CX pg w) pg w K mg base f9_N f9_d.qual (defScope (metS 10 7)) fa cdv A outer s H E) (fun c d _ H => E c d H) := takes_of rfl rfl rfl rfl
  have hp : PassesOwn (model pg w) (A.deeper (envOfC f9_d.qual (defScope (metS 10 7)) s.heap.objs.size fa cdv)) (envOfC f9_d.qual (defScope (metS 10 7)) s.heap.objs.size fa cdv) (cxOf (L2.CX pg w) pg w K mg base f9_N f9_d.qual (defScope (metS 10 7)) fa cdv A outer s H E).xe := PassesOwn.leaving
  exact (sss_cons (ss_ret (SW.se (sw_and (se_isin C.tb (C.isok (.own 0) (fun j e => by cases e; exact lt_b rfl)) (se_var rfl (.inl rfl) rfl rfl) rfl (pe_glob (v := .ref ((P.N.T _).cA 0)) rfl (C.gcls rfl) rfl rfl) rfl (fun _ h => h) rfl (C.gfree (i := 14) rfl)) (sw_and (se_cmp (co_eq C.eq h6) (se_fld C.tb (se_var rfl (.inl rfl) rfl rfl) (lt_b rfl) rfl rfl) (se_fld C.tb (se_var rfl (.inl rfl) rfl rfl) (lt_b rfl) rfl rfl) rfl) (sw_and1 (se_cmp (co_eq C.eq h6) (se_fld C.tb (se_var rfl (.inl rfl) rfl rfl) (lt_b rfl) rfl rfl) (se_fld C.tb (se_var rfl (.inl rfl) rfl rfl) (lt_b rfl) rfl rfl) rfl))))))
    sss_nil)
theorem f10_sc : FnScope f10_N ["self"] (defScope (metS 10 9)) := ⟨rfl, rfl, rfl, by decide +kernel, rfl, by decide +kernel, by decide +kernel⟩
theorem f10_ok (C : Txt pg w K mg base N G cl k) (wt : Nat) {fa : Addr} {cdv : Value} (A : Around) (outer : List Env) (s : Shared) (H : Hp) (E : XK) (z0 : L2.St) (hr : Room (k + 8) (A.deeper (envOfC f10_d.qual (defScope (metS 10 9)) s.heap.objs.size fa cdv))) :
    SSs (N.T K) (RXP K) (fun c d _ H => E c d H) (lendIx f10.modes) z0 G cl wt (cxOf (L2.CX pg w) pg w K mg base f10_N f10_d.qual (defScope (metS 10 9)) fa cdv A outer s H E) (defBody (metS 10 9)) f10.body := by
  have nd := f10_sc.nd
  have h0 := hr.mono (j := k) (by omega)
  have h1 := hr.mono (j := k + 1) (by omega)
  have h2 := hr.mono (j := k + 2) (by omega)
  have h6 := hr.mono (j := k + 6) (by omega)
  have h7 := hr.mono (j := k + 7) (by omega)
  have tk : Takes (cxOf (L2.CX pg w) pg w K mg base f10_N f10_d.qual (defScope (metS 10 9)) fa cdv A outer s H E) (fun c d _ H => E c d H) := takes_of rfl rfl rfl rfl
  have hp : PassesOwn (model pg w) (A.deeper (envOfC f10_d.qual (defScope (metS 10 9)) s.heap.objs.size fa cdv)) (envOfC f10_d.qual (defScope (metS 10 9)) s.heap.objs.size fa cdv) (cxOf (L2.CX pg w) pg w K mg base f10_N f10_d.qual (defScope (metS 10 9)) fa cdv A outer s H E).xe := PassesOwn.leaving
  exact (sss_cons (ss_ife (se_cmp (co_eq C.eq h6) (se_fld C.tb (se_var rfl (.inl rfl) rfl rfl) (lt_b rfl) rfl rfl) (se_cst rfl) rfl)
    (sss_cons (ss_ret (se_sto h2 tk C.sto (se_fld C.tb (se_var rfl (.inl rfl) rfl rfl) (lt_b rfl) rfl rfl) rfl rfl (C.gfree (i := 4) rfl)))
    sss_nil)
    sss_nil)
    (sss_cons (ss_ret (se_fmt (se_fld C.tb (se_var rfl (.inl rfl) rfl rfl) (lt_b rfl) rfl rfl) (se_fld C.tb (se_var rfl (.inl rfl) rfl rfl) (lt_b rfl) rfl rfl)))
    sss_nil))
theorem f11_sc : FnScope f11_N ["_law_cell"] (defScope (topS 12)) := ⟨rfl, rfl, rfl, by decide +kernel, rfl, by decide +kernel, by decide +kernel⟩
theorem f11_ok (C : Txt pg w K mg base N G cl k) (wt : Nat) {fa : Addr} {cdv : Value} (A : Around) (outer : List Env) (s : Shared) (H : Hp) (E : XK) (z0 : L2.St) (hr : Room (k + 8) (A.deeper (envOfC f11_d.qual (defScope (topS 12)) s.heap.objs.size fa cdv))) :
    SSs (N.T K) (RXP K) (fun c d _ H => E c d H) (lendIx f11.modes) z0 G cl wt (cxOf (L2.CX pg w) pg w K mg base f11_N f11_d.qual (defScope (topS 12)) fa cdv A outer s H E) (defBody (topS 12)) f11.body := by
  have nd := f11_sc.nd
  have h0 := hr.mono (j := k) (by omega)
  have h1 := hr.mono (j := k + 1) (by omega)
  have h2 := hr.mono (j := k + 2) (by omega)
  have h6 := hr.mono (j := k + 6) (by omega)
  have h7 := hr.mono (j := k + 7) (by omega)
  have tk : Takes (cxOf (L2.CX pg w) pg w K mg base f11_N f11_d.qual (defScope (topS 12)) fa cdv A outer s H E) (fun c d _ H => E c d H) := takes_of rfl rfl rfl rfl
  have hp : PassesOwn (model pg w) (A.deeper (envOfC f11_d.qual (defScope (topS 12)) s.heap.objs.size fa cdv)) (envOfC f11_d.qual (defScope (topS 12)) s.heap.objs.size fa cdv) (cxOf (L2.CX pg w) pg w K mg base f11_N f11_d.qual (defScope (topS 12)) fa cdv A outer s H E).xe := PassesOwn.leaving
  exact (sss_cons (ss_ret (se_lst (pv_cons (se_var rfl (.inl rfl) rfl rfl) (pv_cons (se_cst rfl) (pv_cons (se_cmp co_ge (se_var rfl (.inl rfl) rfl rfl) (se_bin bo_pow (se_cst rfl) (se_cst rfl)) rfl) pv_nil rfl) rfl) rfl)))
    sss_nil)
theorem f12_sc : FnScope f12_N ["_law_pool", "_law_limit"] (defScope (topS 13)) := ⟨rfl, rfl, rfl, by decide +kernel, rfl, by decide +kernel, by decide +kernel⟩
theorem f12_ok (C : Txt pg w K mg base N G cl k) (wt : Nat) {fa : Addr} {cdv : Value} (A : Around) (outer : List Env) (s : Shared) (H : Hp) (E : XK) (z0 : L2.St) (hr : Room (k + 8) (A.deeper (envOfC f12_d.qual (defScope (topS 13)) s.heap.objs.size fa cdv))) :
    SSs (N.T K) (RXP K) (fun c d _ H => E c d H) (lendIx f12.modes) z0 G cl wt (cxOf (L2.CX pg w) pg w K mg base f12_N f12_d.qual (defScope (topS 13)) fa cdv A outer s H E) (defBody (topS 13)) f12.body := by
  have nd := f12_sc.nd
  have h0 := hr.mono (j := k) (by omega)
  have h1 := hr.mono (j := k + 1) (by omega)
  have h2 := hr.mono (j := k + 2) (by omega)
  have h6 := hr.mono (j := k + 6) (by omega)
  have h7 := hr.mono (j := k + 7) (by omega)
  have tk : Takes (cxOf (L2.CX pg w) pg w K mg base f12_N f12_d.qual (defScope (topS 13)) fa cdv A outer s H E) (fun c d _ H => E c d H) := takes_of rfl rfl rfl rfl
  have hp : PassesOwn (model pg w) (A.deeper (envOfC f12_d.qual (defScope (topS 13)) s.heap.objs.size fa cdv)) (envOfC f12_d.qual (defScope (topS 13)) s.heap.objs.size fa cdv) (cxOf (L2.CX pg w) pg w K mg base f12_N f12_d.qual (defScope (topS 13)) fa cdv A outer s H E).xe := PassesOwn.leaving
  exact (sss_cons (ss_sidx (se_bin (bo_add h0 tk C.add) (se_idx (se_var rfl (.inl rfl) rfl rfl) (se_cst rfl) (fun _ _ => rfl)) (se_cst rfl)) (se_cst rfl) rfl (.inl rfl) rfl rfl rfl rfl (fun _ => rfl))
    (sss_cons (ss_ife (se_idx (se_var rfl (.inl rfl) rfl rfl) (se_cst rfl) (fun _ _ => rfl))
    (sss_cons (ss_asg (se_bin bo_mod (se_bi rfl (se_idx (se_var rfl (.inl rfl) rfl rfl) (se_cst rfl) (fun _ _ => rfl)) rfl rfl (C.gfree (i := 2) rfl) (by kernel_rfl) (by decide) rfl) (se_var rfl (.inl rfl) rfl rfl)) nd rfl (.inl rfl) (by decide) rfl (.inl rfl))
    (sss_cons (ss_sidx (se_bin bo_fdiv (se_bi rfl (se_idx (se_var rfl (.inl rfl) rfl rfl) (se_cst rfl) (fun _ _ => rfl)) rfl rfl (C.gfree (i := 2) rfl) (by kernel_rfl) (by decide) rfl) (se_var rfl (.inl rfl) rfl rfl)) (se_cst rfl) rfl (.inl rfl) rfl rfl rfl rfl (fun _ => rfl))
    (sss_cons (ss_ret (se_var rfl (.inl rfl) rfl rfl))
    sss_nil)))
    sss_nil)
    (sss_cons (ss_asg (se_bin bo_mod (se_bi rfl (se_bin (bo_add h0 tk C.add) (se_bin (bo_add h0 tk C.add) (se_bin (bo_mul h0 tk C.mul) (se_idx (se_var rfl (.inl rfl) rfl rfl) (se_cst rfl) (fun _ _ => rfl)) (se_cst rfl)) (se_bin (bo_mul h0 tk C.mul) (se_idx (se_var rfl (.inl rfl) rfl rfl) (se_cst rfl) (fun _ _ => rfl)) (se_cst rfl))) (se_cst rfl)) rfl rfl (C.gfree (i := 2) rfl) (by kernel_rfl) (by decide) rfl) (se_cst rfl)) nd rfl (.inl rfl) (by decide) rfl (.inl rfl))
    (sss_cons (ss_ret (se_bin bo_mod (se_bin bo_fdiv (se_bi rfl (se_bin bo_mod (se_bin bo_pow (se_var rfl (.inl rfl) rfl rfl) (se_cst rfl)) (se_cst rfl)) rfl rfl (C.gfree (i := 2) rfl) (by kernel_rfl) (by decide) rfl) (se_cst rfl)) (se_var rfl (.inl rfl) rfl rfl)))
    sss_nil))))
theorem f13_sc : FnScope f13_N ["_law_script", "_law_k"] (defScope (topS 14)) := ⟨rfl, rfl, rfl, by decide +kernel, rfl, by decide +kernel, by decide +kernel⟩
theorem f13_ok (C : Txt pg w K mg base N G cl k) (wt : Nat) {fa : Addr} {cdv : Value} (A : Around) (outer : List Env) (s : Shared) (H : Hp) (E : XK) (z0 : L2.St) (hr : Room (k + 8) (A.deeper (envOfC f13_d.qual (defScope (topS 14)) s.heap.objs.size fa cdv))) :
    SSs (N.T K) (RXP K) (fun c d _ H => E c d H) (lendIx f13.modes) z0 G cl wt (cxOf (L2.CX pg w) pg w K mg base f13_N f13_d.qual (defScope (topS 14)) fa cdv A outer s H E) (defBody (topS 14)) f13.body := by
  have nd := f13_sc.nd
  have h0 := hr.mono (j := k) (by omega)
  have h1 := hr.mono (j := k + 1) (by omega)
  have h2 := hr.mono (j := k + 2) (by omega)
  have h6 := hr.mono (j := k + 6) (by omega)
  have h7 := hr.mono (j := k + 7) (by omega)
  have tk : Takes (cxOf (L2.CX pg w) pg w K mg base f13_N f13_d.qual (defScope (topS 14)) fa cdv A outer s H E) (fun c d _ H => E c d H) := takes_of rfl rfl rfl rfl
  have hp : PassesOwn (model pg w) (A.deeper (envOfC f13_d.qual (defScope (topS 14)) s.heap.objs.size fa cdv)) (envOfC f13_d.qual (defScope (topS 14)) s.heap.objs.size fa cdv) (cxOf (L2.CX pg w) pg w K mg base f13_N f13_d.qual (defScope (topS 14)) fa cdv A outer s H E).xe := PassesOwn.leaving
  exact (sss_cons (ss_ife (se_cmp co_lt (se_var rfl (.inl rfl) rfl rfl) (se_bi rfl (se_var rfl (.inl rfl) rfl rfl) rfl rfl (C.gfree (i := 0) rfl) (by kernel_rfl) (by decide) rfl) rfl)
    (sss_cons (ss_ret (se_idx (se_var rfl (.inl rfl) rfl rfl) (se_var rfl (.inl rfl) rfl rfl) (fun _ _ => rfl)))
    sss_nil)
    sss_nil)
    (sss_cons (ss_ret (se_cst rfl))
    sss_nil))
theorem f14_sc : FnScope f14_N ["_law_word"] (defScope (topS 15)) := ⟨rfl, rfl, rfl, by decide +kernel, rfl, by decide +kernel, by decide +kernel⟩
theorem f14_ok (C : Txt pg w K mg base N G cl k) (wt : Nat) {fa : Addr} {cdv : Value} (A : Around) (outer : List Env) (s : Shared) (H : Hp) (E : XK) (z0 : L2.St) (hr : Room (k + 8) (A.deeper (envOfC f14_d.qual (defScope (topS 15)) s.heap.objs.size fa cdv))) :
    SSs (N.T K) (RXP K) (fun c d _ H => E c d H) (lendIx f14.modes) z0 G cl wt (cxOf (L2.CX pg w) pg w K mg base f14_N f14_d.qual (defScope (topS 15)) fa cdv A outer s H E) (defBody (topS 15)) f14.body := by
  have nd := f14_sc.nd
  have h0 := hr.mono (j := k) (by omega)
  have h1 := hr.mono (j := k + 1) (by omega)
  have h2 := hr.mono (j := k + 2) (by omega)
  have h6 := hr.mono (j := k + 6) (by omega)
  have h7 := hr.mono (j := k + 7) (by omega)
  have tk : Takes (cxOf (L2.CX pg w) pg w K mg base f14_N f14_d.qual (defScope (topS 15)) fa cdv A outer s H E) (fun c d _ H => E c d H) := takes_of rfl rfl rfl rfl
  have hp : PassesOwn (model pg w) (A.deeper (envOfC f14_d.qual (defScope (topS 15)) s.heap.objs.size fa cdv)) (envOfC f14_d.qual (defScope (topS 15)) s.heap.objs.size fa cdv) (cxOf (L2.CX pg w) pg w K mg base f14_N f14_d.qual (defScope (topS 15)) fa cdv A outer s H E).xe := PassesOwn.leaving
  exact (sss_cons (ss_ife (SW.se (sw_or (se_cmp (co_eq C.eq h6) (se_var rfl (.inl rfl) rfl rfl) (se_cst (by kernel_rfl)) rfl) (sw_or1 (se_cmp (co_ne C.eq h6) (se_comp rfl nd (ow := [("_law_sign", 1)]) (pi_seqR (se_var rfl (.inl rfl) rfl rfl)) (blk_ok (by kernel_rfl)) (fun _ _ _ _ _ => (pg_name (i := 1) nd rfl (.inl rfl) (.inr rfl))) (fun _ => (tgW rfl)) (fun _ _ _ _ _ => (pts_oneR (se_cmp (co_notin C.eq h7) (se_var rfl (.inl rfl) rfl rfl) (se_cst (by kernel_rfl)) rfl))) (fun _ _ _ _ _ => (se_var rfl (.inl rfl) rfl rfl)) (fun _ => rfl)) (se_lst pv_nil) rfl))))
    (sss_cons (ss_ret (se_cst rfl))
    sss_nil)
    sss_nil)
    (sss_cons (ss_ret (SW.se (sw_or (se_cmp (co_eq C.eq h6) (se_var rfl (.inl rfl) rfl rfl) (se_cst (by kernel_rfl)) rfl) (sw_or1 (se_cmp (co_ne C.eq h6) (se_idx (se_var rfl (.inl rfl) rfl rfl) (se_cst rfl) (fun _ _ => rfl)) (se_cst (by kernel_rfl)) rfl)))))
    sss_nil))
theorem f15_sc : FnScope f15_N ["_law_text"] (defScope (topS 16)) := ⟨rfl, rfl, rfl, by decide +kernel, rfl, by decide +kernel, by decide +kernel⟩
theorem f15_ok (C : Txt pg w K mg base N G cl k) (wt : Nat) {fa : Addr} {cdv : Value} (A : Around) (outer : List Env) (s : Shared) (H : Hp) (E : XK) (z0 : L2.St) (hr : Room (k + 8) (A.deeper (envOfC f15_d.qual (defScope (topS 16)) s.heap.objs.size fa cdv))) :
    SSs (N.T K) (RXP K) (fun c d _ H => E c d H) (lendIx f15.modes) z0 G cl wt (cxOf (L2.CX pg w) pg w K mg base f15_N f15_d.qual (defScope (topS 16)) fa cdv A outer s H E) (defBody (topS 16)) f15.body := by
  have nd := f15_sc.nd
  have h0 := hr.mono (j := k) (by omega)
  have h1 := hr.mono (j := k + 1) (by omega)
  have h2 := hr.mono (j := k + 2) (by omega)
  have h6 := hr.mono (j := k + 6) (by omega)
  have h7 := hr.mono (j := k + 7) (by omega)
  have tk : Takes (cxOf (L2.CX pg w) pg w K mg base f15_N f15_d.qual (defScope (topS 16)) fa cdv A outer s H E) (fun c d _ H => E c d H) := takes_of rfl rfl rfl rfl
  have hp : PassesOwn (model pg w) (A.deeper (envOfC f15_d.qual (defScope (topS 16)) s.heap.objs.size fa cdv)) (envOfC f15_d.qual (defScope (topS 16)) s.heap.objs.size fa cdv) (cxOf (L2.CX pg w) pg w K mg base f15_N f15_d.qual (defScope (topS 16)) fa cdv A outer s H E).xe := PassesOwn.leaving
  exact (sss_cons (ss_asg (se_split (se_var rfl (.inl rfl) rfl rfl) (se_cst (by kernel_rfl)) rfl rfl rfl) nd rfl (.inl rfl) (by decide) rfl (.inl rfl))
    (sss_cons (ss_asg (se_idx (se_var rfl (.inl rfl) rfl rfl) (se_cst rfl) (fun _ _ => rfl)) nd rfl (.inl rfl) (by decide) rfl (.inl rfl))
    (sss_cons (ss_asg (SW.se (sw_or (se_call (C.F 14 (lt_b rfl)) h0 tk (C.gfn (f := 14) rfl).2 rfl (C.gfn (f := 14) rfl).1 rfl (parg_cons rfl (pa_consV (se_var rfl (.inl rfl) rfl rfl) pa_nilR (.inl ⟨_, rfl, rfl⟩) (star_of rfl)))) (sw_or1 (SW.se (sw_and (se_cmp (co_eq C.eq h6) (se_slc (se_var rfl (.inl rfl) rfl rfl) po_noneR (po_someR (se_cst rfl))) (se_cst (by kernel_rfl)) rfl) (sw_and (se_call (C.F 14 (lt_b rfl)) h0 tk (C.gfn (f := 14) rfl).2 rfl (C.gfn (f := 14) rfl).1 rfl (parg_cons rfl (pa_consV (se_slc (se_var rfl (.inl rfl) rfl rfl) (po_someR (se_cst rfl)) po_noneR) pa_nilR (.inl ⟨_, rfl, rfl⟩) (star_of rfl)))) (sw_and1 (se_cmp (co_ne C.eq h6) (se_var rfl (.inl rfl) rfl rfl) (se_cst (by kernel_rfl)) rfl)))))))) nd rfl (.inl rfl) (by decide) rfl (.inl rfl))
    (sss_cons (ss_ife (SW.se (sw_or (se_cmp co_gt (se_bi rfl (se_var rfl (.inl rfl) rfl rfl) rfl rfl (C.gfree (i := 0) rfl) (by kernel_rfl) (by decide) rfl) (se_cst rfl) rfl) (sw_or1 (se_not (se_var rfl (.inl rfl) rfl rfl)))))
    (sss_cons (ss_ret (se_lst (pv_cons (se_cst (by kernel_rfl)) (pv_cons (se_cst rfl) pv_nil rfl) rfl)))
    sss_nil)
    sss_nil)
    (sss_cons (ss_ife (SW.se (sw_and (se_cmp (co_eq C.eq h6) (se_bi rfl (se_var rfl (.inl rfl) rfl rfl) rfl rfl (C.gfree (i := 0) rfl) (by kernel_rfl) (by decide) rfl) (se_cst rfl) rfl) (sw_and1 (SW.se (sw_or (se_not (se_call (C.F 14 (lt_b rfl)) h0 tk (C.gfn (f := 14) rfl).2 rfl (C.gfn (f := 14) rfl).1 rfl (parg_cons rfl (pa_consV (se_idx (se_var rfl (.inl rfl) rfl rfl) (se_cst rfl) (fun _ _ => rfl)) pa_nilR (.inl ⟨_, rfl, rfl⟩) (star_of rfl))))) (sw_or1 (se_cmp (co_eq C.eq h6) (se_idx (se_var rfl (.inl rfl) rfl rfl) (se_cst rfl) (fun _ _ => rfl)) (se_cst (by kernel_rfl)) rfl)))))))
    (sss_cons (ss_ret (se_lst (pv_cons (se_cst (by kernel_rfl)) (pv_cons (se_cst rfl) pv_nil rfl) rfl)))
    sss_nil)
    sss_nil)
    (sss_cons (ss_asg (se_cst rfl) nd rfl (.inl rfl) (by decide) rfl (.inl rfl))
    (sss_cons (ss_ife (se_cmp (co_eq C.eq h6) (se_bi rfl (se_var rfl (.inl rfl) rfl rfl) rfl rfl (C.gfree (i := 0) rfl) (by kernel_rfl) (by decide) rfl) (se_cst rfl) rfl)
    (sss_cons (ss_asg (se_bi rfl (se_idx (se_var rfl (.inl rfl) rfl rfl) (se_cst rfl) (fun _ _ => rfl)) rfl rfl (C.gfree (i := 2) rfl) (by kernel_rfl) (by decide) rfl) nd rfl (.inl rfl) (by decide) rfl (.inl rfl))
    sss_nil)
    sss_nil)
    (sss_cons (ss_ret (se_lst (pv_cons (se_cst (by kernel_rfl)) (pv_cons (se_bi rfl (se_var rfl (.inl rfl) rfl rfl) rfl rfl (C.gfree (i := 2) rfl) (by kernel_rfl) (by decide) rfl) (pv_cons (se_var rfl (.inl rfl) rfl rfl) pv_nil rfl) rfl) rfl)))
    sss_nil))))))))
theorem f16_sc : FnScope f16_N ["_law_text"] (defScope (topS 17)) := ⟨rfl, rfl, rfl, by decide +kernel, rfl, by decide +kernel, by decide +kernel⟩
theorem f16_ok (C : Txt pg w K mg base N G cl k) (wt : Nat) {fa : Addr} {cdv : Value} (A : Around) (outer : List Env) (s : Shared) (H : Hp) (E : XK) (z0 : L2.St) (hr : Room (k + 8) (A.deeper (envOfC f16_d.qual (defScope (topS 17)) s.heap.objs.size fa cdv))) :
    SSs (N.T K) (RXP K) (fun c d _ H => E c d H) (lendIx f16.modes) z0 G cl wt (cxOf (L2.CX pg w) pg w K mg base f16_N f16_d.qual (defScope (topS 17)) fa cdv A outer s H E) (defBody (topS 17)) f16.body := by
  have nd := f16_sc.nd
  have h0 := hr.mono (j := k) (by omega)
  have h1 := hr.mono (j := k + 1) (by omega)
  have h2 := hr.mono (j := k + 2) (by omega)
  have h6 := hr.mono (j := k + 6) (by omega)
  have h7 := hr.mono (j := k + 7) (by omega)
  have tk : Takes (cxOf (L2.CX pg w) pg w K mg base f16_N f16_d.qual (defScope (topS 17)) fa cdv A outer s H E) (fun c d _ H => E c d H) := takes_of rfl rfl rfl rfl
  have hp : PassesOwn (model pg w) (A.deeper (envOfC f16_d.qual (defScope (topS 17)) s.heap.objs.size fa cdv)) (envOfC f16_d.qual (defScope (topS 17)) s.heap.objs.size fa cdv) (cxOf (L2.CX pg w) pg w K mg base f16_N f16_d.qual (defScope (topS 17)) fa cdv A outer s H E).xe := PassesOwn.leaving
  exact (sss_cons (ss_try rfl rfl nd C.exm tk (fun W' pn xe tk' hp' => (sss_cons (ss_asg (se_cmeth (C.CM (m := 12) rfl) h0 tk' (se_cls (lt_b rfl) rfl (C.gcls rfl) rfl) (fun _ _ e => PA.val (cmeth_val rfl e) (pa_consV (se_var rfl (.inl rfl) rfl rfl) pa_nilR (.inr ⟨rfl, rfl⟩) (star_of rfl))) rfl rfl (lt_b rfl) rfl) nd rfl (.inl rfl) (by decide) rfl (.inl rfl))
    sss_nil)) (.as (by decide) ⟨rfl, rfl, .inl (C.gcls rfl)⟩ rfl rfl (by decide) (fun v a oe cls d pn hc hz hv => (hx_lst (hxs_cons (hx_cst (by kernel_rfl)) (hxs_cons (hx_exf hc rfl (C.xf (c := 3) rfl) (C.xno (c := 3) rfl (by decide)) hz hv rfl rfl rfl rfl) hxs_nil rfl) rfl) (by decide))) .nil))
    (sss_cons (ss_ret (se_lst (pv_cons (se_cst (by kernel_rfl)) (pv_cons (se_fld C.tb (se_var rfl (.inl rfl) rfl rfl) (lt_b rfl) rfl rfl) (pv_cons (se_fld C.tb (se_var rfl (.inl rfl) rfl rfl) (lt_b rfl) rfl rfl) pv_nil rfl) rfl) rfl)))
    sss_nil))
theorem f17_sc : FnScope f17_N ["_law_text"] (defScope (topS 18)) := ⟨rfl, rfl, rfl, by decide +kernel, rfl, by decide +kernel, by decide +kernel⟩
theorem f17_ok (C : Txt pg w K mg base N G cl k) (wt : Nat) {fa : Addr} {cdv : Value} (A : Around) (outer : List Env) (s : Shared) (H : Hp) (E : XK) (z0 : L2.St) (hr : Room (k + 8) (A.deeper (envOfC f17_d.qual (defScope (topS 18)) s.heap.objs.size fa cdv))) :
    SSs (N.T K) (RXP K) (fun c d _ H => E c d H) (lendIx f17.modes) z0 G cl wt (cxOf (L2.CX pg w) pg w K mg base f17_N f17_d.qual (defScope (topS 18)) fa cdv A outer s H E) (defBody (topS 18)) f17.body := by
  have nd := f17_sc.nd
  have h0 := hr.mono (j := k) (by omega)
  have h1 := hr.mono (j := k + 1) (by omega)
  have h2 := hr.mono (j := k + 2) (by omega)
  have h6 := hr.mono (j := k + 6) (by omega)
  have h7 := hr.mono (j := k + 7) (by omega)
  have tk : Takes (cxOf (L2.CX pg w) pg w K mg base f17_N f17_d.qual (defScope (topS 18)) fa cdv A outer s H E) (fun c d _ H => E c d H) := takes_of rfl rfl rfl rfl
  have hp : PassesOwn (model pg w) (A.deeper (envOfC f17_d.qual (defScope (topS 18)) s.heap.objs.size fa cdv)) (envOfC f17_d.qual (defScope (topS 18)) s.heap.objs.size fa cdv) (cxOf (L2.CX pg w) pg w K mg base f17_N f17_d.qual (defScope (topS 18)) fa cdv A outer s H E).xe := PassesOwn.leaving
  exact (sss_cons (ss_par rfl nd rfl rfl (by decide) rfl rfl (pv_cons (se_call (C.F 15 (lt_b rfl)) h0 tk (C.gfn (f := 15) rfl).2 rfl (C.gfn (f := 15) rfl).1 rfl (parg_cons rfl (pa_consV (se_var rfl (.inl rfl) rfl rfl) pa_nilR (.inl ⟨_, rfl, rfl⟩) (star_of rfl)))) (pv_cons (se_call (C.F 16 (lt_b rfl)) h0 tk (C.gfn (f := 16) rfl).2 rfl (C.gfn (f := 16) rfl).1 rfl (parg_cons rfl (pa_consV (se_var rfl (.inl rfl) rfl rfl) pa_nilR (.inl ⟨_, rfl, rfl⟩) (star_of rfl)))) pv_nil rfl) rfl) rfl rfl (by decide) (by decide))
    (sss_cons (ss_ife (SW.se (sw_or (se_cmp (co_eq C.eq h6) (se_idx (se_var rfl (.inl rfl) rfl rfl) (se_cst rfl) (fun _ _ => rfl)) (se_cst (by kernel_rfl)) rfl) (sw_or1 (se_cmp (co_eq C.eq h6) (se_idx (se_var rfl (.inl rfl) rfl rfl) (se_cst rfl) (fun _ _ => rfl)) (se_cst (by kernel_rfl)) rfl))))
    (sss_cons (ss_ret (se_cmp (co_eq C.eq h6) (se_var rfl (.inl rfl) rfl rfl) (se_var rfl (.inl rfl) rfl rfl) rfl))
    sss_nil)
    sss_nil)
    (sss_cons (ss_par rfl nd rfl rfl (by decide) rfl rfl (pv_cons (se_bi rfl (se_idx (se_var rfl (.inl rfl) rfl rfl) (se_cst rfl) (fun _ _ => rfl)) rfl rfl (C.gfree (i := 1) rfl) (by kernel_rfl) (by decide) rfl) (pv_cons (se_idx (se_var rfl (.inl rfl) rfl rfl) (se_cst rfl) (fun _ _ => rfl)) pv_nil rfl) rfl) rfl rfl (by decide) (by decide))
    (sss_cons (ss_whl hp (se_cmp co_gt (se_var rfl (.inl rfl) rfl rfl) (se_cst rfl) rfl) (sss_cons (ss_par rfl nd rfl rfl (by decide) rfl rfl (pv_cons (se_var rfl (.inl rfl) rfl rfl) (pv_cons (se_bin bo_mod (se_var rfl (.inl rfl) rfl rfl) (se_var rfl (.inl rfl) rfl rfl)) pv_nil rfl) rfl) rfl rfl (by decide) (by decide))
    sss_nil))
    (sss_cons (ss_par rfl nd rfl rfl (by decide) rfl rfl (pv_cons (se_bin bo_fdiv (se_idx (se_var rfl (.inl rfl) rfl rfl) (se_cst rfl) (fun _ _ => rfl)) (se_var rfl (.inl rfl) rfl rfl)) (pv_cons (se_bin bo_fdiv (se_idx (se_var rfl (.inl rfl) rfl rfl) (se_cst rfl) (fun _ _ => rfl)) (se_var rfl (.inl rfl) rfl rfl)) pv_nil rfl) rfl) rfl rfl (by decide) (by decide))
    (sss_cons (ss_ife (se_cmp (co_ne C.eq h6) (se_var rfl (.inl rfl) rfl rfl) (se_lst (pv_cons (se_cst (by kernel_rfl)) (pv_cons (se_var rfl (.inl rfl) rfl rfl) (pv_cons (se_var rfl (.inl rfl) rfl rfl) pv_nil rfl) rfl) rfl)) rfl)
    (sss_cons (ss_ret (se_cst rfl))
    sss_nil)
    sss_nil)
    (sss_cons (ss_ret (se_cmp (co_eq C.eq h6) (se_sto h2 tk C.sto (se_cmeth (C.CM (m := 12) rfl) h0 tk (se_cls (lt_b rfl) rfl (C.gcls rfl) rfl) (fun _ _ e => PA.val (cmeth_val rfl e) (pa_consV (se_var rfl (.inl rfl) rfl rfl) pa_nilR (.inr ⟨rfl, rfl⟩) (star_of rfl))) rfl rfl (lt_b rfl) rfl) rfl rfl (C.gfree (i := 4) rfl)) (se_bin (bo_add h0 tk C.add) (se_sto h2 tk C.sto (se_var rfl (.inl rfl) rfl rfl) rfl rfl (C.gfree (i := 4) rfl)) (se_idx (se_lst (pv_cons (se_bin (bo_add h0 tk C.add) (se_cst (by kernel_rfl)) (se_sto h2 tk C.sto (se_var rfl (.inl rfl) rfl rfl) rfl rfl (C.gfree (i := 4) rfl))) (pv_cons (se_cst (by kernel_rfl)) pv_nil rfl) rfl)) (se_bi rfl (se_cmp (co_eq C.eq h6) (se_var rfl (.inl rfl) rfl rfl) (se_cst rfl) rfl) rfl rfl (C.gfree (i := 2) rfl) (by kernel_rfl) (by decide) rfl) (fun _ _ => rfl))) rfl))
    sss_nil)))))))
theorem f18_sc : FnScope f18_N ["_law_pool", "_law_text"] (defScope (topS 19)) := ⟨rfl, rfl, rfl, by decide +kernel, rfl, by decide +kernel, by decide +kernel⟩
theorem f18_ok (C : Txt pg w K mg base N G cl k) (wt : Nat) {fa : Addr} {cdv : Value} (A : Around) (outer : List Env) (s : Shared) (H : Hp) (E : XK) (z0 : L2.St) (hr : Room (k + 8) (A.deeper (envOfC f18_d.qual (defScope (topS 19)) s.heap.objs.size fa cdv))) :
    SSs (N.T K) (RXP K) (fun c d _ H => E c d H) (lendIx f18.modes) z0 G cl wt (cxOf (L2.CX pg w) pg w K mg base f18_N f18_d.qual (defScope (topS 19)) fa cdv A outer s H E) (defBody (topS 19)) f18.body := by
  have nd := f18_sc.nd
  have h0 := hr.mono (j := k) (by omega)
  have h1 := hr.mono (j := k + 1) (by omega)
  have h2 := hr.mono (j := k + 2) (by omega)
  have h6 := hr.mono (j := k + 6) (by omega)
  have h7 := hr.mono (j := k + 7) (by omega)
  have tk : Takes (cxOf (L2.CX pg w) pg w K mg base f18_N f18_d.qual (defScope (topS 19)) fa cdv A outer s H E) (fun c d _ H => E c d H) := takes_of rfl rfl rfl rfl
  have hp : PassesOwn (model pg w) (A.deeper (envOfC f18_d.qual (defScope (topS 19)) s.heap.objs.size fa cdv)) (envOfC f18_d.qual (defScope (topS 19)) s.heap.objs.size fa cdv) (cxOf (L2.CX pg w) pg w K mg base f18_N f18_d.qual (defScope (topS 19)) fa cdv A outer s H E).xe := PassesOwn.leaving
  exact (sss_cons (ss_asg (se_call (C.F 12 (lt_b rfl)) h0 tk (C.gfn (f := 12) rfl).2 rfl (C.gfn (f := 12) rfl).1 rfl (parg_cons rfl (pa_consL rfl (.inl rfl) rfl rfl (pa_consV (se_cst rfl) pa_nilR (.inl ⟨_, rfl, rfl⟩) (star_of rfl))))) nd rfl (.inl rfl) (by decide) rfl (.inl rfl))
    (sss_cons (ss_asg (se_call (C.F 12 (lt_b rfl)) h0 tk (C.gfn (f := 12) rfl).2 rfl (C.gfn (f := 12) rfl).1 rfl (parg_cons rfl (pa_consL rfl (.inl rfl) rfl rfl (pa_consV (se_bin (bo_add h0 tk C.add) (se_bi rfl (se_var rfl (.inl rfl) rfl rfl) rfl rfl (C.gfree (i := 0) rfl) (by kernel_rfl) (by decide) rfl) (se_cst rfl)) pa_nilR (.inl ⟨_, rfl, rfl⟩) (star_of rfl))))) nd rfl (.inl rfl) (by decide) rfl (.inl rfl))
    (sss_cons (ss_ife (se_cmp (co_eq C.eq h6) (se_var rfl (.inl rfl) rfl rfl) (se_cst rfl) rfl)
    (sss_cons (ss_ret (se_bin (bo_add h0 tk C.add) (se_slc (se_var rfl (.inl rfl) rfl rfl) po_noneR (po_someR (se_var rfl (.inl rfl) rfl rfl))) (se_slc (se_var rfl (.inl rfl) rfl rfl) (po_someR (se_bin (bo_add h0 tk C.add) (se_var rfl (.inl rfl) rfl rfl) (se_cst rfl))) po_noneR)))
    sss_nil)
    sss_nil)
    (sss_cons (ss_ife (se_cmp (co_eq C.eq h6) (se_var rfl (.inl rfl) rfl rfl) (se_cst rfl) rfl)
    (sss_cons (ss_ret (se_bin (bo_add h0 tk C.add) (se_bin (bo_add h0 tk C.add) (se_slc (se_var rfl (.inl rfl) rfl rfl) po_noneR (po_someR (se_var rfl (.inl rfl) rfl rfl))) (se_idx (se_cst (by kernel_rfl)) (se_call (C.F 12 (lt_b rfl)) h0 tk (C.gfn (f := 12) rfl).2 rfl (C.gfn (f := 12) rfl).1 rfl (parg_cons rfl (pa_consL rfl (.inl rfl) rfl rfl (pa_consV (se_cst rfl) pa_nilR (.inl ⟨_, rfl, rfl⟩) (star_of rfl))))) (fun _ _ => rfl))) (se_slc (se_var rfl (.inl rfl) rfl rfl) (po_someR (se_var rfl (.inl rfl) rfl rfl)) po_noneR)))
    sss_nil)
    sss_nil)
    (sss_cons (ss_ife (se_cmp (co_eq C.eq h6) (se_var rfl (.inl rfl) rfl rfl) (se_cst rfl) rfl)
    (sss_cons (ss_ret (se_join (se_cst (by kernel_rfl)) (se_rev (se_split (se_var rfl (.inl rfl) rfl rfl) (se_cst (by kernel_rfl)) rfl rfl rfl)) rfl rfl rfl))
    sss_nil)
    sss_nil)
    (sss_cons (ss_ife (se_cmp (co_eq C.eq h6) (se_var rfl (.inl rfl) rfl rfl) (se_cst rfl) rfl)
    (sss_cons (ss_ret (se_bin (bo_add h0 tk C.add) (se_bin (bo_add h0 tk C.add) (se_var rfl (.inl rfl) rfl rfl) (se_cst (by kernel_rfl))) (se_var rfl (.inl rfl) rfl rfl)))
    sss_nil)
    sss_nil)
    (sss_cons (ss_ret (se_bin (bo_add h0 tk C.add) (se_slc (se_var rfl (.inl rfl) rfl rfl) po_noneR (po_someR (se_var rfl (.inl rfl) rfl rfl))) (se_slc (se_var rfl (.inl rfl) rfl rfl) (po_someR (se_mxm rfl (se_cst rfl) (se_bin (bo_sub h0 tk C.sub) (se_var rfl (.inl rfl) rfl rfl) (se_cst rfl)) rfl rfl rfl rfl (C.gfree (i := 9) rfl))) po_noneR)))
    sss_nil)))))))
theorem f19_sc : FnScope f19_N ["_law_script"] (defScope (topS 20)) := ⟨rfl, rfl, rfl, by decide +kernel, rfl, by decide +kernel, by decide +kernel⟩
theorem f19_ok (C : Txt pg w K mg base N G cl k) (wt : Nat) {fa : Addr} {cdv : Value} (A : Around) (outer : List Env) (s : Shared) (H : Hp) (E : XK) (z0 : L2.St) (hr : Room (k + 8) (A.deeper (envOfC f19_d.qual (defScope (topS 20)) s.heap.objs.size fa cdv))) :
    SSs (N.T K) (RXP K) (fun c d _ H => E c d H) (lendIx f19.modes) z0 G cl wt (cxOf (L2.CX pg w) pg w K mg base f19_N f19_d.qual (defScope (topS 20)) fa cdv A outer s H E) (defBody (topS 20)) f19.body := by
  have nd := f19_sc.nd
  have h0 := hr.mono (j := k) (by omega)
  have h1 := hr.mono (j := k + 1) (by omega)
  have h2 := hr.mono (j := k + 2) (by omega)
  have h6 := hr.mono (j := k + 6) (by omega)
  have h7 := hr.mono (j := k + 7) (by omega)
  have tk : Takes (cxOf (L2.CX pg w) pg w K mg base f19_N f19_d.qual (defScope (topS 20)) fa cdv A outer s H E) (fun c d _ H => E c d H) := takes_of rfl rfl rfl rfl
  have hp : PassesOwn (model pg w) (A.deeper (envOfC f19_d.qual (defScope (topS 20)) s.heap.objs.size fa cdv)) (envOfC f19_d.qual (defScope (topS 20)) s.heap.objs.size fa cdv) (cxOf (L2.CX pg w) pg w K mg base f19_N f19_d.qual (defScope (topS 20)) fa cdv A outer s H E).xe := PassesOwn.leaving
  exact (sss_cons (ss_asg (se_call (C.F 11 (lt_b rfl)) h0 tk (C.gfn (f := 11) rfl).2 rfl (C.gfn (f := 11) rfl).1 rfl (parg_cons rfl (pa_consV (se_call (C.F 13 (lt_b rfl)) h0 tk (C.gfn (f := 13) rfl).2 rfl (C.gfn (f := 13) rfl).1 rfl (parg_cons rfl (pa_consV (se_var rfl (.inl rfl) rfl rfl) (pa_consV (se_cst rfl) pa_nilR (.inl ⟨_, rfl, rfl⟩) (star_of rfl)) (.inl ⟨_, rfl, rfl⟩) (star_of rfl)))) pa_nilR (.inl ⟨_, rfl, rfl⟩) (star_of rfl)))) nd rfl (.inl rfl) (by decide) rfl (.inl rfl))
    (sss_cons (ss_asg (se_idx (se_lst (pv_cons (se_cst rfl) (pv_cons (se_cst rfl) (pv_cons (se_bin bo_pow (se_cst rfl) (se_cst rfl)) (pv_cons (se_bin bo_pow (se_cst rfl) (se_cst rfl)) pv_nil rfl) rfl) rfl) rfl)) (se_call (C.F 12 (lt_b rfl)) h0 tk (C.gfn (f := 12) rfl).2 rfl (C.gfn (f := 12) rfl).1 rfl (parg_cons rfl (pa_consL rfl (.inl rfl) rfl rfl (pa_consV (se_cst rfl) pa_nilR (.inl ⟨_, rfl, rfl⟩) (star_of rfl))))) (fun _ _ => rfl)) nd rfl (.inl rfl) (by decide) rfl (.inl rfl))
    (sss_cons (ss_par rfl nd rfl rfl (by decide) rfl rfl (pv_cons (se_bin (bo_sub h0 tk C.sub) (se_call (C.F 12 (lt_b rfl)) h0 tk (C.gfn (f := 12) rfl).2 rfl (C.gfn (f := 12) rfl).1 rfl (parg_cons rfl (pa_consL rfl (.inl rfl) rfl rfl (pa_consV (se_bin (bo_add h0 tk C.add) (se_bin (bo_mul h0 tk C.mul) (se_cst rfl) (se_var rfl (.inl rfl) rfl rfl)) (se_cst rfl)) pa_nilR (.inl ⟨_, rfl, rfl⟩) (star_of rfl))))) (se_var rfl (.inl rfl) rfl rfl)) (pv_cons (se_bin (bo_add h0 tk C.add) (se_cst rfl) (se_call (C.F 12 (lt_b rfl)) h0 tk (C.gfn (f := 12) rfl).2 rfl (C.gfn (f := 12) rfl).1 rfl (parg_cons rfl (pa_consL rfl (.inl rfl) rfl rfl (pa_consV (se_var rfl (.inl rfl) rfl rfl) pa_nilR (.inl ⟨_, rfl, rfl⟩) (star_of rfl)))))) pv_nil rfl) rfl) rfl rfl (by decide) (by decide))
    (sss_cons (ss_asg (se_make (lt_b rfl) rfl (C.init_at (c := 0) (lt_b rfl) rfl).2 (C.F 3 (lt_b rfl)) h1 tk rfl (C.gcls rfl) rfl (parg_cons rfl (pa_consV (se_var rfl (.inl rfl) rfl rfl) (pa_consV (se_var rfl (.inl rfl) rfl rfl) pa_nilR (.inl ⟨_, rfl, rfl⟩) (star_of rfl)) (.inl ⟨_, rfl, rfl⟩) (star_of rfl)))) nd rfl (.inl rfl) (by decide) rfl (.inl rfl))
    (sss_cons (ss_asg (se_sto h2 tk C.sto (se_var rfl (.inl rfl) rfl rfl) rfl rfl (C.gfree (i := 4) rfl)) nd rfl (.inl rfl) (by decide) rfl (.inl rfl))
    (sss_cons (ss_ife (SW.se (sw_and (se_cmp (co_eq C.eq h6) (se_fld C.tb (se_var rfl (.inl rfl) rfl rfl) (lt_b rfl) rfl rfl) (se_cst rfl) rfl) (sw_and1 (se_cmp (co_ne C.eq h6) (se_var rfl (.inl rfl) rfl rfl) (se_sto h2 tk C.sto (se_fld C.tb (se_var rfl (.inl rfl) rfl rfl) (lt_b rfl) rfl rfl) rfl rfl (C.gfree (i := 4) rfl)) rfl))))
    (sss_cons (ss_ret (se_cst rfl))
    sss_nil)
    sss_nil)
    (sss_cons (ss_ife (SW.se (sw_and (se_cmp co_gt (se_fld C.tb (se_var rfl (.inl rfl) rfl rfl) (lt_b rfl) rfl rfl) (se_cst rfl) rfl) (sw_and1 (se_cmp (co_ne C.eq h6) (se_var rfl (.inl rfl) rfl rfl) (se_bin (bo_add h0 tk C.add) (se_bin (bo_add h0 tk C.add) (se_sto h2 tk C.sto (se_fld C.tb (se_var rfl (.inl rfl) rfl rfl) (lt_b rfl) rfl rfl) rfl rfl (C.gfree (i := 4) rfl)) (se_cst (by kernel_rfl))) (se_sto h2 tk C.sto (se_fld C.tb (se_var rfl (.inl rfl) rfl rfl) (lt_b rfl) rfl rfl) rfl rfl (C.gfree (i := 4) rfl))) rfl))))
    (sss_cons (ss_ret (se_cst rfl))
    sss_nil)
    sss_nil)
    (sss_cons (ss_ife (SW.se (sw_or (se_not (se_cmp (co_eq C.eq h6) (se_cmeth (C.CM (m := 12) rfl) h0 tk (se_cls (lt_b rfl) rfl (C.gcls rfl) rfl) (fun _ _ e => PA.val (cmeth_val rfl e) (pa_consV (se_var rfl (.inl rfl) rfl rfl) pa_nilR (.inr ⟨rfl, rfl⟩) (star_of rfl))) rfl rfl (lt_b rfl) rfl) (se_var rfl (.inl rfl) rfl rfl) rfl)) (sw_or1 (se_not (se_cmp (co_eq C.eq h6) (se_cmeth (C.CM (m := 12) rfl) h0 tk (se_cls (lt_b rfl) rfl (C.gcls rfl) rfl) (fun _ _ e => PA.val (cmeth_val rfl e) (pa_consV (se_bin (bo_add h0 tk C.add) (se_bin (bo_add h0 tk C.add) (se_sto h2 tk C.sto (se_var rfl (.inl rfl) rfl rfl) rfl rfl (C.gfree (i := 4) rfl)) (se_cst (by kernel_rfl))) (se_sto h2 tk C.sto (se_var rfl (.inl rfl) rfl rfl) rfl rfl (C.gfree (i := 4) rfl))) pa_nilR (.inr ⟨rfl, rfl⟩) (star_of rfl))) rfl rfl (lt_b rfl) rfl) (se_var rfl (.inl rfl) rfl rfl) rfl)))))
    (sss_cons (ss_ret (se_cst rfl))
    sss_nil)
    sss_nil)
    (sss_cons (ss_for hp rfl (pi_seqR (se_bin (bo_add h0 tk C.add) (se_lst (pv_cons (se_call (C.F 13 (lt_b rfl)) h0 tk (C.gfn (f := 13) rfl).2 rfl (C.gfn (f := 13) rfl).1 rfl (parg_cons rfl (pa_consV (se_var rfl (.inl rfl) rfl rfl) (pa_consV (se_cst rfl) pa_nilR (.inl ⟨_, rfl, rfl⟩) (star_of rfl)) (.inl ⟨_, rfl, rfl⟩) (star_of rfl)))) pv_nil rfl)) (se_bi rfl (se_slc (se_var rfl (.inl rfl) rfl rfl) (po_someR (se_cst rfl)) (po_someR (se_cst rfl))) rfl rfl (C.gfree (i := 5) rfl) (by kernel_rfl) (by decide) rfl))) (pg_name (i := 7) nd rfl (.inl rfl) (.inl rfl)) (tgK (by decide))
    (sss_cons (ss_asg (se_call (C.F 11 (lt_b rfl)) h0 tk (C.gfn (f := 11) rfl).2 rfl (C.gfn (f := 11) rfl).1 rfl (parg_cons rfl (pa_consV (se_var rfl (.inl rfl) rfl rfl) pa_nilR (.inl ⟨_, rfl, rfl⟩) (star_of rfl)))) nd rfl (.inl rfl) (by decide) rfl (.inl rfl))
    (sss_cons (ss_asg (se_idx (se_lst (pv_cons (se_var rfl (.inl rfl) rfl rfl) (pv_cons (se_bin (bo_add h0 tk C.add) (se_bin (bo_add h0 tk C.add) (se_sto h2 tk C.sto (se_var rfl (.inl rfl) rfl rfl) rfl rfl (C.gfree (i := 4) rfl)) (se_cst (by kernel_rfl))) (se_sto h2 tk C.sto (se_var rfl (.inl rfl) rfl rfl) rfl rfl (C.gfree (i := 4) rfl))) (pv_cons (se_cst (by kernel_rfl)) (pv_cons (se_cst (by kernel_rfl)) (pv_cons (se_cst (by kernel_rfl)) pv_nil rfl) rfl) rfl) rfl) rfl)) (se_call (C.F 12 (lt_b rfl)) h0 tk (C.gfn (f := 12) rfl).2 rfl (C.gfn (f := 12) rfl).1 rfl (parg_cons rfl (pa_consL rfl (.inl rfl) rfl rfl (pa_consV (se_cst rfl) pa_nilR (.inl ⟨_, rfl, rfl⟩) (star_of rfl))))) (fun _ _ => rfl)) nd rfl (.inl rfl) (by decide) rfl (.inl rfl))
    (sss_cons (ss_for hp rfl (pi_rng1R rfl (C.gfree (i := 13) rfl) (pv_cons (se_bin (bo_add h0 tk C.add) (se_cst rfl) (se_call (C.F 12 (lt_b rfl)) h0 tk (C.gfn (f := 12) rfl).2 rfl (C.gfn (f := 12) rfl).1 rfl (parg_cons rfl (pa_consL rfl (.inl rfl) rfl rfl (pa_consV (se_cst rfl) pa_nilR (.inl ⟨_, rfl, rfl⟩) (star_of rfl)))))) pv_nil rfl) rfl (evs_len rfl)) (pg_name (i := 9) nd rfl (.inl rfl) (.inl rfl)) (tgK (by decide))
    (sss_cons (ss_asg (se_call (C.F 18 (lt_b rfl)) h0 tk (C.gfn (f := 18) rfl).2 rfl (C.gfn (f := 18) rfl).1 rfl (parg_cons rfl (pa_consL rfl (.inl rfl) rfl rfl (pa_consV (se_var rfl (.inl rfl) rfl rfl) pa_nilR (.inl ⟨_, rfl, rfl⟩) (star_of rfl))))) nd rfl (.inl rfl) (by decide) rfl (.inl rfl))
    sss_nil) (fun _ => rfl))
    (sss_cons (ss_ife (se_not (se_call (C.F 17 (lt_b rfl)) h0 tk (C.gfn (f := 17) rfl).2 rfl (C.gfn (f := 17) rfl).1 rfl (parg_cons rfl (pa_consV (se_var rfl (.inl rfl) rfl rfl) pa_nilR (.inl ⟨_, rfl, rfl⟩) (star_of rfl)))))
    (sss_cons (ss_ret (se_cst rfl))
    sss_nil)
    sss_nil)
    sss_nil)))) (fun _ => rfl))
    (sss_cons (ss_ret (SW.se (sw_and (se_cmp (co_eq C.eq h6) (se_call (C.F 16 (lt_b rfl)) h0 tk (C.gfn (f := 16) rfl).2 rfl (C.gfn (f := 16) rfl).1 rfl (parg_cons rfl (pa_consV (se_cst (by kernel_rfl)) pa_nilR (.inl ⟨_, rfl, rfl⟩) (star_of rfl)))) (se_lst (pv_cons (se_cst (by kernel_rfl)) (pv_cons (se_cst rfl) pv_nil rfl) rfl)) rfl) (sw_and1 (se_cmp (co_eq C.eq h6) (se_call (C.F 16 (lt_b rfl)) h0 tk (C.gfn (f := 16) rfl).2 rfl (C.gfn (f := 16) rfl).1 rfl (parg_cons rfl (pa_consV (se_cst (by kernel_rfl)) pa_nilR (.inl ⟨_, rfl, rfl⟩) (star_of rfl)))) (se_lst (pv_cons (se_cst (by kernel_rfl)) (pv_cons (se_cst rfl) pv_nil rfl) rfl)) rfl)))))
    sss_nil))))))))))
variable {n wt : Nat}
theorem f0_stepO (C : Txt pg w K mg base N G (callD G wt n) k) {oc cdv kV doc pm ct : Value} {od an : Option Addr} {osl : Array (Option Value)} (lk : K.lookup (N.fA K 0) = some ⟨oc, od, .func (PySem.W.fnOf f0_d.name f0_d.qual (defArgs f0_d.st) (defBody f0_d.st) (defScope f0_d.st) .none kV doc pm an cdv ct), osl⟩) (hc : PySem.W.codeIn K cdv f0_d.qual = true) :
    FnOk pg w K mg base (L2.CX pg w) (k + 9) (N.fA K 0) (PySem.W.fnOf f0_d.name f0_d.qual (defArgs f0_d.st) (defBody f0_d.st) (defScope f0_d.st) .none kV doc pm an cdv ct) ["a", "b"] (spD (N.T K) (RXP K) (callD G wt (n + 1)) 0) :=
  fn_stepO (k := k + 8) lk hc f0_sc rfl rfl rfl rfl fun A outer s H E z0 hr => f0_ok C wt A outer s H E z0 hr
theorem f0_step (C : Txt pg w K mg base N G (callD G wt n) k) (h : fnV K (f0_d.at_.a K) = f0_d.val [] ∧ codeB K (f0_d.at_.a K) f0_d.qual = true) : FnR pg w K mg base (L2.CX pg w) (k + 9) (N.fA K 0) (spD (N.T K) (RXP K) (callD G wt (n + 1)) 0) := by
  obtain ⟨oc, od, osl, kV, doc, pm, an, cdv, ct, lk, hc⟩ := fnV_ok h.1 h.2
  have F1 := (f0_stepO C lk hc).raw (Binds.all fun us hl => match us, hl with | [_, _], _ => rfl) .nil
  exact F1.imp fun vs H Q E h => by rw [List.append_nil]; exact h
theorem f1_stepO (C : Txt pg w K mg base N G (callD G wt n) k) {oc cdv kV doc pm ct : Value} {od an : Option Addr} {osl : Array (Option Value)} (lk : K.lookup (N.fA K 1) = some ⟨oc, od, .func (PySem.W.fnOf f1_d.name f1_d.qual (defArgs f1_d.st) (defBody f1_d.st) (defScope f1_d.st) .none kV doc pm an cdv ct), osl⟩) (hc : PySem.W.codeIn K cdv f1_d.qual = true) :
    FnOk pg w K mg base (L2.CX pg w) (k + 9) (N.fA K 1) (PySem.W.fnOf f1_d.name f1_d.qual (defArgs f1_d.st) (defBody f1_d.st) (defScope f1_d.st) .none kV doc pm an cdv ct) ["word"] (spD (N.T K) (RXP K) (callD G wt (n + 1)) 1) :=
  fn_stepO (k := k + 8) lk hc f1_sc rfl rfl rfl rfl fun A outer s H E z0 hr => f1_ok C wt A outer s H E z0 hr
theorem f1_step (C : Txt pg w K mg base N G (callD G wt n) k) (h : fnV K (f1_d.at_.a K) = f1_d.val [] ∧ codeB K (f1_d.at_.a K) f1_d.qual = true) : FnR pg w K mg base (L2.CX pg w) (k + 9) (N.fA K 1) (spD (N.T K) (RXP K) (callD G wt (n + 1)) 1) := by
  obtain ⟨oc, od, osl, kV, doc, pm, an, cdv, ct, lk, hc⟩ := fnV_ok h.1 h.2
  have F1 := (f1_stepO C lk hc).raw (Binds.all fun us hl => match us, hl with | [_], _ => rfl) .nil
  exact F1.imp fun vs H Q E h => by rw [List.append_nil]; exact h
theorem f2_stepO (C : Txt pg w K mg base N G (callD G wt n) k) {oc cdv kV doc pm ct : Value} {od an : Option Addr} {osl : Array (Option Value)} (lk : K.lookup (N.fA K 2) = some ⟨oc, od, .func (PySem.W.fnOf f2_d.name f2_d.qual (defArgs f2_d.st) (defBody f2_d.st) (defScope f2_d.st) .none kV doc pm an cdv ct), osl⟩) (hc : PySem.W.codeIn K cdv f2_d.qual = true) :
    FnOk pg w K mg base (L2.CX pg w) (k + 9) (N.fA K 2) (PySem.W.fnOf f2_d.name f2_d.qual (defArgs f2_d.st) (defBody f2_d.st) (defScope f2_d.st) .none kV doc pm an cdv ct) ["word"] (spD (N.T K) (RXP K) (callD G wt (n + 1)) 2) :=
  fn_stepO (k := k + 8) lk hc f2_sc rfl rfl rfl rfl fun A outer s H E z0 hr => f2_ok C wt A outer s H E z0 hr
theorem f2_step (C : Txt pg w K mg base N G (callD G wt n) k) (h : fnV K (f2_d.at_.a K) = f2_d.val [] ∧ codeB K (f2_d.at_.a K) f2_d.qual = true) : FnR pg w K mg base (L2.CX pg w) (k + 9) (N.fA K 2) (spD (N.T K) (RXP K) (callD G wt (n + 1)) 2) := by
  obtain ⟨oc, od, osl, kV, doc, pm, an, cdv, ct, lk, hc⟩ := fnV_ok h.1 h.2
  have F1 := (f2_stepO C lk hc).raw (Binds.all fun us hl => match us, hl with | [_], _ => rfl) .nil
  exact F1.imp fun vs H Q E h => by rw [List.append_nil]; exact h
theorem f3_stepO (C : Txt pg w K mg base N G (callD G wt n) k) {oc cdv kV doc pm ct : Value} {od an : Option Addr} {osl : Array (Option Value)} (lk : K.lookup (N.fA K 3) = some ⟨oc, od, .func (PySem.W.fnOf f3_d.name f3_d.qual (defArgs f3_d.st) (defBody f3_d.st) (defScope f3_d.st) .none kV doc pm an cdv ct), osl⟩) (hc : PySem.W.codeIn K cdv f3_d.qual = true) :
    FnOk pg w K mg base (L2.CX pg w) (k + 9) (N.fA K 3) (PySem.W.fnOf f3_d.name f3_d.qual (defArgs f3_d.st) (defBody f3_d.st) (defScope f3_d.st) .none kV doc pm an cdv ct) ["self", "top", "bottom"] (spD (N.T K) (RXP K) (callD G wt (n + 1)) 3) :=
  fn_stepO (k := k + 8) lk hc f3_sc rfl rfl rfl rfl fun A outer s H E z0 hr => f3_ok C wt A outer s H E z0 hr
theorem f3_step (C : Txt pg w K mg base N G (callD G wt n) k) (h : fnV K (f3_d.at_.a K) = f3_d.val [] ∧ codeB K (f3_d.at_.a K) f3_d.qual = true) : FnR pg w K mg base (L2.CX pg w) (k + 9) (N.fA K 3) (spD (N.T K) (RXP K) (callD G wt (n + 1)) 3) := by
  obtain ⟨oc, od, osl, kV, doc, pm, an, cdv, ct, lk, hc⟩ := fnV_ok h.1 h.2
  have F1 := (f3_stepO C lk hc).raw (Binds.all fun us hl => match us, hl with | [_, _, _], _ => rfl) .nil
  exact F1.imp fun vs H Q E h => by rw [List.append_nil]; exact h
theorem f4_stepO (C : Txt pg w K mg base N G (callD G wt n) k) {oc cdv kV doc pm ct : Value} {od an : Option Addr} {osl : Array (Option Value)} (lk : K.lookup (N.fA K 4) = some ⟨oc, od, .func (PySem.W.fnOf f4_d.name f4_d.qual (defArgs f4_d.st) (defBody f4_d.st) (defScope f4_d.st) .none kV doc pm an cdv ct), osl⟩) (hc : PySem.W.codeIn K cdv f4_d.qual = true) :
    FnOk pg w K mg base (L2.CX pg w) (k + 9) (N.fA K 4) (PySem.W.fnOf f4_d.name f4_d.qual (defArgs f4_d.st) (defBody f4_d.st) (defScope f4_d.st) .none kV doc pm an cdv ct) ["cls", "text"] (spD (N.T K) (RXP K) (callD G wt (n + 1)) 4) :=
  fn_stepO (k := k + 8) lk hc f4_sc rfl rfl rfl rfl fun A outer s H E z0 hr => f4_ok C wt A outer s H E z0 hr
theorem f4_step (C : Txt pg w K mg base N G (callD G wt n) k) (h : fnV K (f4_d.at_.a K) = f4_d.val [] ∧ codeB K (f4_d.at_.a K) f4_d.qual = true) : FnR pg w K mg base (L2.CX pg w) (k + 9) (N.fA K 4) (spD (N.T K) (RXP K) (callD G wt (n + 1)) 4) := by
  obtain ⟨oc, od, osl, kV, doc, pm, an, cdv, ct, lk, hc⟩ := fnV_ok h.1 h.2
  have F1 := (f4_stepO C lk hc).raw (Binds.all fun us hl => match us, hl with | [_, _], _ => rfl) .nil
  exact F1.imp fun vs H Q E h => by rw [List.append_nil]; exact h
theorem f5_stepO (C : Txt pg w K mg base N G (callD G wt n) k) {oc cdv kV doc pm ct : Value} {od an : Option Addr} {osl : Array (Option Value)} (lk : K.lookup (N.fA K 5) = some ⟨oc, od, .func (PySem.W.fnOf f5_d.name f5_d.qual (defArgs f5_d.st) (defBody f5_d.st) (defScope f5_d.st) .none kV doc pm an cdv ct), osl⟩) (hc : PySem.W.codeIn K cdv f5_d.qual = true) :
    FnOk pg w K mg base (L2.CX pg w) (k + 9) (N.fA K 5) (PySem.W.fnOf f5_d.name f5_d.qual (defArgs f5_d.st) (defBody f5_d.st) (defScope f5_d.st) .none kV doc pm an cdv ct) ["self", "other"] (spD (N.T K) (RXP K) (callD G wt (n + 1)) 5) :=
  fn_stepO (k := k + 8) lk hc f5_sc rfl rfl rfl rfl fun A outer s H E z0 hr => f5_ok C wt A outer s H E z0 hr
theorem f5_step (C : Txt pg w K mg base N G (callD G wt n) k) (h : fnV K (f5_d.at_.a K) = f5_d.val [] ∧ codeB K (f5_d.at_.a K) f5_d.qual = true) : FnR pg w K mg base (L2.CX pg w) (k + 9) (N.fA K 5) (spD (N.T K) (RXP K) (callD G wt (n + 1)) 5) := by
  obtain ⟨oc, od, osl, kV, doc, pm, an, cdv, ct, lk, hc⟩ := fnV_ok h.1 h.2
  have F1 := (f5_stepO C lk hc).raw (Binds.all fun us hl => match us, hl with | [_, _], _ => rfl) .nil
  exact F1.imp fun vs H Q E h => by rw [List.append_nil]; exact h
theorem f6_stepO (C : Txt pg w K mg base N G (callD G wt n) k) {oc cdv kV doc pm ct : Value} {od an : Option Addr} {osl : Array (Option Value)} (lk : K.lookup (N.fA K 6) = some ⟨oc, od, .func (PySem.W.fnOf f6_d.name f6_d.qual (defArgs f6_d.st) (defBody f6_d.st) (defScope f6_d.st) .none kV doc pm an cdv ct), osl⟩) (hc : PySem.W.codeIn K cdv f6_d.qual = true) :
    FnOk pg w K mg base (L2.CX pg w) (k + 9) (N.fA K 6) (PySem.W.fnOf f6_d.name f6_d.qual (defArgs f6_d.st) (defBody f6_d.st) (defScope f6_d.st) .none kV doc pm an cdv ct) ["self", "other"] (spD (N.T K) (RXP K) (callD G wt (n + 1)) 6) :=
  fn_stepO (k := k + 8) lk hc f6_sc rfl rfl rfl rfl fun A outer s H E z0 hr => f6_ok C wt A outer s H E z0 hr
theorem f6_step (C : Txt pg w K mg base N G (callD G wt n) k) (h : fnV K (f6_d.at_.a K) = f6_d.val [] ∧ codeB K (f6_d.at_.a K) f6_d.qual = true) : FnR pg w K mg base (L2.CX pg w) (k + 9) (N.fA K 6) (spD (N.T K) (RXP K) (callD G wt (n + 1)) 6) := by
  obtain ⟨oc, od, osl, kV, doc, pm, an, cdv, ct, lk, hc⟩ := fnV_ok h.1 h.2
  have F1 := (f6_stepO C lk hc).raw (Binds.all fun us hl => match us, hl with | [_, _], _ => rfl) .nil
  exact F1.imp fun vs H Q E h => by rw [List.append_nil]; exact h
theorem f7_stepO (C : Txt pg w K mg base N G (callD G wt n) k) {oc cdv kV doc pm ct : Value} {od an : Option Addr} {osl : Array (Option Value)} (lk : K.lookup (N.fA K 7) = some ⟨oc, od, .func (PySem.W.fnOf f7_d.name f7_d.qual (defArgs f7_d.st) (defBody f7_d.st) (defScope f7_d.st) .none kV doc pm an cdv ct), osl⟩) (hc : PySem.W.codeIn K cdv f7_d.qual = true) :
    FnOk pg w K mg base (L2.CX pg w) (k + 9) (N.fA K 7) (PySem.W.fnOf f7_d.name f7_d.qual (defArgs f7_d.st) (defBody f7_d.st) (defScope f7_d.st) .none kV doc pm an cdv ct) ["self"] (spD (N.T K) (RXP K) (callD G wt (n + 1)) 7) :=
  fn_stepO (k := k + 8) lk hc f7_sc rfl rfl rfl rfl fun A outer s H E z0 hr => f7_ok C wt A outer s H E z0 hr
theorem f7_step (C : Txt pg w K mg base N G (callD G wt n) k) (h : fnV K (f7_d.at_.a K) = f7_d.val [] ∧ codeB K (f7_d.at_.a K) f7_d.qual = true) : FnR pg w K mg base (L2.CX pg w) (k + 9) (N.fA K 7) (spD (N.T K) (RXP K) (callD G wt (n + 1)) 7) := by
  obtain ⟨oc, od, osl, kV, doc, pm, an, cdv, ct, lk, hc⟩ := fnV_ok h.1 h.2
  have F1 := (f7_stepO C lk hc).raw (Binds.all fun us hl => match us, hl with | [_], _ => rfl) .nil
  exact F1.imp fun vs H Q E h => by rw [List.append_nil]; exact h
theorem f8_stepO (C : Txt pg w K mg base N G (callD G wt n) k) {oc cdv kV doc pm ct : Value} {od an : Option Addr} {osl : Array (Option Value)} (lk : K.lookup (N.fA K 8) = some ⟨oc, od, .func (PySem.W.fnOf f8_d.name f8_d.qual (defArgs f8_d.st) (defBody f8_d.st) (defScope f8_d.st) .none kV doc pm an cdv ct), osl⟩) (hc : PySem.W.codeIn K cdv f8_d.qual = true) :
    FnOk pg w K mg base (L2.CX pg w) (k + 9) (N.fA K 8) (PySem.W.fnOf f8_d.name f8_d.qual (defArgs f8_d.st) (defBody f8_d.st) (defScope f8_d.st) .none kV doc pm an cdv ct) ["self", "other"] (spD (N.T K) (RXP K) (callD G wt (n + 1)) 8) :=
  fn_stepO (k := k + 8) lk hc f8_sc rfl rfl rfl rfl fun A outer s H E z0 hr => f8_ok C wt A outer s H E z0 hr
theorem f8_step (C : Txt pg w K mg base N G (callD G wt n) k) (h : fnV K (f8_d.at_.a K) = f8_d.val [] ∧ codeB K (f8_d.at_.a K) f8_d.qual = true) : FnR pg w K mg base (L2.CX pg w) (k + 9) (N.fA K 8) (spD (N.T K) (RXP K) (callD G wt (n + 1)) 8) := by
  obtain ⟨oc, od, osl, kV, doc, pm, an, cdv, ct, lk, hc⟩ := fnV_ok h.1 h.2
  have F1 := (f8_stepO C lk hc).raw (Binds.all fun us hl => match us, hl with | [_, _], _ => rfl) .nil
  exact F1.imp fun vs H Q E h => by rw [List.append_nil]; exact h
theorem f9_stepO (C : Txt pg w K mg base N G (callD G wt n) k) {oc cdv kV doc pm ct : Value} {od an : Option Addr} {osl : Array (Option Value)} (lk : K.lookup (N.fA K 9) = some ⟨oc, od, .func (PySem.W.fnOf f9_d.name f9_d.qual (defArgs f9_d.st) (defBody f9_d.st) (defScope f9_d.st) .none kV doc pm an cdv ct), osl⟩) (hc : PySem.W.codeIn K cdv f9_d.qual = true) :
    FnOk pg w K mg base (L2.CX pg w) (k + 9) (N.fA K 9) (PySem.W.fnOf f9_d.name f9_d.qual (defArgs f9_d.st) (defBody f9_d.st) (defScope f9_d.st) .none kV doc pm an cdv ct) ["self", "other"] (spD (N.T K) (RXP K) (callD G wt (n + 1)) 9) :=
  fn_stepO (k := k + 8) lk hc f9_sc rfl rfl rfl rfl fun A outer s H E z0 hr => f9_ok C wt A outer s H E z0 hr
theorem f9_step (C : Txt pg w K mg base N G (callD G wt n) k) (h : fnV K (f9_d.at_.a K) = f9_d.val [] ∧ codeB K (f9_d.at_.a K) f9_d.qual = true) : FnR pg w K mg base (L2.CX pg w) (k + 9) (N.fA K 9) (spD (N.T K) (RXP K) (callD G wt (n + 1)) 9) := by
  obtain ⟨oc, od, osl, kV, doc, pm, an, cdv, ct, lk, hc⟩ := fnV_ok h.1 h.2
  have F1 := (f9_stepO C lk hc).raw (Binds.all fun us hl => match us, hl with | [_, _], _ => rfl) .nil
  exact F1.imp fun vs H Q E h => by rw [List.append_nil]; exact h
theorem f10_stepO (C : Txt pg w K mg base N G (callD G wt n) k) {oc cdv kV doc pm ct : Value} {od an : Option Addr} {osl : Array (Option Value)} (lk : K.lookup (N.fA K 10) = some ⟨oc, od, .func (PySem.W.fnOf f10_d.name f10_d.qual (defArgs f10_d.st) (defBody f10_d.st) (defScope f10_d.st) .none kV doc pm an cdv ct), osl⟩) (hc : PySem.W.codeIn K cdv f10_d.qual = true) :
    FnOk pg w K mg base (L2.CX pg w) (k + 9) (N.fA K 10) (PySem.W.fnOf f10_d.name f10_d.qual (defArgs f10_d.st) (defBody f10_d.st) (defScope f10_d.st) .none kV doc pm an cdv ct) ["self"] (spD (N.T K) (RXP K) (callD G wt (n + 1)) 10) :=
  fn_stepO (k := k + 8) lk hc f10_sc rfl rfl rfl rfl fun A outer s H E z0 hr => f10_ok C wt A outer s H E z0 hr
theorem f10_step (C : Txt pg w K mg base N G (callD G wt n) k) (h : fnV K (f10_d.at_.a K) = f10_d.val [] ∧ codeB K (f10_d.at_.a K) f10_d.qual = true) : FnR pg w K mg base (L2.CX pg w) (k + 9) (N.fA K 10) (spD (N.T K) (RXP K) (callD G wt (n + 1)) 10) := by
  obtain ⟨oc, od, osl, kV, doc, pm, an, cdv, ct, lk, hc⟩ := fnV_ok h.1 h.2
  have F1 := (f10_stepO C lk hc).raw (Binds.all fun us hl => match us, hl with | [_], _ => rfl) .nil
  exact F1.imp fun vs H Q E h => by rw [List.append_nil]; exact h
theorem f11_stepO (C : Txt pg w K mg base N G (callD G wt n) k) {oc cdv kV doc pm ct : Value} {od an : Option Addr} {osl : Array (Option Value)} (lk : K.lookup (N.fA K 11) = some ⟨oc, od, .func (PySem.W.fnOf f11_d.name f11_d.qual (defArgs f11_d.st) (defBody f11_d.st) (defScope f11_d.st) .none kV doc pm an cdv ct), osl⟩) (hc : PySem.W.codeIn K cdv f11_d.qual = true) :
    FnOk pg w K mg base (L2.CX pg w) (k + 9) (N.fA K 11) (PySem.W.fnOf f11_d.name f11_d.qual (defArgs f11_d.st) (defBody f11_d.st) (defScope f11_d.st) .none kV doc pm an cdv ct) ["_law_cell"] (spD (N.T K) (RXP K) (callD G wt (n + 1)) 11) :=
  fn_stepO (k := k + 8) lk hc f11_sc rfl rfl rfl rfl fun A outer s H E z0 hr => f11_ok C wt A outer s H E z0 hr
theorem f11_step (C : Txt pg w K mg base N G (callD G wt n) k) (h : fnV K (f11_d.at_.a K) = f11_d.val [] ∧ codeB K (f11_d.at_.a K) f11_d.qual = true) : FnR pg w K mg base (L2.CX pg w) (k + 9) (N.fA K 11) (spD (N.T K) (RXP K) (callD G wt (n + 1)) 11) := by
  obtain ⟨oc, od, osl, kV, doc, pm, an, cdv, ct, lk, hc⟩ := fnV_ok h.1 h.2
  have F1 := (f11_stepO C lk hc).raw (Binds.all fun us hl => match us, hl with | [_], _ => rfl) .nil
  exact F1.imp fun vs H Q E h => by rw [List.append_nil]; exact h
theorem f12_stepO (C : Txt pg w K mg base N G (callD G wt n) k) {oc cdv kV doc pm ct : Value} {od an : Option Addr} {osl : Array (Option Value)} (lk : K.lookup (N.fA K 12) = some ⟨oc, od, .func (PySem.W.fnOf f12_d.name f12_d.qual (defArgs f12_d.st) (defBody f12_d.st) (defScope f12_d.st) .none kV doc pm an cdv ct), osl⟩) (hc : PySem.W.codeIn K cdv f12_d.qual = true) :
    FnOk pg w K mg base (L2.CX pg w) (k + 9) (N.fA K 12) (PySem.W.fnOf f12_d.name f12_d.qual (defArgs f12_d.st) (defBody f12_d.st) (defScope f12_d.st) .none kV doc pm an cdv ct) ["_law_pool", "_law_limit"] (spD (N.T K) (RXP K) (callD G wt (n + 1)) 12) :=
  fn_stepO (k := k + 8) lk hc f12_sc rfl rfl rfl rfl fun A outer s H E z0 hr => f12_ok C wt A outer s H E z0 hr
theorem f12_step (C : Txt pg w K mg base N G (callD G wt n) k) (h : fnV K (f12_d.at_.a K) = f12_d.val [] ∧ codeB K (f12_d.at_.a K) f12_d.qual = true) : FnR pg w K mg base (L2.CX pg w) (k + 9) (N.fA K 12) (spD (N.T K) (RXP K) (callD G wt (n + 1)) 12) := by
  obtain ⟨oc, od, osl, kV, doc, pm, an, cdv, ct, lk, hc⟩ := fnV_ok h.1 h.2
  have F1 := (f12_stepO C lk hc).raw (Binds.all fun us hl => match us, hl with | [_, _], _ => rfl) .nil
  exact F1.imp fun vs H Q E h => by rw [List.append_nil]; exact h
theorem f13_stepO (C : Txt pg w K mg base N G (callD G wt n) k) {oc cdv kV doc pm ct : Value} {od an : Option Addr} {osl : Array (Option Value)} (lk : K.lookup (N.fA K 13) = some ⟨oc, od, .func (PySem.W.fnOf f13_d.name f13_d.qual (defArgs f13_d.st) (defBody f13_d.st) (defScope f13_d.st) .none kV doc pm an cdv ct), osl⟩) (hc : PySem.W.codeIn K cdv f13_d.qual = true) :
    FnOk pg w K mg base (L2.CX pg w) (k + 9) (N.fA K 13) (PySem.W.fnOf f13_d.name f13_d.qual (defArgs f13_d.st) (defBody f13_d.st) (defScope f13_d.st) .none kV doc pm an cdv ct) ["_law_script", "_law_k"] (spD (N.T K) (RXP K) (callD G wt (n + 1)) 13) :=
  fn_stepO (k := k + 8) lk hc f13_sc rfl rfl rfl rfl fun A outer s H E z0 hr => f13_ok C wt A outer s H E z0 hr
theorem f13_step (C : Txt pg w K mg base N G (callD G wt n) k) (h : fnV K (f13_d.at_.a K) = f13_d.val [] ∧ codeB K (f13_d.at_.a K) f13_d.qual = true) : FnR pg w K mg base (L2.CX pg w) (k + 9) (N.fA K 13) (spD (N.T K) (RXP K) (callD G wt (n + 1)) 13) := by
  obtain ⟨oc, od, osl, kV, doc, pm, an, cdv, ct, lk, hc⟩ := fnV_ok h.1 h.2
  have F1 := (f13_stepO C lk hc).raw (Binds.all fun us hl => match us, hl with | [_, _], _ => rfl) .nil
  exact F1.imp fun vs H Q E h => by rw [List.append_nil]; exact h
theorem f14_stepO (C : Txt pg w K mg base N G (callD G wt n) k) {oc cdv kV doc pm ct : Value} {od an : Option Addr} {osl : Array (Option Value)} (lk : K.lookup (N.fA K 14) = some ⟨oc, od, .func (PySem.W.fnOf f14_d.name f14_d.qual (defArgs f14_d.st) (defBody f14_d.st) (defScope f14_d.st) .none kV doc pm an cdv ct), osl⟩) (hc : PySem.W.codeIn K cdv f14_d.qual = true) :
    FnOk pg w K mg base (L2.CX pg w) (k + 9) (N.fA K 14) (PySem.W.fnOf f14_d.name f14_d.qual (defArgs f14_d.st) (defBody f14_d.st) (defScope f14_d.st) .none kV doc pm an cdv ct) ["_law_word"] (spD (N.T K) (RXP K) (callD G wt (n + 1)) 14) :=
  fn_stepO (k := k + 8) lk hc f14_sc rfl rfl rfl rfl fun A outer s H E z0 hr => f14_ok C wt A outer s H E z0 hr
theorem f14_step (C : Txt pg w K mg base N G (callD G wt n) k) (h : fnV K (f14_d.at_.a K) = f14_d.val [] ∧ codeB K (f14_d.at_.a K) f14_d.qual = true) : FnR pg w K mg base (L2.CX pg w) (k + 9) (N.fA K 14) (spD (N.T K) (RXP K) (callD G wt (n + 1)) 14) := by
  obtain ⟨oc, od, osl, kV, doc, pm, an, cdv, ct, lk, hc⟩ := fnV_ok h.1 h.2
  have F1 := (f14_stepO C lk hc).raw (Binds.all fun us hl => match us, hl with | [_], _ => rfl) .nil
  exact F1.imp fun vs H Q E h => by rw [List.append_nil]; exact h
theorem f15_stepO (C : Txt pg w K mg base N G (callD G wt n) k) {oc cdv kV doc pm ct : Value} {od an : Option Addr} {osl : Array (Option Value)} (lk : K.lookup (N.fA K 15) = some ⟨oc, od, .func (PySem.W.fnOf f15_d.name f15_d.qual (defArgs f15_d.st) (defBody f15_d.st) (defScope f15_d.st) .none kV doc pm an cdv ct), osl⟩) (hc : PySem.W.codeIn K cdv f15_d.qual = true) :
    FnOk pg w K mg base (L2.CX pg w) (k + 9) (N.fA K 15) (PySem.W.fnOf f15_d.name f15_d.qual (defArgs f15_d.st) (defBody f15_d.st) (defScope f15_d.st) .none kV doc pm an cdv ct) ["_law_text"] (spD (N.T K) (RXP K) (callD G wt (n + 1)) 15) :=
  fn_stepO (k := k + 8) lk hc f15_sc rfl rfl rfl rfl fun A outer s H E z0 hr => f15_ok C wt A outer s H E z0 hr
theorem f15_step (C : Txt pg w K mg base N G (callD G wt n) k) (h : fnV K (f15_d.at_.a K) = f15_d.val [] ∧ codeB K (f15_d.at_.a K) f15_d.qual = true) : FnR pg w K mg base (L2.CX pg w) (k + 9) (N.fA K 15) (spD (N.T K) (RXP K) (callD G wt (n + 1)) 15) := by
  obtain ⟨oc, od, osl, kV, doc, pm, an, cdv, ct, lk, hc⟩ := fnV_ok h.1 h.2
  have F1 := (f15_stepO C lk hc).raw (Binds.all fun us hl => match us, hl with | [_], _ => rfl) .nil
  exact F1.imp fun vs H Q E h => by rw [List.append_nil]; exact h
theorem f16_stepO (C : Txt pg w K mg base N G (callD G wt n) k) {oc cdv kV doc pm ct : Value} {od an : Option Addr} {osl : Array (Option Value)} (lk : K.lookup (N.fA K 16) = some ⟨oc, od, .func (PySem.W.fnOf f16_d.name f16_d.qual (defArgs f16_d.st) (defBody f16_d.st) (defScope f16_d.st) .none kV doc pm an cdv ct), osl⟩) (hc : PySem.W.codeIn K cdv f16_d.qual = true) :
    FnOk pg w K mg base (L2.CX pg w) (k + 9) (N.fA K 16) (PySem.W.fnOf f16_d.name f16_d.qual (defArgs f16_d.st) (defBody f16_d.st) (defScope f16_d.st) .none kV doc pm an cdv ct) ["_law_text"] (spD (N.T K) (RXP K) (callD G wt (n + 1)) 16) :=
  fn_stepO (k := k + 8) lk hc f16_sc rfl rfl rfl rfl fun A outer s H E z0 hr => f16_ok C wt A outer s H E z0 hr
theorem f16_step (C : Txt pg w K mg base N G (callD G wt n) k) (h : fnV K (f16_d.at_.a K) = f16_d.val [] ∧ codeB K (f16_d.at_.a K) f16_d.qual = true) : FnR pg w K mg base (L2.CX pg w) (k + 9) (N.fA K 16) (spD (N.T K) (RXP K) (callD G wt (n + 1)) 16) := by
  obtain ⟨oc, od, osl, kV, doc, pm, an, cdv, ct, lk, hc⟩ := fnV_ok h.1 h.2
  have F1 := (f16_stepO C lk hc).raw (Binds.all fun us hl => match us, hl with | [_], _ => rfl) .nil
  exact F1.imp fun vs H Q E h => by rw [List.append_nil]; exact h
theorem f17_stepO (C : Txt pg w K mg base N G (callD G wt n) k) {oc cdv kV doc pm ct : Value} {od an : Option Addr} {osl : Array (Option Value)} (lk : K.lookup (N.fA K 17) = some ⟨oc, od, .func (PySem.W.fnOf f17_d.name f17_d.qual (defArgs f17_d.st) (defBody f17_d.st) (defScope f17_d.st) .none kV doc pm an cdv ct), osl⟩) (hc : PySem.W.codeIn K cdv f17_d.qual = true) :
    FnOk pg w K mg base (L2.CX pg w) (k + 9) (N.fA K 17) (PySem.W.fnOf f17_d.name f17_d.qual (defArgs f17_d.st) (defBody f17_d.st) (defScope f17_d.st) .none kV doc pm an cdv ct) ["_law_text"] (spD (N.T K) (RXP K) (callD G wt (n + 1)) 17) :=
  fn_stepO (k := k + 8) lk hc f17_sc rfl rfl rfl rfl fun A outer s H E z0 hr => f17_ok C wt A outer s H E z0 hr
theorem f17_step (C : Txt pg w K mg base N G (callD G wt n) k) (h : fnV K (f17_d.at_.a K) = f17_d.val [] ∧ codeB K (f17_d.at_.a K) f17_d.qual = true) : FnR pg w K mg base (L2.CX pg w) (k + 9) (N.fA K 17) (spD (N.T K) (RXP K) (callD G wt (n + 1)) 17) := by
  obtain ⟨oc, od, osl, kV, doc, pm, an, cdv, ct, lk, hc⟩ := fnV_ok h.1 h.2
  have F1 := (f17_stepO C lk hc).raw (Binds.all fun us hl => match us, hl with | [_], _ => rfl) .nil
  exact F1.imp fun vs H Q E h => by rw [List.append_nil]; exact h
theorem f18_stepO (C : Txt pg w K mg base N G (callD G wt n) k) {oc cdv kV doc pm ct : Value} {od an : Option Addr} {osl : Array (Option Value)} (lk : K.lookup (N.fA K 18) = some ⟨oc, od, .func (PySem.W.fnOf f18_d.name f18_d.qual (defArgs f18_d.st) (defBody f18_d.st) (defScope f18_d.st) .none kV doc pm an cdv ct), osl⟩) (hc : PySem.W.codeIn K cdv f18_d.qual = true) :
    FnOk pg w K mg base (L2.CX pg w) (k + 9) (N.fA K 18) (PySem.W.fnOf f18_d.name f18_d.qual (defArgs f18_d.st) (defBody f18_d.st) (defScope f18_d.st) .none kV doc pm an cdv ct) ["_law_pool", "_law_text"] (spD (N.T K) (RXP K) (callD G wt (n + 1)) 18) :=
  fn_stepO (k := k + 8) lk hc f18_sc rfl rfl rfl rfl fun A outer s H E z0 hr => f18_ok C wt A outer s H E z0 hr
theorem f18_step (C : Txt pg w K mg base N G (callD G wt n) k) (h : fnV K (f18_d.at_.a K) = f18_d.val [] ∧ codeB K (f18_d.at_.a K) f18_d.qual = true) : FnR pg w K mg base (L2.CX pg w) (k + 9) (N.fA K 18) (spD (N.T K) (RXP K) (callD G wt (n + 1)) 18) := by
  obtain ⟨oc, od, osl, kV, doc, pm, an, cdv, ct, lk, hc⟩ := fnV_ok h.1 h.2
  have F1 := (f18_stepO C lk hc).raw (Binds.all fun us hl => match us, hl with | [_, _], _ => rfl) .nil
  exact F1.imp fun vs H Q E h => by rw [List.append_nil]; exact h
theorem f19_stepO (C : Txt pg w K mg base N G (callD G wt n) k) {oc cdv kV doc pm ct : Value} {od an : Option Addr} {osl : Array (Option Value)} (lk : K.lookup (N.fA K 19) = some ⟨oc, od, .func (PySem.W.fnOf f19_d.name f19_d.qual (defArgs f19_d.st) (defBody f19_d.st) (defScope f19_d.st) .none kV doc pm an cdv ct), osl⟩) (hc : PySem.W.codeIn K cdv f19_d.qual = true) :
    FnOk pg w K mg base (L2.CX pg w) (k + 9) (N.fA K 19) (PySem.W.fnOf f19_d.name f19_d.qual (defArgs f19_d.st) (defBody f19_d.st) (defScope f19_d.st) .none kV doc pm an cdv ct) ["_law_script"] (spD (N.T K) (RXP K) (callD G wt (n + 1)) 19) :=
  fn_stepO (k := k + 8) lk hc f19_sc rfl rfl rfl rfl fun A outer s H E z0 hr => f19_ok C wt A outer s H E z0 hr
theorem f19_step (C : Txt pg w K mg base N G (callD G wt n) k) (h : fnV K (f19_d.at_.a K) = f19_d.val [] ∧ codeB K (f19_d.at_.a K) f19_d.qual = true) : FnR pg w K mg base (L2.CX pg w) (k + 9) (N.fA K 19) (spD (N.T K) (RXP K) (callD G wt (n + 1)) 19) := by
  obtain ⟨oc, od, osl, kV, doc, pm, an, cdv, ct, lk, hc⟩ := fnV_ok h.1 h.2
  have F1 := (f19_stepO C lk hc).raw (Binds.all fun us hl => match us, hl with | [_], _ => rfl) .nil
  exact F1.imp fun vs H Q E h => by rw [List.append_nil]; exact h
theorem steps (hv : ∀ (i : Nat) (d : Fd), N.fds[i]? = some d → fnV K (d.at_.a K) = d.val [] ∧ codeB K (d.at_.a K) d.qual = true) (C : Txt pg w K mg base N G (callD G wt n) k) : ∀ f, f < N.fds.length → FnR pg w K mg base (L2.CX pg w) (k + 9) (N.fA K f) (spD (N.T K) (RXP K) (callD G wt (n + 1)) f)
  | 0, _ => f0_step C (hv 0 _ rfl)
  | 1, _ => f1_step C (hv 1 _ rfl)
  | 2, _ => f2_step C (hv 2 _ rfl)
  | 3, _ => f3_step C (hv 3 _ rfl)
  | 4, _ => f4_step C (hv 4 _ rfl)
  | 5, _ => f5_step C (hv 5 _ rfl)
  | 6, _ => f6_step C (hv 6 _ rfl)
  | 7, _ => f7_step C (hv 7 _ rfl)
  | 8, _ => f8_step C (hv 8 _ rfl)
  | 9, _ => f9_step C (hv 9 _ rfl)
  | 10, _ => f10_step C (hv 10 _ rfl)
  | 11, _ => f11_step C (hv 11 _ rfl)
  | 12, _ => f12_step C (hv 12 _ rfl)
  | 13, _ => f13_step C (hv 13 _ rfl)
  | 14, _ => f14_step C (hv 14 _ rfl)
  | 15, _ => f15_step C (hv 15 _ rfl)
  | 16, _ => f16_step C (hv 16 _ rfl)
  | 17, _ => f17_step C (hv 17 _ rfl)
  | 18, _ => f18_step C (hv 18 _ rfl)
  | 19, _ => f19_step C (hv 19 _ rfl)
  | m + 20, h => absurd (show m + 20 < 20 from h) (by omega)
end
end Tf.P
end
section
set_option Elab.async false
set_option linter.all false
set_option maxRecDepth 100000
set_option maxHeartbeats 0
namespace Tf.P
open PySem PySem.Spec PyProof.Rows L2
abbrev rw_ : PySem.W.OpenRow := PySem.W.OpenLaw.row PySem.Challenge.rw_truthfees_k12_texts_of_fractions
abbrev hk : PySem.W.Hook := hookX 6 N pg G
def ob (s : PySem.W.SharedT) : AlX := obsXG 6 N pg G (HandSHeadRun.getT s)
theorem ob_eq (s : PySem.W.SharedT) : ob s = hk.obs s.abs := obsXG_eq (HandSHeadRun.getT_eq s)
def names : List PySem.Str := (["_wall", "FeeError", "BadNumber", "BadText", "DIGITS", "common", "is_count", "is_top", "Ratio", "_law_bag", "_law_draw", "_law_at_of", "_law_count_of", "_law_due_of", "_law_told_of", "_law_fits", "_law_changed"] : List PySem.Str)
theorem run (w : World) : HandSHeadRun.RunEq rw_ (PySem.W.view rw_.prog [20]) hk ob 20000 names w := by
  intro os
  kernel_rfl
theorem facts {w : World} {K : PySem.W.Frag} {h : Heap} {mg : PySem.Str → Option Value} {fa : Addr} (D : Nat) (X : K.In h) (G0 : h.Ns mainGlobals mg) (hfa : mg ("law" : PySem.Str) = some (.ref fa)) (c : obsX N pg G K = valX N) :
    ∃ fd : FuncData, (∀ (s : Shared) (v : Value), BindsTo s fd ⟨[v], []⟩ [("_law_script", v)]) ∧ ∀ base : Heap, K.In base → base.Ns mainGlobals mg → FnOk pg w K mg base (CXW pg) (9 * D + 9) fa fd ["_law_script"] (spL (N.T K) (RXP K) G (D + 1) 19) := by
  have hv := say_fn c (i := 19) (d := f19_d) rfl
  obtain ⟨oc, od, osl, kV, doc, pm, an, cdv, ct, lk, hc⟩ := fnV_ok hv.1 hv.2
  have T0 : ∀ (base : Heap), K.In base → base.Ns mainGlobals mg → ∀ wt n, Txt pg w K mg base N G (callD G wt n) (9 * n) := fun base kin mgl wt n =>
    txt_all c (by decide +kernel) (by decide +kernel) (by decide +kernel) (by decide +kernel) kin mgl (fun n C => steps (fun i d e => say_fn c e) C) n
  have ea : N.fA K 19 = fa := by
    have q := (Txt.gfn (T0 h X G0 0 0) (f := 19) (x := "law") rfl).1
    rw [hfa] at q
    injection q with q
    injection q with q
    exact q.symm
  subst ea
  exact ⟨_, fun s v => .of_eq rfl, fun base kin mgl => fnW (fnL fun wt => f19_stepO (T0 base kin mgl wt D) lk hc)⟩
theorem law_of (D : Nat) (hD : Room (9 * D + 9) callerA) (H : ∀ ns : List Int, ns.length ≤ 63 → ∃ wt, callD G wt (D + 1) 19 [owned (.scr ns)] = .ret (.d (.bl true)) []) : PySem.Challenge.rw_truthfees_k12_texts_of_fractions.Holds := by
  open PySem.W PySem.Calls in
  (w_on; o_law
   refine HandSHeadRun.head_any (r := rw_) (q := view rw_.prog [20]) (H := hk) (ob := ob) (M := 20000) (loose := names) (d := HandSHeadRun.topDef rw_.prog 20) (kwd := []) ob_eq
     (by kernel_rfl) (fun s => by kernel_rfl) run (by kernel_rfl) (by kernel_rfl) (by kernel_rfl) (by rfl) (by first | assumption | decide +kernel) (by decide +kernel) ⟨rfl, rfl, rfl, rfl, rfl, by decide +kernel⟩ ?hw ?hc
   case hw => w_witness2
   case hc =>
     refine L2.walk_ofE (l := PySem.Challenge.rw_truthfees_k12_texts_of_fractions) (n := 63) (k := 9 * D + 9) (x := "_law_script") (CX := CXW pg) rfl (by decide) (by kernel_rfl) hD ?F (fun _ _ _ _ z => cxw_none z)
     intro w mg fa h Y G0 hmg0
     obtain ⟨K, KX, c⟩ := Y
     have hmg : mg ("law" : PySem.Str) = some (.ref fa) := by
       have e : (HandSHeadRun.topDef rw_.prog 20).name = ("law" : PySem.Str) := by kernel_rfl
       rw [← e]
       exact hmg0
     obtain ⟨fd, hb, hF⟩ := facts (w := w) D KX G0 hmg c
     refine ⟨K, fd, _, KX, hb, fun Hp a ns hl hO hS => ?_, hF⟩
     obtain ⟨wt, e⟩ := H ns hl
     exact law_sp (say_chk c).2 hO hS e)
end Tf.P
end
section
set_option Elab.async false
set_option linter.all false
/-! The evaluator, run on symbols: equations for simp; no continuation is looked into before it is reached. -/
namespace Tf
def RS.nxt (r : RS) (f : Fr → RS) : RS := match r with
  | .next σ => f σ
  | z => z
@[simp ↓] theorem nxt_next (σ : Fr) (f : Fr → RS) : (RS.next σ).nxt f = f σ := rfl
@[simp ↓] theorem nxt_ret (v : Val) (σ : Fr) (f : Fr → RS) : (RS.ret v σ).nxt f = .ret v σ := rfl
@[simp ↓] theorem nxt_exc (v : Xv) (σ : Fr) (f : Fr → RS) : (RS.exc v σ).nxt f = .exc v σ := rfl
@[simp ↓] theorem nxt_brk (σ : Fr) (f : Fr → RS) : (RS.brk σ).nxt f = .brk σ := rfl
@[simp ↓] theorem nxt_cont (σ : Fr) (f : Fr → RS) : (RS.cont σ).nxt f = .cont σ := rfl
@[simp] theorem nxt_ite {c : Prop} [Decidable c] (a b : RS) (f : Fr → RS) : (if c then a else b).nxt f = if c then a.nxt f else b.nxt f := by split <;> rfl
section
variable {α β : Type}
@[simp ↓] theorem bind_ok (a : α) (σ : Fr) (f : α → Fr → Res β) : (Res.ok a σ).bind f = f a σ := rfl
@[simp ↓] theorem bind_exc (a : Xv) (σ : Fr) (f : α → Fr → Res β) : (Res.exc a σ).bind f = .exc a σ := rfl
@[simp ↓] theorem bind_bad (f : α → Fr → Res β) : (Res.bad).bind f = .bad := rfl
@[simp ↓] theorem map_ok (a : α) (σ : Fr) (f : α → β) : (Res.ok a σ).map f = .ok (f a) σ := rfl
@[simp ↓] theorem map_exc (a : Xv) (σ : Fr) (f : α → β) : (Res.exc a σ).map f = .exc a σ := rfl
@[simp ↓] theorem opt_some (a : α) (f : α → Res β) : opt (some a) f = f a := rfl
@[simp ↓] theorem opt_none (f : α → Res β) : opt none f = .bad := rfl
@[simp ↓] theorem optS_some (a : α) (f : α → RS) : optS (some a) f = f a := rfl
@[simp ↓] theorem optS_none (f : α → RS) : optS none f = .bad := rfl
@[simp ↓] theorem st_ok (a : α) (σ : Fr) (f : α → Fr → RS) : (Res.ok a σ).st f = f a σ := rfl
@[simp ↓] theorem st_exc (a : Xv) (σ : Fr) (f : α → Fr → RS) : (Res.exc a σ).st f = .exc a σ := rfl
@[simp ↓] theorem nox_ok (a : α) (σ : Fr) : (Res.ok a σ).nox = .ok a σ := rfl
@[simp] theorem bind_ite {c : Prop} [Decidable c] (a b : Res α) (f : α → Fr → Res β) : (if c then a else b).bind f = if c then a.bind f else b.bind f := by split <;> rfl
@[simp] theorem opt_ite {c : Prop} [Decidable c] (a b : Option α) (f : α → Res β) : opt (if c then a else b) f = if c then opt a f else opt b f := by split <;> rfl
@[simp] theorem st_ite {c : Prop} [Decidable c] (a b : Res α) (f : α → Fr → RS) : (if c then a else b).st f = if c then a.st f else b.st f := by split <;> rfl
end
/-! frames -/
@[simp] theorem get_zero (s : Option Sl) (σ : Fr) : Fr.get (s :: σ) 0 = s := rfl
@[simp] theorem get_succ (s : Option Sl) (σ : Fr) (i : Nat) : Fr.get (s :: σ) (i + 1) = Fr.get σ i := rfl
@[simp] theorem put_zero (s t : Option Sl) (σ : Fr) : Fr.put (s :: σ) 0 t = t :: σ := rfl
@[simp] theorem put_succ (s t : Option Sl) (σ : Fr) (i : Nat) : Fr.put (s :: σ) (i + 1) t = s :: Fr.put σ i t := rfl
/-- a plain value in a slot -/
abbrev sv (x : D) : Option Sl := some (.own (.d x))
/-! values to data -/
@[simp] theorem asO_d (x : D) : asO (.d x) = some (.d x) := rfl
@[simp] theorem asO_o (x : O) : asO (.o x) = some x := rfl
@[simp] theorem toD_d (x : D) : toD (.d x) = some x := rfl
@[simp] theorem toD_o (x : O) : toD (.o x) = some x.frz := rfl
@[simp] theorem frzL_nil : O.frzL [] = [] := by rw [O.frzL]
@[simp] theorem frzL_cons (x : O) (xs : List O) : O.frzL (x :: xs) = x.frz :: O.frzL xs := by rw [O.frzL]
@[simp] theorem frz_d (x : D) : (O.d x).frz = x := by rw [O.frz]
@[simp] theorem frz_lst (xs : List O) : (O.lst xs).frz = .lst (O.frzL xs) := by rw [O.frz]
@[simp] theorem frz_ins (c : Nat) (xs : List (Nat × O)) : (O.ins c xs).frz = .ins c (O.frzF xs) := by rw [O.frz]
@[simp] theorem frzF_nil : O.frzF [] = [] := by rw [O.frzF]
@[simp] theorem frzF_cons (k : Nat) (x : O) (xs : List (Nat × O)) : O.frzF ((k, x) :: xs) = (k, x.frz) :: O.frzF xs := by rw [O.frzF]
theorem frzL_map (xs : List D) : O.frzL (xs.map O.d) = xs := by
  induction xs with
  | nil => simp
  | cons x xs ih => simp [ih]
/-! stores -/
@[simp] theorem asgV_eq (i : Nat) (v : Val) (σ : Fr) : asgV i v σ = match σ[i]? with
  | some (some (.lent _)) => none
  | some _ => (asO v).map fun o => σ.put i (some (.own o))
  | none => none := rfl
@[simp] theorem asg_v (i : Nat) (v : D) (σ : Fr) : Tf.asg (.var i) v σ = match σ[i]? with
  | some (some (.lent _)) => none
  | some _ => some (σ.put i (sv v))
  | none => none := by unfold Tf.asg; rfl
@[simp] theorem asg_t (ts : List Tg) (v : D) (σ : Fr) : Tf.asg (.tup ts) v σ = (itemsD v).bind fun xs => asg.asgs ts xs σ := by rw [Tf.asg]
@[simp] theorem asgs_nil (σ : Fr) : asg.asgs [] [] σ = some σ := by rw [asg.asgs]
@[simp] theorem asgs_cons (t : Tg) (ts : List Tg) (x : D) (xs : List D) (σ : Fr) : asg.asgs (t :: ts) (x :: xs) σ = (Tf.asg t x σ).bind fun σ => asg.asgs ts xs σ := by rw [asg.asgs]
@[simp] theorem chg_eq (σ : Fr) (a : Nat) (f : O → Option O) : chg σ a f = match σ.get a with
  | some (.own o) => (f o).map fun o => σ.put a (some (.own o))
  | some (.lent o) => (f o).map fun o => σ.put a (some (.lent o))
  | _ => none := rfl
@[simp] theorem lentAt_eq (σ : Fr) (i : Nat) : lentAt σ i = match σ.get i with
  | some (.own o) => some (o, false)
  | some (.lent o) => some (o, true)
  | none => none := rfl
section
variable {G : Prog} {cl : Call} {md : Md} {w : Nat}
/-! continuations -/
def asgK (i : Nat) (v : Val) (σ : Fr) : RS := optS (asgV i v σ) .next
@[simp] theorem asgK_eq (i : Nat) (v : Val) (σ : Fr) : asgK i v σ = optS (asgV i v σ) .next := rfl
def asgTK (ts : List Tg) (v : Val) (σ : Fr) : RS := optS ((toD v).bind fun x => Tf.asg (.tup ts) x σ) .next
@[simp] theorem asgTK_d (ts : List Tg) (x : D) (σ : Fr) : asgTK ts (.d x) σ = optS (Tf.asg (.tup ts) x σ) .next := rfl
def parK (i j : Nat) (os : List O) (σ : Fr) : RS := match os with
    | [o1, o2] => optS ((asgV i (.o o1) σ).bind fun σ => asgV j (.o o2) σ) .next
    | _ => .bad
@[simp] theorem parK_eq (i j : Nat) (o1 o2 : O) (σ : Fr) : parK i j [o1, o2] σ = optS ((asgV i (.o o1) σ).bind fun σ => asgV j (.o o2) σ) .next := rfl
def sfldK (a f : Nat) (v : Val) (σ : Fr) : RS := optS ((asO v).bind fun o => chg σ a fun z => setF z f o) .next
@[simp] theorem sfldK_eq (a f : Nat) (v : Val) (σ : Fr) : sfldK a f v σ = optS ((asO v).bind fun o => chg σ a fun z => setF z f o) .next := rfl
def sidxK2 (a : Nat) (o : O) (k : Val) (σ : Fr) : RS := optS ((toD k).bind fun k => chg σ a fun z => setO z k o) .next
@[simp] theorem sidxK2_d (a : Nat) (o : O) (k : D) (σ : Fr) : sidxK2 a o (.d k) σ = optS (chg σ a fun z => setO z k o) .next := rfl
def sidxK (G : Prog) (cl : Call) (a : Nat) (i : E) (v : Val) (σ : Fr) : RS := optS (asO v) fun o => optS (lentAt σ a) fun _ => (ev G cl .val i σ).st (sidxK2 a o)
@[simp] theorem sidxK_d (a : Nat) (i : E) (x : D) (σ : Fr) : sidxK G cl a i (.d x) σ = optS (lentAt σ a) fun _ => (ev G cl .val i σ).st (sidxK2 a (.d x)) := rfl
def bwK (a : Nat) (m : Bw) (vs : List O) (σ : Fr) : RS := optS (chg σ a fun z => bwO m z vs) .next
@[simp] theorem bwK_eq (a : Nat) (m : Bw) (vs : List O) (σ : Fr) : bwK a m vs σ = optS (chg σ a fun z => bwO m z vs) .next := rfl
def bwK0 (G : Prog) (cl : Call) (a : Nat) (m : Bw) (as : Es) (σ : Fr) (p : O × Bool) : RS := match p.1 with
    | .lst _ => (evs G cl as σ).st (bwK a m)
    | _ => .bad
@[simp] theorem bwK0_l (a : Nat) (m : Bw) (as : Es) (σ : Fr) (xs : List O) (b : Bool) : bwK0 G cl a m as σ (.lst xs, b) = (evs G cl as σ).st (bwK a m) := rfl
def exprK (_ : Val) (σ : Fr) : RS := .next σ
@[simp] theorem exprK_eq (v : Val) (σ : Fr) : exprK v σ = .next σ := rfl
def retK (v : Val) (σ : Fr) : RS := .ret v σ
@[simp] theorem retK_eq (v : Val) (σ : Fr) : retK v σ = .ret v σ := rfl
def iteK (a b : Fr → RS) (v : Val) (σ : Fr) : RS := match v with
  | .d (.bl true) => a σ
  | .d (.bl false) => b σ
  | _ => .bad
@[simp ↓] theorem iteK_t (a b : Fr → RS) (σ : Fr) : iteK a b (.d (.bl true)) σ = a σ := rfl
@[simp ↓] theorem iteK_f (a b : Fr → RS) (σ : Fr) : iteK a b (.d (.bl false)) σ = b σ := rfl
theorem iteK_b (a b : Fr → RS) (c : Bool) (σ : Fr) : iteK a b (.d (.bl c)) σ = if c = true then a σ else b σ := by cases c <;> rfl
def raiK (c : Nat) (os : List O) (σ : Fr) : RS := .exc ⟨c, O.frzL os⟩ σ
@[simp] theorem raiK_eq (c : Nat) (os : List O) (σ : Fr) : raiK c os σ = .exc ⟨c, O.frzL os⟩ σ := rfl
def forT (tg : Tg) (b : Fr → RS) (x : D) (σ : Fr) : RS := optS (Tf.asg tg x σ) b
def forK (tg : Tg) (b : Fr → RS) (xs : List D) (σ : Fr) : RS := forLoop (forT tg b) xs σ
@[simp] theorem forK_eq (tg : Tg) (b : Fr → RS) (xs : List D) (σ : Fr) : forK tg b xs σ = forLoop (forT tg b) xs σ := rfl
/-- behind a try's body -/
def RS.hnd (r : RS) (hs : Hs) : RS := match r with
  | .exc x σ => handle x σ hs
  | r => r
@[simp] theorem hnd_next (σ : Fr) (hs : Hs) : (RS.next σ).hnd hs = .next σ := rfl
@[simp] theorem hnd_ret (v : Val) (σ : Fr) (hs : Hs) : (RS.ret v σ).hnd hs = .ret v σ := rfl
@[simp] theorem hnd_exc (v : Xv) (σ : Fr) (hs : Hs) : (RS.exc v σ).hnd hs = handle v σ hs := rfl
/-! statements -/
@[simp] theorem x_nil (σ : Fr) : exSs G cl w .nil σ = .next σ := by rw [exSs]
@[simp] theorem x_cons (s : S) (r : Ss) (σ : Fr) : exSs G cl w (.cons s r) σ = (exS G cl w s σ).nxt (exSs G cl w r) := by rw [exSs]; rfl
@[simp] theorem x_asg (i : Nat) (e : E) (σ : Fr) : exS G cl w (.asg i e) σ = (ev G cl .val e σ).st (asgK i) := by rw [exS]; rfl
@[simp] theorem x_asgT (ts : List Tg) (e : E) (σ : Fr) : exS G cl w (.asgT ts e) σ = (ev G cl .val e σ).st (asgTK ts) := by rw [exS]; rfl
@[simp] theorem x_par (i j : Nat) (a b : E) (σ : Fr) : exS G cl w (.par i j a b) σ = (evs G cl (.cons false a (.cons false b .nil)) σ).st (parK i j) := by rw [exS]; rfl
@[simp] theorem x_sfld (a f : Nat) (e : E) (σ : Fr) : exS G cl w (.sfld a f e) σ = (ev G cl .val e σ).st (sfldK a f) := by rw [exS]; rfl
@[simp] theorem x_sidx (a : Nat) (i e : E) (σ : Fr) : exS G cl w (.sidx a i e) σ = (ev G cl .val e σ).st (sidxK G cl a i) := by rw [exS]; rfl
@[simp] theorem x_bw (a : Nat) (m : Bw) (as : Es) (σ : Fr) : exS G cl w (.bw a m as) σ = optS (lentAt σ a) (bwK0 G cl a m as σ) := by
  rw [exS]
  cases lentAt σ a with
  | none => rfl
  | some p => obtain ⟨o, b⟩ := p; cases o <;> rfl
@[simp] theorem x_expr (e : E) (σ : Fr) : exS G cl w (.expr e) σ = (ev G cl .val e σ).st exprK := by rw [exS]; rfl
@[simp] theorem x_ret (e : E) (σ : Fr) : exS G cl w (.ret e) σ = (ev G cl .val e σ).st retK := by rw [exS]; rfl
@[simp] theorem x_retN (σ : Fr) : exS G cl w .retN σ = .ret (.d .non) σ := by rw [exS]
@[simp] theorem x_ife (c : E) (a b : Ss) (σ : Fr) : exS G cl w (.ife c a b) σ = (ev G cl .tst c σ).st (iteK (exSs G cl w a) (exSs G cl w b)) := by rw [exS]; rfl
@[simp] theorem x_whl (c : E) (b : Ss) (σ : Fr) : exS G cl w (.whl c b) σ = whlLoop (ev G cl .tst c) (exSs G cl w b) w σ := by rw [exS]
@[simp] theorem x_for (tg : Tg) (it : It) (b : Ss) (σ : Fr) : exS G cl w (.for_ tg it b) σ = (evIt G cl it σ).st (forK tg (exSs G cl w b)) := by rw [exS]; rfl
@[simp] theorem x_raise (c : Nat) (as : Es) (σ : Fr) : exS G cl w (.raise c as) σ = (evs G cl as σ).st (raiK c) := by rw [exS]; rfl
@[simp] theorem x_brk (σ : Fr) : exS G cl w .brk σ = .brk σ := by rw [exS]
@[simp] theorem x_cont (σ : Fr) : exS G cl w .cont σ = .cont σ := by rw [exS]
@[simp] theorem x_pass (σ : Fr) : exS G cl w .pass σ = .next σ := by rw [exS]
@[simp] theorem x_try (b : Ss) (hs : Hs) (σ : Fr) : exS G cl w (.tryc b hs) σ = (exSs G cl w b σ).hnd hs := by rw [exS]; rfl
/-! expressions -/
def fldK (f : Nat) (v : Val) (σ : Fr) : Res Val := opt (fldV v f) fun v => .ok v σ
@[simp] theorem fldK_i (f c : Nat) (fs : List (Nat × D)) (σ : Fr) : fldK f (.d (.ins c fs)) σ = opt ((fs.lookup f).map Val.d) fun v => .ok v σ := rfl
theorem fldK_eq (f : Nat) (v : Val) (σ : Fr) : fldK f v σ = opt (fldV v f) fun v => .ok v σ := rfl
def selK (v k : Val) (σ : Fr) : Res Val := opt ((toD k).bind fun k => selV v k) fun v => .ok v σ
@[simp] theorem selK_d (v : Val) (k : D) (σ : Fr) : selK v (.d k) σ = opt (selV v k) fun v => .ok v σ := rfl
def idxK (G : Prog) (cl : Call) (i : E) (v : Val) (σ : Fr) : Res Val := match v with
  | .b r _ => (hidden r σ (ev G cl .val i)).bind (selK v)
  | .o _ => .bad
  | .d _ => (ev G cl .val i σ).bind (selK v)
@[simp] theorem idxK_d (i : E) (x : D) (σ : Fr) : idxK G cl i (.d x) σ = (ev G cl .val i σ).bind (selK (.d x)) := rfl
@[simp] theorem idxK_b (i : E) (r : Nat) (o : O) (σ : Fr) : idxK G cl i (.b r o) σ = (hidden r σ (ev G cl .val i)).bind (selK (.b r o)) := rfl
def pairK (l : Option Int) (h : Option Int) : Option Int × Option Int := (l, h)
def sl2K (G : Prog) (cl : Call) (hi : Eo) (l : Option Int) (σ : Fr) : Res (Option Int × Option Int) := (evO G cl hi σ).map fun h => (l, h)
@[simp] theorem sl2K_eq (hi : Eo) (l : Option Int) (σ : Fr) : sl2K G cl hi l σ = (evO G cl hi σ).map fun h => (l, h) := rfl
def sl3K (v : Val) (lh : Option Int × Option Int) (σ : Fr) : Res Val := opt (slcV v lh.1 lh.2) fun v => .ok v σ
@[simp] theorem sl3K_eq (v : Val) (l h : Option Int) (σ : Fr) : sl3K v (l, h) σ = opt (slcV v l h) fun v => .ok v σ := rfl
def sl1 (G : Prog) (cl : Call) (lo hi : Eo) (σ : Fr) : Res (Option Int × Option Int) := (evO G cl lo σ).bind (sl2K G cl hi)
@[simp] theorem sl1_eq (lo hi : Eo) (σ : Fr) : sl1 G cl lo hi σ = (evO G cl lo σ).bind (sl2K G cl hi) := rfl
def slcK (G : Prog) (cl : Call) (lo hi : Eo) (v : Val) (σ : Fr) : Res Val := match v with
  | .b r _ => (hidden r σ (sl1 G cl lo hi)).bind (sl3K v)
  | .o _ => .bad
  | .d _ => (sl1 G cl lo hi σ).bind (sl3K v)
@[simp] theorem slcK_d (lo hi : Eo) (x : D) (σ : Fr) : slcK G cl lo hi (.d x) σ = (sl1 G cl lo hi σ).bind (sl3K (.d x)) := rfl
def tupK (os : List O) (σ : Fr) : Res Val := if os.length ≤ lineN then .ok (.d (.tup (O.frzL os))) σ else .bad
@[simp] theorem tupK_eq (os : List O) (σ : Fr) : tupK os σ = if os.length ≤ lineN then .ok (.d (.tup (O.frzL os))) σ else .bad := rfl
def lstK (own : Bool) (os : List O) (σ : Fr) : Res Val := if os.length ≤ lineN then .ok (lstV own os) σ else .bad
@[simp] theorem lstK_eq (own : Bool) (os : List O) (σ : Fr) : lstK own os σ = if os.length ≤ lineN then .ok (lstV own os) σ else .bad := rfl
@[simp] theorem lstV_t (os : List O) : lstV true os = .o (.lst os) := rfl
@[simp] theorem lstV_f (os : List O) : lstV false os = .d (.lst (O.frzL os)) := rfl
def negK (G : Prog) (cl : Call) (v : Val) (σ : Fr) : Res Val := opt (toD v) fun x => negV G cl x σ
@[simp] theorem negK_d (x : D) (σ : Fr) : negK G cl (.d x) σ = negV G cl x σ := rfl
@[simp] theorem negV_i (i : Int) (σ : Fr) : negV G cl (.int i) σ = .ok (.d (.int (-i))) σ := rfl
@[simp] theorem negV_o (c : Nat) (fs : List (Nat × D)) (σ : Fr) : negV G cl (.ins c fs) σ = opt (G.meth c m_neg) fun f => after (cl f [owned (.ins c fs)]) [] σ := rfl
def binK2 (G : Prog) (cl : Call) (op : Bop) (x : D) (u : Val) (σ : Fr) : Res Val := opt (toD u) fun y => binV G cl op x y σ
@[simp] theorem binK2_d (op : Bop) (x y : D) (σ : Fr) : binK2 G cl op x (.d y) σ = binV G cl op x y σ := rfl
def binK (G : Prog) (cl : Call) (op : Bop) (b : E) (v : Val) (σ : Fr) : Res Val := opt (toD v) fun x => (ev G cl .val b σ).bind (binK2 G cl op x)
@[simp] theorem binK_d (op : Bop) (b : E) (x : D) (σ : Fr) : binK G cl op b (.d x) σ = (ev G cl .val b σ).bind (binK2 G cl op x) := rfl
@[simp] theorem binV_add (i j : Int) (σ : Fr) : binV G cl .add (.int i) (.int j) σ = .ok (.d (.int (i + j))) σ := rfl
@[simp] theorem binV_sub (i j : Int) (σ : Fr) : binV G cl .sub (.int i) (.int j) σ = .ok (.d (.int (i - j))) σ := rfl
@[simp] theorem binV_mul (i j : Int) (σ : Fr) : binV G cl .mul (.int i) (.int j) σ = if mulOk i j = true then .ok (.d (.int (i * j))) σ else .bad := by
  show opt ((if mulOk i j = true then some (i * j) else none).map D.int) _ = _
  split <;> rfl
@[simp] theorem binV_fdiv (i j : Int) (σ : Fr) : binV G cl .fdiv (.int i) (.int j) σ = if j ≠ 0 ∧ j.natAbs.log2 < 9000 then .ok (.d (.int (i.fdiv j))) σ else .bad := by
  show opt ((if j ≠ 0 ∧ j.natAbs.log2 < 9000 then some (i.fdiv j) else none).map D.int) _ = _
  split <;> rfl
@[simp] theorem binV_mod (i j : Int) (σ : Fr) : binV G cl .mod (.int i) (.int j) σ = if 0 < j then .ok (.d (.int (i % j))) σ else .bad := by
  show opt ((if 0 < j then some (i % j) else none).map D.int) _ = _
  split <;> rfl
@[simp] theorem binV_pow (i j : Int) (σ : Fr) : binV G cl .pow (.int i) (.int j) σ = if 0 ≤ j ∧ j ≤ 1000000 ∧ i.natAbs < 18446744073709551616 then .ok (.d (.int (i ^ j.toNat))) σ else .bad := by
  show opt ((if 0 ≤ j ∧ j ≤ 1000000 ∧ i.natAbs < 18446744073709551616 then some (i ^ j.toNat) else none).map D.int) _ = _
  split <;> rfl
@[simp] theorem binV_o (op : Bop) (c c' : Nat) (fs fs' : List (Nat × D)) (σ : Fr) : binV G cl op (.ins c fs) (.ins c' fs') σ = if c = c' then opt (opm op) fun m => opt (G.meth c m) fun f => after (cl f [owned (.ins c fs), owned (.ins c' fs')]) [] σ else .bad := rfl
@[simp] theorem binV_lst (xs ys : List D) (σ : Fr) : binV G cl .add (.lst xs) (.lst ys) σ = if xs.length + ys.length ≤ lineN then .ok (.d (.lst (xs ++ ys))) σ else .bad := by
  show opt (if xs.length + ys.length ≤ lineN then some (D.lst (xs ++ ys)) else none) _ = _
  split <;> rfl
@[simp] theorem binV_rep (xs : List D) (n : Int) (σ : Fr) : binV G cl .mul (.lst xs) (.int n) σ = if n < 9223372036854775808 ∧ -9223372036854775808 ≤ n ∧ xs.length * n.toNat ≤ lineN then .ok (.d (.lst ((List.replicate n.toNat xs).flatten))) σ else .bad := by
  show opt (if n < 9223372036854775808 ∧ -9223372036854775808 ≤ n ∧ xs.length * n.toNat ≤ lineN then some (D.lst ((List.replicate n.toNat xs).flatten)) else none) _ = _
  split <;> rfl
def cmpK2 (G : Prog) (cl : Call) (op : Cop) (x : D) (u : Val) (σ : Fr) : Res Val := opt (cmpV G cl op x u) fun c => .ok (bl c) σ
@[simp] theorem cmpK2_eq (op : Cop) (x : D) (u : Val) (σ : Fr) : cmpK2 G cl op x u σ = opt (cmpV G cl op x u) fun c => .ok (.d (.bl c)) σ := rfl
def cmpK (G : Prog) (cl : Call) (op : Cop) (b : E) (v : Val) (σ : Fr) : Res Val := opt (toD v) fun x => (ev G cl .pk b σ).bind (cmpK2 G cl op x)
@[simp] theorem cmpK_d (op : Cop) (b : E) (x : D) (σ : Fr) : cmpK G cl op b (.d x) σ = (ev G cl .pk b σ).bind (cmpK2 G cl op x) := rfl
def chnK3 (G : Prog) (cl : Call) (q : Cop) (y : D) (w : Val) (σ : Fr) : Res Val := opt (toD w) fun z => opt (cmpD G cl q y z) fun k => .ok (bl k) σ
@[simp] theorem chnK3_d (q : Cop) (y z : D) (σ : Fr) : chnK3 G cl q y (.d z) σ = opt (cmpD G cl q y z) fun k => .ok (.d (.bl k)) σ := rfl
def chnK2 (G : Prog) (cl : Call) (p q : Cop) (c : E) (x : D) (u : Val) (σ : Fr) : Res Val := opt (toD u) fun y => opt (cmpD G cl p x y) fun k => if k = true then (ev G cl .val c σ).bind (chnK3 G cl q y) else .ok (.d (.bl false)) σ
@[simp] theorem chnK2_d (p q : Cop) (c : E) (x y : D) (σ : Fr) : chnK2 G cl p q c x (.d y) σ = opt (cmpD G cl p x y) fun k => if k = true then (ev G cl .val c σ).bind (chnK3 G cl q y) else .ok (.d (.bl false)) σ := rfl
def chnK (G : Prog) (cl : Call) (p q : Cop) (b c : E) (v : Val) (σ : Fr) : Res Val := opt (toD v) fun x => (ev G cl .val b σ).bind (chnK2 G cl p q c x)
@[simp] theorem chnK_d (p q : Cop) (b c : E) (x : D) (σ : Fr) : chnK G cl p q b c (.d x) σ = (ev G cl .val b σ).bind (chnK2 G cl p q c x) := rfl
def notK (v : Val) (σ : Fr) : Res Val := opt (truthV v) fun b => .ok (bl (!b)) σ
@[simp] theorem notK_eq (v : Val) (σ : Fr) : notK v σ = opt (truthV v) fun b => .ok (.d (.bl (!b))) σ := rfl
def tstK (a b : Fr → Res Val) (v : Val) (σ : Fr) : Res Val := match v with
  | .d (.bl true) => a σ
  | .d (.bl false) => b σ
  | _ => .bad
@[simp ↓] theorem tstK_t (a b : Fr → Res Val) (σ : Fr) : tstK a b (.d (.bl true)) σ = a σ := rfl
@[simp ↓] theorem tstK_f (a b : Fr → Res Val) (σ : Fr) : tstK a b (.d (.bl false)) σ = b σ := rfl
theorem tstK_b (a b : Fr → Res Val) (c : Bool) (σ : Fr) : tstK a b (.d (.bl c)) σ = if c = true then a σ else b σ := by cases c <;> rfl
def callK (cl : Call) (f : Nat) (p : List Sl × List (Option (Nat × Bool))) (σ : Fr) : Res Val := after (cl f p.1) p.2 σ
@[simp] theorem callK_eq (f : Nat) (ss : List Sl) (bk : List (Option (Nat × Bool))) (σ : Fr) : callK cl f (ss, bk) σ = after (cl f ss) bk σ := rfl
def makeK (G : Prog) (cl : Call) (c : Nat) (p : List Sl × List (Option (Nat × Bool))) (σ : Fr) : Res Val := makeV G cl c p.1 p.2 σ
@[simp] theorem makeK_eq (c : Nat) (ss : List Sl) (bk : List (Option (Nat × Bool))) (σ : Fr) : makeK G cl c (ss, bk) σ = makeV G cl c ss bk σ := rfl
def callvK (G : Prog) (cl : Call) (as : Es) (v : Val) (σ : Fr) : Res Val := match v with
  | .d (.cls c) => opt G.clss[c]? fun C => (evAs G cl (modesOf G C.init).tail as σ).bind (makeK G cl c)
  | _ => .bad
@[simp] theorem callvK_c (as : Es) (c : Nat) (σ : Fr) : callvK G cl as (.d (.cls c)) σ = opt G.clss[c]? fun C => (evAs G cl (modesOf G C.init).tail as σ).bind (makeK G cl c) := rfl
def callK1 (cl : Call) (f : Nat) (s : Sl) (p : List Sl × List (Option (Nat × Bool))) (σ : Fr) : Res Val := after (cl f (s :: p.1)) p.2 σ
@[simp] theorem callK1_eq (f : Nat) (s : Sl) (ss : List Sl) (bk : List (Option (Nat × Bool))) (σ : Fr) : callK1 cl f s (ss, bk) σ = after (cl f (s :: ss)) bk σ := rfl
def isValH : Option Mode → Bool
  | some .val => true
  | _ => false
def methK (G : Prog) (cl : Call) (m : Nat) (as : Es) (v : Val) (σ : Fr) : Res Val := opt (toD v) fun x => match x with
  | .ins c fs => opt (G.meth c m) fun f => if isValH (modesOf G f).head? = true then (evAs G cl (modesOf G f).tail as σ).bind (callK1 cl f (owned (.ins c fs))) else .bad
  | _ => .bad
@[simp] theorem methK_i (m : Nat) (as : Es) (c : Nat) (fs : List (Nat × D)) (σ : Fr) : methK G cl m as (.d (.ins c fs)) σ = opt (G.meth c m) fun f => if isValH (modesOf G f).head? = true then (evAs G cl (modesOf G f).tail as σ).bind (callK1 cl f (owned (.ins c fs))) else .bad := rfl
def cmethK (G : Prog) (cl : Call) (m : Nat) (as : Es) (v : Val) (σ : Fr) : Res Val := match v with
  | .d (.cls c) => opt (G.cmeth c m) fun f => (evAs G cl (modesOf G f).tail as σ).bind (callK1 cl f (owned (.cls c)))
  | _ => .bad
@[simp] theorem cmethK_c (m : Nat) (as : Es) (c : Nat) (σ : Fr) : cmethK G cl m as (.d (.cls c)) σ = opt (G.cmeth c m) fun f => (evAs G cl (modesOf G f).tail as σ).bind (callK1 cl f (owned (.cls c))) := rfl
def biK (b : Bi) (v : Val) (σ : Fr) : Res Val := opt (biV b v) fun x => .ok (.d x) σ
@[simp] theorem biK_eq (b : Bi) (v : Val) (σ : Fr) : biK b v σ = opt (biV b v) fun x => .ok (.d x) σ := rfl
def booK (G : Prog) (cl : Call) (v : Val) (σ : Fr) : Res Val := opt (toD v) fun x => booV G cl x σ
@[simp] theorem booK_d (x : D) (σ : Fr) : booK G cl (.d x) σ = booV G cl x σ := rfl
def isinK (c : Cs) (v : Val) (σ : Fr) : Res Val := opt (toD v) fun x => opt (isinD x c) fun b => .ok (bl b) σ
@[simp] theorem isinK_d (c : Cs) (x : D) (σ : Fr) : isinK c (.d x) σ = opt (isinD x c) fun b => .ok (.d (.bl b)) σ := rfl
@[simp] theorem e_cst (d : D) (σ : Fr) : ev G cl md (.cst d) σ = fin md (.d d) σ := by rw [ev]
@[simp] theorem e_var (i : Nat) (σ : Fr) : ev G cl md (.var i) σ = getVar md i σ := by rw [ev]
@[simp] theorem e_clsv (c : Nat) (σ : Fr) : ev G cl md (.clsv c) σ = fin md (.d (.cls c)) σ := by rw [ev]
@[simp] theorem e_glo (x : Nat) (σ : Fr) : ev G cl md (.glo x) σ = opt G.glos[x]? fun d => fin md (.d d) σ := by rw [ev]
@[simp] theorem e_fld (a : E) (f : Nat) (σ : Fr) : ev G cl md (.fld a f) σ = ((ev G cl .pk a σ).bind (fldK f)).bind (fin md) := by rw [ev]; rfl
@[simp] theorem e_idx (a i : E) (σ : Fr) : ev G cl md (.idx a i) σ = ((ev G cl .pk a σ).bind (idxK G cl i)).bind (fin md) := by rw [ev]; rfl
@[simp] theorem e_slc (a : E) (lo hi : Eo) (σ : Fr) : ev G cl md (.slc a lo hi) σ = ((ev G cl .pk a σ).bind (slcK G cl lo hi)).bind (fin md) := by rw [ev]; rfl
@[simp] theorem e_tup (es : Es) (σ : Fr) : ev G cl md (.tup es) σ = ((evs G cl es σ).bind tupK).bind (fin md) := by rw [ev]; rfl
@[simp] theorem e_lst (own : Bool) (es : Es) (σ : Fr) : ev G cl md (.lst own es) σ = ((evs G cl es σ).bind (lstK own)).bind (fin md) := by rw [ev]; rfl
@[simp] theorem e_neg (a : E) (σ : Fr) : ev G cl md (.neg a) σ = ((ev G cl .val a σ).bind (negK G cl)).bind (fin md) := by rw [ev]; rfl
@[simp] theorem e_bin (op : Bop) (a b : E) (σ : Fr) : ev G cl md (.bin op a b) σ = ((ev G cl .val a σ).bind (binK G cl op b)).bind (fin md) := by rw [ev]; rfl
@[simp] theorem e_cmp (op : Cop) (a b : E) (σ : Fr) : ev G cl md (.cmp op a b) σ = ((ev G cl .val a σ).bind (cmpK G cl op b)).bind (fin md) := by rw [ev]; rfl
@[simp] theorem e_chn (p q : Cop) (a b c : E) (σ : Fr) : ev G cl md (.chn p q a b c) σ = ((ev G cl .val a σ).bind (chnK G cl p q b c)).bind (fin md) := by
  rw [ev]
  congr 2
  funext v σ
  unfold chnK
  congr 1
  funext x
  congr 1
  funext u σ
  unfold chnK2
  congr 1
  funext y
  congr 1
  funext k
  cases k <;> rfl
@[simp] theorem e_not (a : E) (σ : Fr) : ev G cl md (.not a) σ = (ev G cl md a σ).bind notK := by rw [ev]; rfl
@[simp] theorem e_and (a b : E) (σ : Fr) : ev G cl md (.and a b) σ = (ev G cl md a σ).bind (tstK (ev G cl md b) (fin md (.d (.bl false)))) := by rw [ev]; rfl
@[simp] theorem e_or (a b : E) (σ : Fr) : ev G cl md (.or a b) σ = (ev G cl md a σ).bind (tstK (fin md (.d (.bl true))) (ev G cl md b)) := by rw [ev]; rfl
@[simp] theorem e_ife (c a b : E) (σ : Fr) : ev G cl md (.ife c a b) σ = (ev G cl .tst c σ).bind (tstK (ev G cl md a) (ev G cl md b)) := by rw [ev]; rfl
@[simp] theorem e_call (f : Nat) (as : Es) (σ : Fr) : ev G cl md (.call f as) σ = ((evAs G cl (modesOf G f) as σ).bind (callK cl f)).bind (fin md) := by rw [ev]; rfl
@[simp] theorem e_make (c : Nat) (as : Es) (σ : Fr) : ev G cl md (.make c as) σ = (opt G.clss[c]? fun C => (evAs G cl (modesOf G C.init).tail as σ).bind (makeK G cl c)).bind (fin md) := by rw [ev]; rfl
@[simp] theorem e_callv (a : E) (as : Es) (σ : Fr) : ev G cl md (.callv a as) σ = ((ev G cl .val a σ).bind (callvK G cl as)).bind (fin md) := by rw [ev]; rfl
@[simp] theorem e_meth (a : E) (m : Nat) (as : Es) (σ : Fr) : ev G cl md (.meth a m as) σ = ((ev G cl .val a σ).bind (methK G cl m as)).bind (fin md) := by
  rw [ev]
  congr 2
  funext v σ
  unfold methK
  congr 1
  funext x
  cases x with
  | ins c fs =>
    show opt _ _ = opt _ _
    congr 1
    funext f
    cases (modesOf G f).head? with
    | none => rfl
    | some m => cases m <;> rfl
  | _ => rfl
@[simp] theorem e_cmeth (a : E) (m : Nat) (as : Es) (σ : Fr) : ev G cl md (.cmeth a m as) σ = ((ev G cl .val a σ).bind (cmethK G cl m as)).bind (fin md) := by rw [ev]; rfl
@[simp] theorem e_bi (b : Bi) (a : E) (σ : Fr) : ev G cl md (.bi b a) σ = ((ev G cl .pk a σ).bind (biK b)).bind (fin md) := by rw [ev]; rfl
@[simp] theorem e_boo (a : E) (σ : Fr) : ev G cl md (.boo a) σ = ((ev G cl .val a σ).bind (booK G cl)).bind (fin md) := by rw [ev]; rfl
@[simp] theorem e_isin (a : E) (c : Cs) (σ : Fr) : ev G cl md (.isin a c) σ = ((ev G cl .val a σ).bind (isinK c)).bind (fin md) := by rw [ev]; rfl
def stoK (G : Prog) (cl : Call) (v : Val) (σ : Fr) : Res Val := opt (toD v) fun x => stoV G cl x σ
@[simp] theorem stoK_d (x : D) (σ : Fr) : stoK G cl (.d x) σ = stoV G cl x σ := rfl
@[simp] theorem e_sto (a : E) (σ : Fr) : ev G cl md (.sto a) σ = ((ev G cl .val a σ).bind (stoK G cl)).bind (fin md) := by rw [ev]; rfl
@[simp] theorem stoV_i (i : Int) (σ : Fr) : stoV G cl (.int i) σ = if i.natAbs.log2 < 1920 then .ok (.d (.str (PySem.Str.ofString (toString i)))) σ else .bad := by
  show opt (if i.natAbs.log2 < 1920 then some (D.str (PySem.Str.ofString (toString i))) else none) _ = _
  split <;> rfl
def fmtK2 (p : Str) (u : Val) (σ : Fr) : Res Val := opt (toD u) fun y => opt (fmtB p y) fun z => .ok (.d z) σ
@[simp] theorem fmtK2_d (p : Str) (y : D) (σ : Fr) : fmtK2 p (.d y) σ = opt (fmtB p y) fun z => .ok (.d z) σ := rfl
def fmtK (G : Prog) (cl : Call) (s : Str) (b : E) (v : Val) (σ : Fr) : Res Val := opt (toD v) fun x => opt (fmtA x s) fun p => (ev G cl .val b σ).bind (fmtK2 p)
@[simp] theorem fmtK_d (s : Str) (b : E) (x : D) (σ : Fr) : fmtK G cl s b (.d x) σ = opt (fmtA x s) fun p => (ev G cl .val b σ).bind (fmtK2 p) := rfl
@[simp] theorem e_fmt (a b : E) (s : Str) (σ : Fr) : ev G cl md (.fmt a s b) σ = ((ev G cl .val a σ).bind (fmtK G cl s b)).bind (fin md) := by rw [ev]; rfl
def mxK2 (mx : Bool) (x : D) (u : Val) (σ : Fr) : Res Val := opt (toD u) fun y => opt (mxV mx x y) fun z => .ok (.d z) σ
@[simp] theorem mxK2_d (mx : Bool) (x y : D) (σ : Fr) : mxK2 mx x (.d y) σ = opt (mxV mx x y) fun z => .ok (.d z) σ := rfl
def mxK (G : Prog) (cl : Call) (mx : Bool) (b : E) (v : Val) (σ : Fr) : Res Val := opt (toD v) fun x => (ev G cl .val b σ).bind (mxK2 mx x)
@[simp] theorem mxK_d (mx : Bool) (b : E) (x : D) (σ : Fr) : mxK G cl mx b (.d x) σ = (ev G cl .val b σ).bind (mxK2 mx x) := rfl
@[simp] theorem e_mxm (mx : Bool) (a b : E) (σ : Fr) : ev G cl md (.mxm mx a b) σ = ((ev G cl .val a σ).bind (mxK G cl mx b)).bind (fin md) := by rw [ev]; rfl
@[simp] theorem mxV_i (mx : Bool) (i j : Int) : mxV mx (.int i) (.int j) = some (.int (if mx then (if j > i then j else i) else (if j < i then j else i))) := rfl
def revK (v : Val) (σ : Fr) : Res Val := opt (toD v) fun x => opt (revV x) fun z => .ok (.d z) σ
@[simp] theorem revK_l (xs : List D) (σ : Fr) : revK (.d (.lst xs)) σ = .ok (.d (.lst xs.reverse)) σ := rfl
@[simp] theorem e_rev (a : E) (σ : Fr) : ev G cl md (.rev a) σ = ((ev G cl .val a σ).bind revK).bind (fin md) := by rw [ev]; rfl
def bmK2 (m : Bm) (x : Str) (u : Val) (σ : Fr) : Res Val := opt (toD u) fun y => opt (bmV m x y) fun z => .ok (.d z) σ
@[simp] theorem bmK2_d (m : Bm) (x : Str) (y : D) (σ : Fr) : bmK2 m x (.d y) σ = opt (bmV m x y) fun z => .ok (.d z) σ := rfl
def bmK (G : Prog) (cl : Call) (m : Bm) (b : E) (v : Val) (σ : Fr) : Res Val := opt (txtV v) fun x => (ev G cl .val b σ).bind (bmK2 m x)
@[simp] theorem bmK_d (m : Bm) (b : E) (x : Str) (σ : Fr) : bmK G cl m b (.d (.str x)) σ = (ev G cl .val b σ).bind (bmK2 m x) := rfl
@[simp] theorem e_bm (a : E) (m : Bm) (b : E) (σ : Fr) : ev G cl md (.bm a m b) σ = ((ev G cl .val a σ).bind (bmK G cl m b)).bind (fin md) := by rw [ev]; rfl
@[simp] theorem binV_str (x y : Str) (σ : Fr) : binV G cl .add (.str x) (.str y) σ = if x.length + y.length ≤ lineN then .ok (.d (.str (x ++ y))) σ else .bad := by
  show opt (if x.length + y.length ≤ lineN then some (D.str (x ++ y)) else none) _ = _
  split <;> rfl
/-- a turn of a comprehension -/
def eltK (v : Val) (σ : Fr) : Res (Option O) := opt (asO v) fun o => .ok (some o) σ
@[simp] theorem eltK_eq (v : Val) (σ : Fr) : eltK v σ = opt (asO v) fun o => .ok (some o) σ := rfl
def okK (G : Prog) (cl : Call) (elt : E) (ok : Bool) (σ : Fr) : Res (Option O) := match ok with
  | true => (ev G cl .val elt σ).bind eltK
  | false => .ok none σ
@[simp ↓] theorem okK_t (elt : E) (σ : Fr) : okK G cl elt true σ = (ev G cl .val elt σ).bind eltK := rfl
@[simp ↓] theorem okK_f (elt : E) (σ : Fr) : okK G cl elt false σ = .ok none σ := rfl
def cTurn (G : Prog) (cl : Call) (elt : E) (tg : Tg) (cs : Es) (vs : List Nat) (x : D) (σ : Fr) : Res (Option O) := opt (Tf.asg tg x (wiped vs σ)) fun σ => (evCs G cl cs σ).bind (okK G cl elt)
def compK2 (own : Bool) (σ : Fr) (vs : List Nat) (r : List O) (σ' : Fr) : Res Val := if r.length ≤ lineN then .ok (lstV own r) (restored σ vs σ') else .bad
@[simp] theorem compK2_eq (own : Bool) (σ : Fr) (vs : List Nat) (r : List O) (σ' : Fr) : compK2 own σ vs r σ' = if r.length ≤ lineN then .ok (lstV own r) (restored σ vs σ') else .bad := rfl
def compK (own : Bool) (turn : D → Fr → Res (Option O)) (vs : List Nat) (xs : List D) (σ : Fr) : Res Val := (compLoop turn xs (wiped vs σ)).nox.bind (compK2 own σ vs)
@[simp] theorem compK_eq (own : Bool) (turn : D → Fr → Res (Option O)) (vs : List Nat) (xs : List D) (σ : Fr) : compK own turn vs xs σ = (compLoop turn xs (wiped vs σ)).nox.bind (compK2 own σ vs) := rfl
@[simp] theorem e_comp (own : Bool) (elt : E) (tg : Tg) (it : It) (cs : Es) (vs : List Nat) (σ : Fr) : ev G cl md (.comp own elt tg it cs vs) σ = ((evIt G cl it σ).bind (compK own (cTurn G cl elt tg cs vs) vs)).bind (fin md) := by
  rw [ev]
  congr 2
@[simp] theorem o_none (σ : Fr) : evO G cl .none σ = .ok none σ := by rw [evO]
def asInt (v : Val) (σ : Fr) : Res (Option Int) := match v with
  | .d (.int i) => .ok (some i) σ
  | _ => .bad
@[simp] theorem asInt_i (i : Int) (σ : Fr) : asInt (.d (.int i)) σ = .ok (some i) σ := rfl
@[simp] theorem o_some (e : E) (σ : Fr) : evO G cl (.some e) σ = (ev G cl .val e σ).bind asInt := by rw [evO]; rfl
def evsK (G : Prog) (cl : Call) (r : Es) (v : Val) (σ : Fr) : Res (List O) := opt (asO v) fun o => (evs G cl r σ).map fun os => o :: os
@[simp] theorem evsK_d (r : Es) (x : D) (σ : Fr) : evsK G cl r (.d x) σ = (evs G cl r σ).map (O.d x :: ·) := rfl
@[simp] theorem evsK_o (r : Es) (x : O) (σ : Fr) : evsK G cl r (.o x) σ = (evs G cl r σ).map (x :: ·) := rfl
@[simp] theorem s_nil (σ : Fr) : evs G cl .nil σ = .ok [] σ := by rw [evs]
@[simp] theorem s_cons (e : E) (r : Es) (σ : Fr) : evs G cl (.cons false e r) σ = (ev G cl .val e σ).bind (evsK G cl r) := by rw [evs]; rfl
def evsK2 (G : Prog) (cl : Call) (r : Es) (v : Val) (σ : Fr) : Res (List O) := opt (itemsV v) fun xs => (evs G cl r σ).map fun os => xs.map O.d ++ os
@[simp] theorem evsK2_eq (r : Es) (v : Val) (σ : Fr) : evsK2 G cl r v σ = opt (itemsV v) fun xs => (evs G cl r σ).map fun os => xs.map O.d ++ os := rfl
@[simp] theorem s_star (e : E) (r : Es) (σ : Fr) : evs G cl (.cons true e r) σ = (ev G cl .pk e σ).bind (evsK2 G cl r) := by rw [evs]; rfl
@[simp] theorem c_nil (σ : Fr) : evCs G cl .nil σ = .ok true σ := by rw [evCs]
def asB (v : Val) (σ : Fr) : Res Bool := match v with
  | .d (.bl b) => .ok b σ
  | _ => .bad
@[simp] theorem asB_b (b : Bool) (σ : Fr) : asB (.d (.bl b)) σ = .ok b σ := rfl
@[simp] theorem c_one (b : Bool) (e : E) (σ : Fr) : evCs G cl (.cons b e .nil) σ = (ev G cl .tst e σ).bind asB := by rw [evCs]; rfl
def evAK (G : Prog) (cl : Call) (ms : List Mode) (r : Es) (v : Val) (σ : Fr) : Res (List Sl × List (Option (Nat × Bool))) := opt (toD v) fun x => (evAs G cl ms r σ).map fun p => (owned x :: p.1, p.2)
@[simp] theorem evAK_d (ms : List Mode) (r : Es) (x : D) (σ : Fr) : evAK G cl ms r (.d x) σ = (evAs G cl ms r σ).map fun p => (owned x :: p.1, p.2) := rfl
@[simp] theorem evAK_o (ms : List Mode) (r : Es) (x : O) (σ : Fr) : evAK G cl ms r (.o x) σ = (evAs G cl ms r σ).map fun p => (owned x.frz :: p.1, p.2) := rfl
@[simp] theorem a_nil (ms : List Mode) (σ : Fr) : evAs G cl ms .nil σ = .ok ([], []) σ := by rw [evAs]
def evASK (G : Prog) (cl : Call) (r : Es) (v : Val) (σ : Fr) : Res (List Sl × List (Option (Nat × Bool))) := opt (itemsV v) fun xs => (evAs G cl [] r σ).map fun p => (xs.map owned ++ p.1, p.2)
@[simp] theorem evASK_eq (r : Es) (v : Val) (σ : Fr) : evASK G cl r v σ = opt (itemsV v) fun xs => (evAs G cl [] r σ).map fun p => (xs.map owned ++ p.1, p.2) := rfl
@[simp] theorem a_star (ms : List Mode) (e : E) (r : Es) (σ : Fr) : evAs G cl ms (.cons true e r) σ = (ev G cl .pk e σ).bind (evASK G cl r) := by rw [evAs]; rfl
@[simp] theorem a_val (ms : List Mode) (e : E) (r : Es) (σ : Fr) : evAs G cl (.val :: ms) (.cons false e r) σ = (ev G cl .val e σ).bind (evAK G cl ms r) := by rw [evAs]; rfl
@[simp] theorem a_no (e : E) (r : Es) (σ : Fr) : evAs G cl [] (.cons false e r) σ = (ev G cl .val e σ).bind (evAK G cl [] r) := by rw [evAs]; rfl
@[simp] theorem a_lend (ms : List Mode) (i : Nat) (r : Es) (σ : Fr) : evAs G cl (.lend :: ms) (.cons false (.var i) r) σ = opt (lentAt σ i) fun ol => (evAs G cl ms r (σ.put i none)).map fun p => (.lent ol.1 :: p.1, some (i, ol.2) :: p.2) := by rw [evAs]
def itK (v : Val) (σ : Fr) : Res (List D) := opt ((toD v).bind iterD) fun xs => .ok xs σ
@[simp] theorem itK_d (x : D) (σ : Fr) : itK (.d x) σ = opt (iterD x) fun xs => .ok xs σ := rfl
@[simp] theorem iterD_lst (xs : List D) : iterD (.lst xs) = some xs := rfl
@[simp] theorem iterD_tup (xs : List D) : iterD (.tup xs) = some xs := rfl
@[simp] theorem iterD_scr (xs : List Int) : iterD (.scr xs) = some (xs.map D.int) := rfl
@[simp] theorem iterD_str (z : Str) : iterD (.str z) = some (signs z) := rfl
def rngK (os : List O) (σ : Fr) : Res (List D) := opt (rngOf (O.frzL os)) fun xs => .ok xs σ
@[simp] theorem rngK_eq (os : List O) (σ : Fr) : rngK os σ = opt (rngOf (O.frzL os)) fun xs => .ok xs σ := rfl
def enumK (v : Val) (σ : Fr) : Res (List D) := opt ((toD v).bind itemsD) fun xs => .ok (enumL 0 xs) σ
@[simp] theorem enumK_d (x : D) (σ : Fr) : enumK (.d x) σ = opt (itemsD x) fun xs => .ok (enumL 0 xs) σ := rfl
def zipK2 (xs : List D) (u : Val) (σ : Fr) : Res (List D) := opt ((toD u).bind itemsD) fun ys => .ok ((xs.zip ys).map fun p => .tup [p.1, p.2]) σ
@[simp] theorem zipK2_d (xs : List D) (u : D) (σ : Fr) : zipK2 xs (.d u) σ = opt (itemsD u) fun ys => .ok ((xs.zip ys).map fun p => .tup [p.1, p.2]) σ := rfl
def zipK (G : Prog) (cl : Call) (b : E) (v : Val) (σ : Fr) : Res (List D) := opt ((toD v).bind itemsD) fun xs => (ev G cl .val b σ).bind (zipK2 xs)
@[simp] theorem zipK_d (b : E) (x : D) (σ : Fr) : zipK G cl b (.d x) σ = opt (itemsD x) fun xs => (ev G cl .val b σ).bind (zipK2 xs) := rfl
@[simp] theorem i_seq (e : E) (σ : Fr) : evIt G cl (.seq e) σ = (ev G cl .val e σ).bind itK := by rw [evIt]; rfl
@[simp] theorem i_rng (as : Es) (σ : Fr) : evIt G cl (.rng as) σ = (evs G cl as σ).bind rngK := by rw [evIt]; rfl
@[simp] theorem i_enum (e : E) (σ : Fr) : evIt G cl (.enum e) σ = (ev G cl .val e σ).bind enumK := by rw [evIt]; rfl
@[simp] theorem i_zip (a b : E) (σ : Fr) : evIt G cl (.zip a b) σ = (ev G cl .val a σ).bind (zipK G cl b) := by rw [evIt]; rfl
end
/-! small things -/
@[simp] theorem fin_val (x : D) (σ : Fr) : fin .val (.d x) σ = .ok (.d x) σ := rfl
@[simp] theorem fin_valo (x : O) (σ : Fr) : fin .val (.o x) σ = .ok (.o x) σ := rfl
@[simp] theorem fin_pk' (v : Val) (σ : Fr) : fin .pk v σ = .ok v σ := rfl
@[simp] theorem fin_tst' (v : Val) (σ : Fr) : fin .tst v σ = opt (truthV v) fun b => .ok (.d (.bl b)) σ := rfl
@[simp] theorem getVar_eq (md : Md) (i : Nat) (σ : Fr) : getVar md i σ = match σ.get i with
  | some (.own o) => getO md i o .own σ
  | some (.lent o) => getO md i o .lent σ
  | none => .bad := rfl
@[simp] theorem getO_d (md : Md) (i : Nat) (x : D) (mk : O → Sl) (σ : Fr) : getO md i (.d x) mk σ = fin md (.d x) σ := rfl
@[simp] theorem getO_lst (i : Nat) (x : List O) (mk : O → Sl) (σ : Fr) : getO .val i (.lst x) mk σ = .ok (.d (.lst (O.frzL x))) (σ.put i (some (mk (.d (.lst (O.frzL x)))))) := by
  show Res.ok (Val.d (O.lst x).frz) (σ.put i (some (mk (.d (O.lst x).frz)))) = _
  rw [frz_lst]
@[simp] theorem getO_lstp (i : Nat) (x : List O) (mk : O → Sl) (σ : Fr) : getO .pk i (.lst x) mk σ = .ok (.b i (.lst x)) σ := rfl
@[simp] theorem truthV_d (x : D) : truthV (.d x) = truthD x := rfl
@[simp] theorem truth_bl (b : Bool) : truthD (.bl b) = some b := rfl
@[simp] theorem truth_int (i : Int) : truthD (.int i) = some (decide (¬ i = 0)) := by show some (i != 0) = _; by_cases h : i = 0 <;> simp [h]
@[simp] theorem cmpV_ne (G : Prog) (cl : Call) (i j : Int) : cmpV G cl .ne (.int i) (.d (.int j)) = some (decide (¬ i = j)) := by show some (i != j) = _; by_cases h : i = j <;> simp [h]
@[simp] theorem cmpV_eq (G : Prog) (cl : Call) (i j : Int) : cmpV G cl .eq (.int i) (.d (.int j)) = some (decide (i = j)) := by show some (i == j) = _; by_cases h : i = j <;> simp [h]
@[simp] theorem cmpV_lt (G : Prog) (cl : Call) (i j : Int) : cmpV G cl .lt (.int i) (.d (.int j)) = some (decide (i < j)) := rfl
@[simp] theorem cmpV_le (G : Prog) (cl : Call) (i j : Int) : cmpV G cl .le (.int i) (.d (.int j)) = some (decide (i ≤ j)) := rfl
@[simp] theorem cmpV_gt (G : Prog) (cl : Call) (i j : Int) : cmpV G cl .gt (.int i) (.d (.int j)) = some (decide (j < i)) := rfl
@[simp] theorem cmpV_ge (G : Prog) (cl : Call) (i j : Int) : cmpV G cl .ge (.int i) (.d (.int j)) = some (decide (j ≤ i)) := rfl
@[simp] theorem cmpD_lt (G : Prog) (cl : Call) (i j : Int) : cmpD G cl .lt (.int i) (.int j) = some (decide (i < j)) := rfl
@[simp] theorem cmpD_le (G : Prog) (cl : Call) (i j : Int) : cmpD G cl .le (.int i) (.int j) = some (decide (i ≤ j)) := rfl
@[simp] theorem cmpV_bb (G : Prog) (cl : Call) (i j : Bool) : cmpV G cl .eq (.bl i) (.d (.bl j)) = some (i == j) := rfl
@[simp] theorem cmpV_bn (G : Prog) (cl : Call) (i j : Bool) : cmpV G cl .ne (.bl i) (.d (.bl j)) = some (!(i == j)) := rfl
@[simp] theorem selV_lst (xs : List D) (i : Int) : selV (.d (.lst xs)) (.int i) = ((place xs.length i).bind fun k => xs[k]?).map Val.d := rfl
@[simp] theorem selV_tup (xs : List D) (i : Int) : selV (.d (.tup xs)) (.int i) = ((place xs.length i).bind fun k => xs[k]?).map Val.d := rfl
@[simp] theorem selV_scr (ns : List Int) (i : Int) : selV (.d (.scr ns)) (.int i) = (((place ns.length i).bind fun k => ns[k]?).map D.int).map Val.d := by
  show ((place ns.length i).bind fun k => (ns[k]?).map D.int).map Val.d = _
  cases place ns.length i <;> rfl
@[simp] theorem selV_b (r : Nat) (xs : List O) (i : Int) : selV (.b r (.lst xs)) (.int i) = ((place xs.length i).bind fun k => xs[k]?).map (Val.ofO r) := rfl
@[simp] theorem ofO_d (r : Nat) (x : D) : Val.ofO r (.d x) = .d x := rfl
@[simp] theorem itemsD_lst (xs : List D) : itemsD (.lst xs) = some xs := rfl
@[simp] theorem itemsD_tup (xs : List D) : itemsD (.tup xs) = some xs := rfl
@[simp] theorem itemsV_d (x : D) : itemsV (.d x) = itemsD x := rfl
@[simp] theorem after_ret (v : Val) (ls : List O) (bk : List (Option (Nat × Bool))) (σ : Fr) : after (.ret v ls) bk σ = opt (giveBack σ bk ls) fun σ => .ok v σ := rfl
@[simp] theorem after_exc (v : Xv) (ls : List O) (bk : List (Option (Nat × Bool))) (σ : Fr) : after (.exc v ls) bk σ = opt (giveBack σ bk ls) fun σ => .exc v σ := rfl
@[simp] theorem gb_nil (σ : Fr) : giveBack σ [] [] = some σ := by rw [giveBack]
@[simp] theorem gb_cons (σ : Fr) (i : Nat) (l : Bool) (bk : List (Option (Nat × Bool))) (o : O) (os : List O) : giveBack σ (some (i, l) :: bk) (o :: os) = giveBack (σ.put i (some (if l then .lent o else .own o))) bk os := by rw [giveBack]
@[simp] theorem hidden_eq {α : Type} (i : Nat) (σ : Fr) (f : Fr → Res α) (s : Sl) (h : σ[i]? = some (some s)) : hidden i σ f = match f (σ.put i none) with
      | .ok a σ' => .ok a (σ'.put i (some s))
      | .exc x σ' => .exc x (σ'.put i (some s))
      | .bad => .bad := by
  unfold hidden
  rw [h] <;> rfl
@[simp] theorem finish_ret (D : DefI) (v : Val) (σ : Fr) : finish D (.ret v σ) = match retV D.own v, lentsOf σ D.modes with
    | some v, some ls => .ret v ls
    | _, _ => .bad := rfl
@[simp] theorem finish_next (D : DefI) (σ : Fr) : finish D (.next σ) = match lentsOf σ D.modes with
    | some ls => .ret (.d .non) ls
    | none => .bad := rfl
@[simp] theorem finish_exc (D : DefI) (x : Xv) (σ : Fr) : finish D (.exc x σ) = match lentsOf σ D.modes with
    | some ls => .exc x ls
    | none => .bad := rfl
@[simp] theorem retV_f (x : D) : retV false (.d x) = some (.d x) := rfl
@[simp] theorem retV_t (x : D) : retV true (.d x) = some (.d x) := rfl
@[simp] theorem retV_fo (x : O) : retV false (.o x) = some (.d x.frz) := rfl
@[simp] theorem retV_to (x : O) : retV true (.o x) = some (.o x) := rfl
@[simp] theorem lo_nil (σ : Fr) : lentsOf σ [] = some [] := by cases σ <;> rw [lentsOf]
@[simp] theorem lo_val (s : Option Sl) (σ : Fr) (ms : List Mode) : lentsOf (s :: σ) (.val :: ms) = lentsOf σ ms := by
  cases s with
  | none => rw [lentsOf]
  | some s => cases s <;> rw [lentsOf]
@[simp] theorem lo_lend (o : O) (σ : Fr) (ms : List Mode) : lentsOf (some (.lent o) :: σ) (.lend :: ms) = (lentsOf σ ms).map (o :: ·) := by rw [lentsOf]
/-- a def, called -/
theorem call_eq {G : Prog} {wt n f : Nat} {D : DefI} {ss : List Sl} (hD : G.defs[f]? = some D) (hs : D.star = false) (hl : ss.length = D.np) (hm : modesOk ss D.modes = true) :
    callD G wt (n + 1) f ss = finish D (exSs G (callD G wt n) wt D.body (ss.map some ++ List.replicate (D.ns - D.np) none)) := by
  unfold callD
  rw [hD]
  have hp : packed D ss = some ss := by unfold packed; rw [hs]
  dsimp only
  rw [hp]
  dsimp only
  rw [if_pos ⟨hl, hm⟩]
section
variable {α β : Type}
@[simp] theorem map_ite {c : Prop} [Decidable c] (a b : Res α) (f : α → β) : (if c then a else b).map f = if c then a.map f else b.map f := by split <;> rfl
@[simp ↓] theorem map_bad (f : α → β) : (Res.bad : Res α).map f = .bad := rfl
@[simp ↓] theorem st_bad (f : α → Fr → RS) : (Res.bad : Res α).st f = .bad := rfl
@[simp ↓] theorem nxt_bad (f : Fr → RS) : RS.bad.nxt f = .bad := rfl
end
/-! loops -/
def RS.lp (r : RS) (f : Fr → RS) : RS := match r with
  | .next σ => f σ
  | .cont σ => f σ
  | .brk σ => .next σ
  | r => r
@[simp ↓] theorem lp_next (σ : Fr) (f : Fr → RS) : (RS.next σ).lp f = f σ := rfl
@[simp ↓] theorem lp_cont (σ : Fr) (f : Fr → RS) : (RS.cont σ).lp f = f σ := rfl
@[simp ↓] theorem lp_brk (σ : Fr) (f : Fr → RS) : (RS.brk σ).lp f = .next σ := rfl
@[simp ↓] theorem lp_ret (v : Val) (σ : Fr) (f : Fr → RS) : (RS.ret v σ).lp f = .ret v σ := rfl
@[simp ↓] theorem lp_exc (v : Xv) (σ : Fr) (f : Fr → RS) : (RS.exc v σ).lp f = .exc v σ := rfl
def whlK (test : Fr → Res Val) (body : Fr → RS) (n : Nat) (v : Val) (σ : Fr) : RS := match v with
    | .d (.bl false) => .next σ
    | .d (.bl true) => (body σ).lp (whlLoop test body n)
    | _ => .bad
@[simp ↓] theorem whlK_t (test : Fr → Res Val) (body : Fr → RS) (n : Nat) (σ : Fr) : whlK test body n (.d (.bl true)) σ = (body σ).lp (whlLoop test body n) := rfl
@[simp ↓] theorem whlK_f (test : Fr → Res Val) (body : Fr → RS) (n : Nat) (σ : Fr) : whlK test body n (.d (.bl false)) σ = .next σ := rfl
theorem whl_succ (test : Fr → Res Val) (body : Fr → RS) (n : Nat) (σ : Fr) : whlLoop test body (n + 1) σ = (test σ).st (whlK test body n) := by
  rw [whlLoop]
  congr 1
/-- a while by its invariant and a measure -/
theorem whl_run {α : Type} {test : Fr → Res Val} {body : Fr → RS} (enc : α → Fr) (c : α → Bool) (I : α → Prop) (m : α → Nat) (ht : ∀ a, I a → test (enc a) = .ok (.d (.bl (c a))) (enc a))
    (hb : ∀ a, I a → c a = true → ∃ a', body (enc a) = .next (enc a') ∧ I a' ∧ m a' < m a) : ∀ (w : Nat) (a : α), I a → m a < w → ∃ b, I b ∧ c b = false ∧ whlLoop test body w (enc a) = .next (enc b)
  | 0, a, _, h => by omega
  | w + 1, a, hI, hm => by
    rw [whl_succ, ht a hI]
    cases hc : c a with
    | false => exact ⟨a, hI, hc, by simp⟩
    | true =>
      obtain ⟨a', e, hI', hm'⟩ := hb a hI hc
      obtain ⟨b, h1, h2, h3⟩ := whl_run enc c I m ht hb w a' hI' (by omega)
      refine ⟨b, h1, h2, ?_⟩
      simp [e, h3]
@[simp] theorem for_nil (turn : D → Fr → RS) (σ : Fr) : forLoop turn [] σ = .next σ := rfl
@[simp] theorem for_cons (turn : D → Fr → RS) (x : D) (xs : List D) (σ : Fr) : forLoop turn (x :: xs) σ = (turn x σ).lp (forLoop turn xs) := by
  rw [forLoop]
  cases turn x σ <;> rfl
@[simp] theorem forT_eq (tg : Tg) (b : Fr → RS) (x : D) (σ : Fr) : forT tg b x σ = optS (Tf.asg tg x σ) b := rfl
/-- a for that goes through: the state is folded -/
theorem for_fold {α β : Type} {turn : D → Fr → RS} (enc : α → Fr) (dec : β → D) (step : α → β → α) : ∀ (xs : List β) (a : α), (∀ (a : α) (x : β), x ∈ xs → turn (dec x) (enc a) = .next (enc (step a x)) ∨ turn (dec x) (enc a) = .cont (enc (step a x))) →
    forLoop turn (xs.map dec) (enc a) = .next (enc (xs.foldl step a))
  | [], a, _ => rfl
  | x :: xs, a, h => by
    rw [List.map_cons, for_cons, List.foldl_cons]
    have ih := for_fold enc dec step xs (step a x) fun a y hy => h a y (List.mem_cons_of_mem _ hy)
    rcases h a x List.mem_cons_self with e | e <;> simp [e, ih]
/-- .. with an invariant -/
theorem for_inv {α β : Type} {turn : D → Fr → RS} (enc : α → Fr) (dec : β → D) (step : α → β → α) (I : α → Prop) : ∀ (xs : List β) (a : α), I a → (∀ (a : α) (x : β), I a → x ∈ xs → turn (dec x) (enc a) = .next (enc (step a x)) ∧ I (step a x)) →
    forLoop turn (xs.map dec) (enc a) = .next (enc (xs.foldl step a)) ∧ I (xs.foldl step a)
  | [], a, hI, _ => ⟨rfl, hI⟩
  | x :: xs, a, hI, h => by
    rw [List.map_cons, for_cons, List.foldl_cons]
    obtain ⟨e, hI'⟩ := h a x hI List.mem_cons_self
    have ih := for_inv enc dec step I xs (step a x) hI' fun a y ha hy => h a y ha (List.mem_cons_of_mem _ hy)
    exact ⟨by simp [e, ih.1], ih.2⟩
@[simp] theorem comp_nil (turn : D → Fr → Res (Option O)) (σ : Fr) : compLoop turn [] σ = .ok [] σ := rfl
theorem comp_cons (turn : D → Fr → Res (Option O)) (x : D) (xs : List D) (σ : Fr) : compLoop turn (x :: xs) σ = (turn x σ).bind fun r σ => (compLoop turn xs σ).map fun vs => match r with | some v => v :: vs | none => vs := rfl
/-- a comprehension that maps: st a: the frames between the turns -/
theorem comp_map {α β : Type} {turn : D → Fr → Res (Option O)} (st : α → Fr) (dec : β → D) (nx : α → β → α) (f : β → O) : ∀ (xs : List β) (a : α), (∀ (a : α) (x : β), x ∈ xs → turn (dec x) (st a) = .ok (some (f x)) (st (nx a x))) →
    compLoop turn (xs.map dec) (st a) = .ok (xs.map f) (st (xs.foldl nx a))
  | [], a, _ => rfl
  | x :: xs, a, h => by
    rw [List.map_cons, comp_cons, h a x List.mem_cons_self]
    have ih := comp_map st dec nx f xs (nx a x) fun a y hy => h a y (List.mem_cons_of_mem _ hy)
    simp [ih]
/-- .. that filters as well -/
theorem comp_filter {α β : Type} {turn : D → Fr → Res (Option O)} (st : α → Fr) (dec : β → D) (nx : α → β → α) (f : β → Option O) : ∀ (xs : List β) (a : α), (∀ (a : α) (x : β), x ∈ xs → turn (dec x) (st a) = .ok (f x) (st (nx a x))) →
    compLoop turn (xs.map dec) (st a) = .ok (xs.filterMap f) (st (xs.foldl nx a))
  | [], a, _ => rfl
  | x :: xs, a, h => by
    rw [List.map_cons, comp_cons, h a x List.mem_cons_self]
    have ih := comp_filter st dec nx f xs (nx a x) fun a y hy => h a y (List.mem_cons_of_mem _ hy)
    simp [ih]
    cases e : f x with
    | none => simp [List.filterMap_cons, e]
    | some v => simp [List.filterMap_cons, e]
@[simp] theorem lkp {α : Type} (a k : Nat) (x : α) (r : List (Nat × α)) : List.lookup a ((k, x) :: r) = if a = k then some x else List.lookup a r := by
  rw [List.lookup_cons]
  by_cases h : a = k
  · subst h
    simp
  · rw [show (a == k) = false from by simpa using h, if_neg h]
@[simp] theorem cmpV_se (G : Prog) (cl : Call) (x y : Str) : cmpV G cl .eq (.str x) (.d (.str y)) = some (decide (x = y)) := by show some (x == y) = _; by_cases h : x = y <;> simp [h]
@[simp] theorem cmpV_sn (G : Prog) (cl : Call) (x y : Str) : cmpV G cl .ne (.str x) (.d (.str y)) = some (decide (¬ x = y)) := by show some (!(x == y)) = _; by_cases h : x = y <;> simp [h]
end Tf
end
section
set_option Elab.async false
set_option linter.all false
/-! Sizes of fractions. -/
namespace Tf
/-- an int's size: its digits to the base 2 -/
def szI (i : Int) : Nat := i.natAbs.log2 + 1
def sz (q : Rat) : Nat := szI q.num + szI q.den
theorem szI_lt {i : Int} {k : Nat} : szI i ≤ k ↔ k ≠ 0 ∧ i.natAbs < 2 ^ k := by
  unfold szI
  constructor
  · intro h
    refine ⟨by omega, ?_⟩
    by_cases hi : i.natAbs = 0
    · rw [hi]; exact Nat.pos_of_ne_zero (by simp)
    · have : i.natAbs.log2 < k := by omega
      exact (Nat.log2_lt hi).mp this
  · intro ⟨h0, h⟩
    by_cases hi : i.natAbs = 0
    · rw [hi]
      have : Nat.log2 0 = 0 := by decide
      omega
    · have := (Nat.log2_lt hi).mpr h
      omega
theorem szI_self (i : Int) : i.natAbs < 2 ^ szI i := (szI_lt.mp (Nat.le_refl _)).2
theorem szI_pos (i : Int) : 1 ≤ szI i := by unfold szI; omega
theorem szI_le {i j : Int} (h : i.natAbs ≤ j.natAbs) : szI i ≤ szI j := by
  have := szI_self j
  have := szI_pos j
  exact szI_lt.mpr ⟨by omega, by omega⟩
theorem szI_mul (i j : Int) : szI (i * j) ≤ szI i + szI j := by
  have h1 := szI_self i
  have h2 := szI_self j
  have := szI_pos i
  refine szI_lt.mpr ⟨by omega, ?_⟩
  rw [Int.natAbs_mul, Nat.pow_add]
  exact Nat.mul_lt_mul'' h1 h2
theorem szI_add (i j : Int) : szI (i + j) ≤ max (szI i) (szI j) + 1 := by
  have h1 := szI_self i
  have h2 := szI_self j
  refine szI_lt.mpr ⟨by omega, ?_⟩
  have a1 : 2 ^ szI i ≤ 2 ^ max (szI i) (szI j) := Nat.pow_le_pow_right (by decide) (by omega)
  have a2 : 2 ^ szI j ≤ 2 ^ max (szI i) (szI j) := Nat.pow_le_pow_right (by decide) (by omega)
  have := Int.natAbs_add_le i j
  rw [Nat.pow_succ]
  omega
theorem szI_neg (i : Int) : szI (-i) = szI i := by unfold szI; rw [Int.natAbs_neg]
theorem szI_sub (i j : Int) : szI (i - j) ≤ max (szI i) (szI j) + 1 := by
  rw [Int.sub_eq_add_neg]
  have := szI_add i (-j)
  rwa [szI_neg] at this
theorem mulOk_sz {i j : Int} (h : szI i + szI j ≤ 1000001) : mulOk i j = true := by
  unfold mulOk szI at *
  have : i.natAbs.log2 + j.natAbs.log2 < 1000000 := by omega
  simp [this]
theorem divInt_sz {t b : Int} (hb : b ≠ 0) : szI (Rat.divInt t b).num ≤ szI t ∧ szI ((Rat.divInt t b).den : Int) ≤ szI b := by
  constructor
  · refine szI_le ?_
    rw [Rat.num_divInt]
    have hg : (b.gcd t : Int) ∣ b.sign * t := Int.dvd_mul_of_dvd_right (Int.gcd_dvd_right ..)
    have e : (b.sign * t / (b.gcd t : Int)).natAbs = (b.sign * t).natAbs / b.gcd t := by
      rw [Int.natAbs_ediv_of_dvd hg]
      simp
    rw [e, Int.natAbs_mul, Int.natAbs_sign_of_ne_zero hb, Nat.one_mul]
    exact Nat.div_le_self _ _
  · refine szI_le ?_
    rw [Rat.den_divInt, if_neg hb]
    simp
    exact Nat.div_le_self _ _
end Tf
end
section
set_option Elab.async false
set_option linter.all false
set_option maxRecDepth 100000
/-! The defs of the fractions' module, as the evaluator runs them. -/
namespace Tf.P
open Tf
abbrev ow (x : D) : Sl := .own (.d x)
@[simp] theorem owned_eq (x : D) : owned x = .own (.d x) := rfl
@[simp] theorem mo_0 : modesOf G 0 = f0.modes := rfl
@[simp] theorem mo_1 : modesOf G 1 = f1.modes := rfl
@[simp] theorem mo_2 : modesOf G 2 = f2.modes := rfl
@[simp] theorem mo_3 : modesOf G 3 = f3.modes := rfl
@[simp] theorem mo_4 : modesOf G 4 = f4.modes := rfl
@[simp] theorem mo_5 : modesOf G 5 = f5.modes := rfl
@[simp] theorem mo_6 : modesOf G 6 = f6.modes := rfl
@[simp] theorem mo_7 : modesOf G 7 = f7.modes := rfl
@[simp] theorem mo_8 : modesOf G 8 = f8.modes := rfl
@[simp] theorem mo_9 : modesOf G 9 = f9.modes := rfl
@[simp] theorem mo_10 : modesOf G 10 = f10.modes := rfl
@[simp] theorem mo_11 : modesOf G 11 = f11.modes := rfl
@[simp] theorem mo_12 : modesOf G 12 = f12.modes := rfl
@[simp] theorem mo_13 : modesOf G 13 = f13.modes := rfl
@[simp] theorem mo_14 : modesOf G 14 = f14.modes := rfl
@[simp] theorem mo_15 : modesOf G 15 = f15.modes := rfl
@[simp] theorem mo_16 : modesOf G 16 = f16.modes := rfl
@[simp] theorem mo_17 : modesOf G 17 = f17.modes := rfl
@[simp] theorem mo_18 : modesOf G 18 = f18.modes := rfl
@[simp] theorem mo_19 : modesOf G 19 = f19.modes := rfl
@[simp] theorem cls_0 : G.clss[0]? = some { frz := true, init := 3, meths := [(1, 5), (2, 6), (4, 7), (3, 8), (0, 9), (11, 10)], cms := [(12, 4)], exn := none } := rfl
@[simp] theorem me_0_1 : G.meth 0 m_add = some 5 := rfl
@[simp] theorem me_0_2 : G.meth 0 m_sub = some 6 := rfl
@[simp] theorem me_0_4 : G.meth 0 m_neg = some 7 := rfl
@[simp] theorem me_0_3 : G.meth 0 m_mul = some 8 := rfl
@[simp] theorem me_0_0 : G.meth 0 m_eq = some 9 := rfl
@[simp] theorem me_0_11 : G.meth 0 m_str = some 10 := rfl
@[simp] theorem cm_0_12 : G.cmeth 0 12 = some 4 := rfl
@[simp] theorem cls_1 : G.clss[1]? = some { frz := true, init := 0, meths := [], cms := [], exn := some 0 } := rfl
@[simp] theorem cls_2 : G.clss[2]? = some { frz := true, init := 0, meths := [], cms := [], exn := some 1 } := rfl
@[simp] theorem cls_3 : G.clss[3]? = some { frz := true, init := 0, meths := [], cms := [], exn := some 1 } := rfl
/-- a fraction as the program has it -/
def rD (q : Rat) : D := .ins 0 [(0, .int q.num), (1, .int q.den)]
theorem emod_gcd (a b : Int) : Int.gcd b (a % b) = Int.gcd a b := by
  rw [Int.gcd_comm a b]
  refine Int.gcd_right_eq_iff.mpr fun c hc => ?_
  rw [Int.emod_def]
  constructor
  · intro h
    have := Int.dvd_add h (Int.dvd_mul_of_dvd_left (c := a / b) hc)
    simpa using this
  · intro h
    exact Int.dvd_sub h (Int.dvd_mul_of_dvd_left hc)
theorem run_common (n wt : Nat) (a b : Int) (h : b.natAbs < wt) : callD G wt (n + 1) 0 [ow (.int a), ow (.int b)] = .ret (.d (.int (Int.gcd a b))) [] := by
  rw [call_eq (D := f0) rfl rfl rfl rfl]
  have key := whl_run (test := ev G (callD G wt n) .tst (.cmp .ne (.var 3) (.cst (.int 0)))) (body := exSs G (callD G wt n) wt (.cons (.par 2 3 (.var 3) (.bin .mod (.var 2) (.var 3))) .nil))
    (enc := fun (p : Int × Int) => [sv (.int a), sv (.int b), sv (.int p.1), sv (.int p.2)]) (c := fun p => decide (¬ p.2 = 0)) (I := fun p => 0 ≤ p.1 ∧ 0 ≤ p.2 ∧ Int.gcd p.1 p.2 = Int.gcd a b) (m := fun p => p.2.toNat)
    (by intro p hI; simp) (by
      intro p ⟨h1, h2, h3⟩ hc
      have h4 : 0 < p.2 := by
        have : p.2 ≠ 0 := by simpa using hc
        omega
      refine ⟨(p.2, p.1 % p.2), by simp [h4], ⟨h2, Int.emod_nonneg _ (by omega), ?_⟩, ?_⟩
      · rw [← h3]
        exact emod_gcd _ _
      · have := Int.emod_lt_of_pos p.1 h4
        have := Int.emod_nonneg p.1 (show p.2 ≠ 0 by omega)
        show (p.1 % p.2).toNat < p.2.toNat
        omega) wt ((if a < 0 then -a else a), (if b < 0 then -b else b)) ⟨by dsimp only; split <;> omega, by dsimp only; split <;> omega, by dsimp only; split <;> split <;> simp [Int.gcd_neg, Int.neg_gcd]⟩ (by dsimp only; split <;> omega)
  obtain ⟨⟨x, y⟩, ⟨h1, h2, h3⟩, hc, e⟩ := key
  have hy : y = 0 := by simpa using hc
  subst hy
  have hx : x = Int.gcd a b := by
    rw [← h3]
    simp
    omega
  subst hx
  simp [f0, f0_body, biV, owned] at e ⊢
  rw [e]
  simp
/-- the signed divisor -/
theorem num_fdiv {t b : Int} (hb : b ≠ 0) : t.fdiv (if b < 0 then -(Int.gcd t b : Int) else Int.gcd t b) = (Rat.divInt t b).num := by
  have hg : (Int.gcd t b : Int) ≠ 0 := by
    have := Int.gcd_pos_of_ne_zero_right t hb
    omega
  have hd : (Int.gcd t b : Int) ∣ t := Int.gcd_dvd_left ..
  rw [Rat.num_divInt, Int.gcd_comm b t]
  split
  · rename_i h
    rw [Int.fdiv_eq_ediv_of_dvd (by rw [Int.neg_dvd]; exact hd), Int.ediv_neg, Int.sign_eq_neg_one_of_neg h]
    rw [show (-1 : Int) * t = -t by omega, Int.neg_ediv_of_dvd hd]
  · rename_i h
    rw [Int.fdiv_eq_ediv_of_dvd hd, Int.sign_eq_one_of_pos (by omega), Int.one_mul]
theorem den_fdiv {t b : Int} (hb : b ≠ 0) : b.fdiv (if b < 0 then -(Int.gcd t b : Int) else Int.gcd t b) = (Rat.divInt t b).den := by
  have hd : (Int.gcd t b : Int) ∣ b := Int.gcd_dvd_right ..
  rw [Rat.den_divInt, if_neg hb, Int.gcd_comm b t]
  have e : ((b.natAbs / t.gcd b : Nat) : Int) = (b.natAbs : Int) / (t.gcd b : Int) := by simp
  rw [e]
  split
  · rename_i h
    rw [Int.fdiv_eq_ediv_of_dvd (by rw [Int.neg_dvd]; exact hd), Int.ediv_neg, ← Int.neg_ediv_of_dvd hd]
    congr 1
    omega
  · rename_i h
    rw [Int.fdiv_eq_ediv_of_dvd hd]
    congr 1
    omega
theorem run_init (n wt : Nat) (t b : Int) (hb : b ≠ 0) (h : b.natAbs < wt) (hs : szI b ≤ 9000) :
    callD G wt (n + 2) 3 [.lent (.ins 0 []), ow (.int t), ow (.int b)] = .ret (.d .non) [.ins 0 [(0, .d (.int (Rat.divInt t b).num)), (1, .d (.int (Rat.divInt t b).den))]] := by
  rw [call_eq (D := f3) rfl rfl rfl rfl]
  have hc := run_common n wt t b h
  have hg : (Int.gcd t b : Int) ≠ 0 := by
    have := Int.gcd_pos_of_ne_zero_right t hb
    omega
  have hl : (Int.gcd t b).log2 < 9000 := by
    have h1 : Int.gcd t b ≤ b.natAbs := Int.gcd_le_natAbs_right t hb
    have h2 : szI (Int.gcd t b : Int) ≤ szI b := szI_le (by simpa using h1)
    unfold szI at h2 hs
    simp at h2
    omega
  have n1 := num_fdiv (t := t) hb
  have n2 := den_fdiv (t := t) hb
  by_cases hneg : b < 0
  · rw [if_pos hneg] at n1 n2
    simp [f3, f3_body, hb, hc, f0, hneg, setF, putN, hg, hl, n1, n2, owned]
  · rw [if_neg hneg] at n1 n2
    simp [f3, f3_body, hb, hc, f0, hneg, setF, putN, hg, hl, n1, n2, owned]
end Tf.P
end
section
set_option Elab.async false
set_option linter.all false
set_option maxRecDepth 100000
/-! The operators of a fraction. -/
namespace Tf.P
open Tf
def szMax : Nat := 9000
def Fu (wt : Nat) : Prop := 2 ^ szMax ≤ wt
theorem fuel {wt : Nat} (hw : Fu wt) {b : Int} (h : szI b ≤ 9000) : b.natAbs < wt := Nat.lt_of_lt_of_le ((szI_lt (k := szMax)).mp h).2 hw
/-- a fraction of small size -/
def Sm (k : Nat) (q : Rat) : Prop := szI q.num ≤ k ∧ szI (q.den : Int) ≤ k
theorem Sm.le {a b : Nat} {q : Rat} (h : Sm a q) (hab : a ≤ b) : Sm b q := ⟨by have := h.1; omega, by have := h.2; omega⟩
theorem Sm_div {k : Nat} {t b : Int} (ht : szI t ≤ k) (hs : szI b ≤ k) (hb : b ≠ 0) : Sm k (Rat.divInt t b) := by
  have := divInt_sz (t := t) hb
  exact ⟨by omega, by omega⟩
theorem den_ne (q : Rat) : (q.den : Int) ≠ 0 := by have := q.den_pos; omega
theorem add_div (p q : Rat) : p + q = Rat.divInt (p.num * q.den + q.num * p.den) (p.den * q.den) := by
  rw [Rat.add_def', ← Rat.divInt_ofNat]
  simp
theorem sub_div (p q : Rat) : p - q = Rat.divInt (p.num * q.den - q.num * p.den) (p.den * q.den) := by
  rw [Rat.sub_def', ← Rat.divInt_ofNat]
  simp
theorem mul_div (p q : Rat) : p * q = Rat.divInt (p.num * q.num) (p.den * q.den) := by
  rw [Rat.mul_def', ← Rat.divInt_ofNat]
  simp
theorem neg_div (p : Rat) : -p = Rat.divInt (-p.num) p.den := by
  rw [← Rat.neg_divInt, Rat.num_divInt_den]
theorem quo_div (p q : Rat) : p / q = Rat.divInt (p.num * q.den) (p.den * q.num) := by
  rw [Rat.div_def, Rat.inv_def]
  conv => lhs; rw [← Rat.num_divInt_den p]
  rw [Rat.divInt_mul_divInt]
theorem whole_div (k : Int) : (k : Rat) = Rat.divInt k 1 := by
  rw [Rat.divInt_eq_div]
  grind
theorem eq_parts (p q : Rat) : p = q ↔ p.num = q.num ∧ p.den = q.den := ⟨fun h => by simp [h], fun h => Rat.ext h.1 h.2⟩
theorem mul_ne {a b : Int} (ha : a ≠ 0) (hb : b ≠ 0) : a * b ≠ 0 := Int.mul_ne_zero ha hb
theorem Sm.add {a b : Nat} {p q : Rat} (hp : Sm a p) (hq : Sm b q) : Sm (a + b + 1) (p + q) := by
  rw [add_div]
  have h1 := szI_add (p.num * q.den) (q.num * p.den)
  have h2 := szI_mul p.num q.den
  have h3 := szI_mul q.num p.den
  have h4 := szI_mul p.den q.den
  have := hp.1; have := hp.2; have := hq.1; have := hq.2
  exact Sm_div (by omega) (by omega) (mul_ne (den_ne p) (den_ne q))
theorem Sm.sub {a b : Nat} {p q : Rat} (hp : Sm a p) (hq : Sm b q) : Sm (a + b + 1) (p - q) := by
  rw [sub_div]
  have h1 := szI_sub (p.num * q.den) (q.num * p.den)
  have h2 := szI_mul p.num q.den
  have h3 := szI_mul q.num p.den
  have h4 := szI_mul p.den q.den
  have := hp.1; have := hp.2; have := hq.1; have := hq.2
  exact Sm_div (by omega) (by omega) (mul_ne (den_ne p) (den_ne q))
theorem Sm.mul {a b : Nat} {p q : Rat} (hp : Sm a p) (hq : Sm b q) : Sm (a + b) (p * q) := by
  rw [mul_div]
  have h2 := szI_mul p.num q.num
  have h4 := szI_mul p.den q.den
  have := hp.1; have := hp.2; have := hq.1; have := hq.2
  exact Sm_div (by omega) (by omega) (mul_ne (den_ne p) (den_ne q))
section
variable {wt d : Nat}
theorem mk_run (hw : Fu wt) (hd : 2 ≤ d) {t b : Int} (hb : b ≠ 0) (hs : szI b ≤ 9000) (σ : Fr) : makeV G (callD G wt d) 0 [ow (.int t), ow (.int b)] [] σ = .ok (.d (rD (Rat.divInt t b))) σ := by
  obtain ⟨n, rfl⟩ : ∃ n, d = n + 2 := ⟨d - 2, by omega⟩
  unfold makeV
  rw [cls_0]
  dsimp only
  rw [run_init n wt t b hb (fuel hw hs) hs]
  simp [rD]
theorem mk_zero (hd : 1 ≤ d) (t : Int) (σ : Fr) : makeV G (callD G wt d) 0 [ow (.int t), ow (.int 0)] [] σ = .exc ⟨2, [.int 0]⟩ σ := by
  obtain ⟨n, rfl⟩ : ∃ n, d = n + 1 := ⟨d - 1, by omega⟩
  unfold makeV
  rw [cls_0]
  dsimp only
  rw [call_eq (D := f3) rfl rfl rfl rfl]
  simp [f3, f3_body]
theorem run_eq (hd : 1 ≤ d) (p q : Rat) : callD G wt d 9 [ow (rD p), ow (rD q)] = .ret (.d (.bl (decide (p = q)))) [] := by
  obtain ⟨n, rfl⟩ : ∃ n, d = n + 1 := ⟨d - 1, by omega⟩
  rw [call_eq (D := f9) rfl rfl rfl rfl]
  by_cases h1 : p.num = q.num <;> by_cases h2 : p.den = q.den <;> simp [f9, f9_body, owned, rD, isinD, h1, h2, eq_parts, Int.natCast_inj]
end
end Tf.P
end
section
set_option Elab.async false
set_option linter.all false
set_option maxRecDepth 100000
/-! Texts of numbers, as the evaluator runs them. -/
namespace Tf.P
open Tf PySem
/-- a text of signs -/
abbrev mkS (l : List Nat) : Str := ⟨⟨l⟩⟩
theorem str_l (z : Str) : z = mkS z.cps.toList := by
  obtain ⟨⟨l⟩⟩ := z
  rfl
def digL : List Nat := [48, 49, 50, 51, 52, 53, 54, 55, 56, 57]
theorem c_digits : (Str.ofString "0123456789") = mkS digL := by kernel_rfl
theorem c_zero : (Str.ofString "0") = mkS [48] := by kernel_rfl
theorem c_emp : (Str.ofString "") = mkS [] := by kernel_rfl
theorem c_minus : (Str.ofString "-") = mkS [45] := by kernel_rfl
theorem c_mzero : (Str.ofString "-0") = mkS [45, 48] := by kernel_rfl
theorem c_slash : (Str.ofString "/") = mkS [47] := by kernel_rfl
theorem mkS_inj {a b : List Nat} : (mkS a = mkS b) = (a = b) := by
  apply propext
  constructor
  · intro h
    have := congrArg (fun z : Str => z.cps.toList) h
    exact this
  · intro h; rw [h]
def dig (c : Nat) : Bool := decide (48 ≤ c) && decide (c ≤ 57)
theorem dig_mem (c : Nat) : decide (c ∈ digL) = dig c := by
  unfold dig digL
  simp only [List.mem_cons, List.not_mem_nil, or_false]
  by_cases h1 : 48 ≤ c <;> by_cases h2 : c ≤ 57 <;> simp [h1, h2] <;> omega
/-- an integer from 0 on in decimal notation -/
def cnt (l : List Nat) : Bool := !decide (l = []) && (l.all dig && (!decide (l.head? = some 48) || decide (l = [48])))
section
variable {wt d : Nat}
theorem memV_str (cl : Call) (c : Nat) (w : List Nat) : cmpV G cl .in_ (.str (mkS [c])) (.d (.str (mkS w))) = some (decide (c ∈ w)) := rfl
theorem memV_strn (cl : Call) (c : Nat) (w : List Nat) : cmpV G cl .notin (.str (mkS [c])) (.d (.str (mkS w))) = some (!decide (c ∈ w)) := rfl
theorem sel_str (l : List Nat) (i : Int) : selV (.d (.str (mkS l))) (.int i) = (if l.length ≤ lineN then ((place l.length i).bind fun k => l[k]?).map (fun c => D.str (mkS [c])) else none).map Val.d := rfl
theorem len_str (l : List Nat) : biV .len (.d (.str (mkS l))) = (if l.length ≤ lineN then some l.length else none).map fun (n : Nat) => D.int n := rfl
theorem signs_l (l : List Nat) : signs (mkS l) = l.map fun c => D.str (mkS [c]) := rfl
theorem bls_map (l : List Nat) (f : Nat → Bool) : D.bls (O.frzL (l.map fun c => O.d (.bl (f c)))) = some (l.map f) := by
  induction l with
  | nil => simp [D.bls]
  | cons c l ih => simp [D.bls, ih]
theorem all_bls (l : List Nat) : biV .all (.d (.lst (O.frzL (l.map fun c => O.d (.bl (dig c)))))) = some (.bl (l.all dig)) := by
  show (D.bls _).map (fun bs => D.bl (bs.all id)) = _
  rw [bls_map]
  simp [List.all_map, Function.comp_def]
theorem run_count (hd : 1 ≤ d) (l : List Nat) (hl : l.length ≤ 10000) : callD G wt d 1 [ow (.str (mkS l))] = .ret (.d (.bl (cnt l))) [] := by
  obtain ⟨n, rfl⟩ : ∃ n, d = n + 1 := ⟨d - 1, by omega⟩
  rw [call_eq (D := f1) rfl rfl rfl rfl]
  have key := comp_map (turn := cTurn G (callD G wt n) (.cmp .in_ (.var 1) (.cst (.str "0123456789"))) (.var 1) .nil [1]) (st := fun s : Option Sl => [sv (.str (mkS l)), s]) (dec := fun c : Nat => D.str (mkS [c])) (nx := fun _ c => sv (.str (mkS [c]))) (f := fun c => O.d (.bl (dig c))) l none (by
    intro a x _
    simp [cTurn, wiped, mixL, c_digits, memV_str, dig_mem])
  rw [← signs_l] at key
  cases l with
  | nil => simp [f1, f1_body, c_emp, mkS_inj, cnt]
  | cons c r =>
    have hlen : r.length + 1 ≤ lineN := by simp at hl; unfold lineN; omega
    have p0 : place (r.length + 1) 0 = some 0 := by unfold place; simp
    have hb := all_bls (c :: r)
    simp only [List.map_cons, frzL_cons, frz_d] at hb key
    by_cases ha : (c :: r).all dig = true
    · rw [ha] at hb
      by_cases h48 : c = 48
      · subst h48
        by_cases hr : r = []
        · subst hr
          have p1 : place 1 0 = some 0 := by decide
          have l1 : 1 ≤ lineN := by decide
          have hc : cnt [48] = true := by decide
          rw [hc]
          simp at key hb
          simp [f1, f1_body, c_emp, c_zero, mkS_inj, wiped, mixL, restored, key, hb, sel_str, p1, l1]
        · have hc : cnt (48 :: r) = false := by unfold cnt; rw [ha]; simp [hr]
          rw [hc]
          simp [f1, f1_body, c_emp, c_zero, mkS_inj, wiped, mixL, restored, key, hb, hlen, sel_str, p0, hr]
      · have hc : cnt (c :: r) = true := by unfold cnt; rw [ha]; simp [h48]
        rw [hc]
        simp [f1, f1_body, c_emp, c_zero, mkS_inj, wiped, mixL, restored, key, hb, hlen, sel_str, p0, h48]
    · have ha' : (c :: r).all dig = false := by simpa using ha
      rw [ha'] at hb
      have hc : cnt (c :: r) = false := by unfold cnt; rw [ha']; simp
      rw [hc]
      simp [f1, f1_body, c_emp, c_zero, mkS_inj, wiped, mixL, restored, key, hb, hlen]
theorem filt_map (l : List Nat) : O.frzL (l.filterMap fun c => if (!dig c) = true then some (O.d (.str (mkS [c]))) else none) = (l.filter fun c => !dig c).map fun c => D.str (mkS [c]) := by
  induction l with
  | nil => simp
  | cons c l ih => by_cases h : dig c = true <;> simp [h] at ih ⊢ <;> exact ih
theorem ne_nil (cl : Call) (xs : List D) : cmpV G cl .ne (.lst xs) (.d (.lst [])) = some (decide (¬ xs = [])) := by
  show (if xs.length = ([] : List D).length then eqL _ xs [] else some false).map not = _
  cases xs with
  | nil => simp [eqL]
  | cons x xs => simp
theorem run_count2 (hd : 1 ≤ d) (l : List Nat) (hl : l.length ≤ 10000) : callD G wt d 14 [ow (.str (mkS l))] = .ret (.d (.bl (cnt l))) [] := by
  obtain ⟨n, rfl⟩ : ∃ n, d = n + 1 := ⟨d - 1, by omega⟩
  rw [call_eq (D := f14) rfl rfl rfl rfl]
  have key := comp_filter (turn := cTurn G (callD G wt n) (.var 1) (.var 1) (.cons false (.cmp .notin (.var 1) (.cst (.str "0123456789"))) .nil) [1]) (st := fun s : Option Sl => [sv (.str (mkS l)), s]) (dec := fun c : Nat => D.str (mkS [c])) (nx := fun _ c => sv (.str (mkS [c]))) (f := fun c => if (!dig c) = true then some (O.d (.str (mkS [c]))) else none) l none (by
    intro a x _
    by_cases h : dig x = true
    · simp [cTurn, wiped, mixL, c_digits, memV_strn, dig_mem, h]
    · have h : dig x = false := by simpa using h
      simp [cTurn, wiped, mixL, c_digits, memV_strn, dig_mem, h])
  rw [← signs_l] at key
  have hf := filt_map l
  have hlf : ∀ f : Nat → Option O, (l.filterMap f).length ≤ lineN := fun f => Nat.le_trans (List.length_filterMap_le ..) (by unfold lineN; omega)
  cases l with
  | nil =>
    have hc : cnt [] = false := by decide
    rw [hc]
    simp [f14, f14_body, c_emp, mkS_inj]
  | cons c r =>
    have hlen : r.length + 1 ≤ lineN := by simp at hl; unfold lineN; omega
    have p0 : place (r.length + 1) 0 = some 0 := by unfold place; simp
    have hfs := hlf fun c => if (!dig c) = true then some (O.d (.str (mkS [c]))) else none
    generalize hF : ((c :: r).filterMap fun c => if (!dig c) = true then some (O.d (.str (mkS [c]))) else none) = fs at *
    have l0 : 0 ≤ lineN := by decide
    by_cases ha : (c :: r).all dig = true
    · have hn : ((c :: r).filter fun c => !dig c) = [] := by
        rw [List.filter_eq_nil_iff]
        intro x hx
        have := List.all_eq_true.mp ha x hx
        simp [this]
      rw [hn] at hf
      simp only [List.map_nil] at hf
      by_cases h48 : c = 48
      · subst h48
        by_cases hr : r = []
        · subst hr
          have p1 : place 1 0 = some 0 := by decide
          have l1 : 1 ≤ lineN := by decide
          have hc : cnt [48] = true := by decide
          rw [hc]
          simp [f14, f14_body, c_emp, c_zero, mkS_inj, wiped, mixL, restored, key, hf, hfs, ne_nil, sel_str, p1, l1, l0]
        · have hc : cnt (48 :: r) = false := by unfold cnt; rw [ha]; simp [hr]
          rw [hc]
          simp [f14, f14_body, c_emp, c_zero, mkS_inj, wiped, mixL, restored, key, hf, hfs, ne_nil, hlen, sel_str, p0, hr, l0]
      · have hc : cnt (c :: r) = true := by unfold cnt; rw [ha]; simp [h48]
        rw [hc]
        simp [f14, f14_body, c_emp, c_zero, mkS_inj, wiped, mixL, restored, key, hf, hfs, ne_nil, hlen, sel_str, p0, h48, l0]
    · have ha' : (c :: r).all dig = false := by simpa using ha
      have hc : cnt (c :: r) = false := by unfold cnt; rw [ha']; simp
      rw [hc]
      have hne : ¬ O.frzL fs = [] := by
        rw [hf]
        intro h
        rw [List.map_eq_nil_iff, List.filter_eq_nil_iff] at h
        apply ha
        rw [List.all_eq_true]
        intro x hx
        have := h x hx
        simpa using this
      simp [f14, f14_body, c_emp, c_zero, mkS_inj, wiped, mixL, restored, key, hfs, ne_nil, hne, l0]
end
end Tf.P
end
section
set_option Elab.async false
set_option linter.all false
set_option maxRecDepth 100000
/-! Texts of fractions: read. -/
namespace Tf.P
open Tf PySem
/-! parts -/
def parts (l : List Nat) : List (List Nat) := TL.spl [47] 0 [] l
theorem split_parts (l : List Nat) : Txt.split (mkS l) (mkS [47]) = (parts l).map mkS := by
  refine TL.map_tl_inj ?_
  rw [TL.split_spl _ (mkS [47]) (by show [47] ≠ []; simp) (TL.kind_ok (by kernel_rfl))]
  rw [List.map_map]
  show parts l = _
  have e : (TL.tl ∘ mkS) = id := rfl
  rw [e, List.map_id]
theorem spl_len : ∀ (l acc : List Nat), TL.spl [47] 0 acc l ≠ [] ∧ ((TL.spl [47] 0 acc l).map List.length).sum + (TL.spl [47] 0 acc l).length = acc.length + l.length + 1
  | [], acc => by simp [TL.spl]
  | c :: r, acc => by
    have h1 := spl_len r []
    have h2 := spl_len r (acc ++ [c])
    show (if TL.pre [47] (c :: r) = true then acc :: TL.spl [47] 0 [] r else TL.spl [47] 0 (acc ++ [c]) r) ≠ [] ∧ ((if TL.pre [47] (c :: r) = true then acc :: TL.spl [47] 0 [] r else TL.spl [47] 0 (acc ++ [c]) r).map List.length).sum + (if TL.pre [47] (c :: r) = true then acc :: TL.spl [47] 0 [] r else TL.spl [47] 0 (acc ++ [c]) r).length = _
    split
    · refine ⟨by simp, ?_⟩
      simp at h1 ⊢
      omega
    · refine ⟨h2.1, ?_⟩
      have := h2.2
      simp at this ⊢
      omega
theorem parts_ne (l : List Nat) : parts l ≠ [] := (spl_len l []).1
theorem parts_sum (l : List Nat) : ((parts l).map List.length).sum + (parts l).length = l.length + 1 := by
  have := (spl_len l []).2
  simpa [parts] using this
theorem mem_sum {ws : List (List Nat)} {w : List Nat} (h : w ∈ ws) : w.length ≤ (ws.map List.length).sum := by
  induction ws with
  | nil => cases h
  | cons v ws ih =>
    rcases List.mem_cons.mp h with e | h
    · subst e; simp
    · have := ih h; simp; omega
theorem parts_le {l w : List Nat} (h : w ∈ parts l) : w.length ≤ l.length := by
  have h1 := mem_sum h
  have h2 := parts_sum l
  have h3 : 1 ≤ (parts l).length := List.length_pos_iff.mpr (parts_ne l)
  omega
theorem parts_one {w : List Nat} (h : 47 ∉ w) : parts w = [w] := by
  unfold parts
  rw [TL.spl_last1 h]
  simp
theorem parts_two {w u : List Nat} (h : 47 ∉ w) (h' : 47 ∉ u) : parts (w ++ 47 :: u) = [w, u] := by
  unfold parts
  have := TL.spl_part1 (S := []) (acc := []) (rest := u) h
  rw [show w ++ 47 :: u = w ++ ([47] ++ u) from rfl, this, TL.spl_last1 h']
  simp
/-! values -/
def topB (l : List Nat) : Bool := if l.take 1 = [45] then cnt (l.drop 1) && !decide (l = [45, 48]) else cnt l
def valT (l : List Nat) : Int := if l.take 1 = [45] then -(NumText.digitsVal (l.drop 1) : Int) else NumText.digitsVal l
theorem cnt_dig {l : List Nat} (h : cnt l = true) : NumText.AllDigits l ∧ l ≠ [] := by
  unfold cnt at h
  simp only [Bool.and_eq_true, Bool.not_eq_true', decide_eq_false_iff_not] at h
  refine ⟨fun c hc => ?_, h.1⟩
  have := List.all_eq_true.mp h.2.1 c hc
  unfold dig at this
  simpa using this
theorem int_cnt {l : List Nat} (h : cnt l = true) (hl : l.length ≤ 640) : biV .int (.d (.str (mkS l))) = some (.int (NumText.digitsVal l)) := by
  obtain ⟨h1, h2⟩ := cnt_dig h
  have e := PySem.intText_digits (x := mkS l) h1 h2 (by show l.length ≤ 4300; omega)
  show (if l.length ≤ 640 then (PySem.intText? (mkS l)).map D.int else none) = _
  rw [if_pos hl, e]
  rfl
theorem head_minus {l : List Nat} (h : l.take 1 = [45]) : l = 45 :: l.drop 1 := by
  cases l with
  | nil => simp at h
  | cons c r => simp at h; simp [h]
theorem int_top {l : List Nat} (h : topB l = true) (hl : l.length ≤ 640) : biV .int (.d (.str (mkS l))) = some (.int (valT l)) := by
  unfold topB at h
  unfold valT
  by_cases c : l.take 1 = [45]
  · rw [if_pos c] at h ⊢
    rw [Bool.and_eq_true] at h
    obtain ⟨h1, h2⟩ := cnt_dig h.1
    have e := PySem.intText_neg (x := mkS l) (cs := l.drop 1) (head_minus c) h1 h2 (by show l.length ≤ 4300; omega)
    show (if l.length ≤ 640 then (PySem.intText? (mkS l)).map D.int else none) = _
    rw [if_pos hl, e]
    rfl
  · rw [if_neg c] at h ⊢
    exact int_cnt h hl
theorem dv_lt : ∀ (l : List Nat) (a : Nat), NumText.AllDigits l → l.foldl (fun acc c => acc * 10 + (c - 48)) a < (a + 1) * 10 ^ l.length
  | [], a, _ => by simp
  | c :: r, a, h => by
    have h1 := h c List.mem_cons_self
    have ih := dv_lt r (a * 10 + (c - 48)) h.tail
    rw [List.foldl_cons]
    refine Nat.lt_of_lt_of_le ih ?_
    rw [List.length_cons, Nat.pow_succ, Nat.mul_comm (10 ^ r.length) 10, ← Nat.mul_assoc]
    exact Nat.mul_le_mul_right _ (by omega)
theorem ten_two (n : Nat) : 10 ^ n ≤ 2 ^ (4 * n) := by
  rw [Nat.pow_mul]
  exact Nat.pow_le_pow_left (by decide) n
theorem dv_sz {l : List Nat} (h : NumText.AllDigits l) : szI (NumText.digitsVal l : Int) ≤ 4 * l.length + 1 := by
  have h1 := dv_lt l 0 h
  have h2 := ten_two l.length
  refine szI_lt.mpr ⟨by omega, ?_⟩
  have e : ((NumText.digitsVal l : Int)).natAbs = NumText.digitsVal l := rfl
  rw [e, Nat.pow_succ]
  unfold NumText.digitsVal
  omega
theorem cnt_sz {l : List Nat} (h : cnt l = true) : szI (NumText.digitsVal l : Int) ≤ 4 * l.length + 1 := dv_sz (cnt_dig h).1
theorem top_sz {l : List Nat} (h : topB l = true) : szI (valT l) ≤ 4 * l.length + 1 := by
  unfold topB at h
  unfold valT
  by_cases c : l.take 1 = [45]
  · rw [if_pos c] at h ⊢
    rw [Bool.and_eq_true] at h
    rw [szI_neg]
    have := cnt_sz h.1
    rw [List.length_drop] at this
    omega
  · rw [if_neg c] at h ⊢
    exact cnt_sz h
theorem cnt_pos {l : List Nat} (h : cnt l = true) (h0 : ¬ l = [48]) : 0 < NumText.digitsVal l := by
  obtain ⟨h1, h2⟩ := cnt_dig h
  unfold cnt at h
  simp only [Bool.and_eq_true, Bool.not_eq_true', decide_eq_false_iff_not, Bool.or_eq_true, decide_eq_true_eq] at h
  cases l with
  | nil => exact absurd rfl h2
  | cons c r =>
    have hc := h1 c List.mem_cons_self
    have : c ≠ 48 := by
      rcases h.2.2 with h | h
      · simpa using h
      · exact absurd h h0
    exact NumText.digitsVal_pos (by omega)
section
variable {wt d : Nat}
theorem cut_hi (l : List Nat) (hl : l.length ≤ 10000) (a : Nat) : slcV (.d (.str (mkS l))) none (some (a : Int)) = some (.d (.str (mkS (l.take a)))) := by
  show (if l.length ≤ lineN then some (Val.d (.str (L2.cutS (mkS l) none (some (a : Int))))) else none) = _
  rw [if_pos (by unfold lineN; omega)]
  have e : L2.cutS (mkS l) none (some (a : Int)) = mkS (l.take a) := by
    show mkS ((l.drop 0).take (min (a : Int).toNat l.length - 0)) = _
    simp [List.take_eq_take_iff]
  rw [e]
theorem cut_lo (l : List Nat) (hl : l.length ≤ 10000) (a : Nat) : slcV (.d (.str (mkS l))) (some (a : Int)) none = some (.d (.str (mkS (l.drop a)))) := by
  show (if l.length ≤ lineN then some (Val.d (.str (L2.cutS (mkS l) (some (a : Int)) none))) else none) = _
  rw [if_pos (by unfold lineN; omega)]
  have e : L2.cutS (mkS l) (some (a : Int)) none = mkS (l.drop a) := by
    show mkS ((l.drop (min (a : Int).toNat l.length)).take (l.length - min (a : Int).toNat l.length)) = _
    congr 2
    rw [← List.length_drop, List.take_length]
    by_cases h : a ≤ l.length
    · have : min (a : Int).toNat l.length = a := by omega
      rw [this]
    · have : min (a : Int).toNat l.length = l.length := by omega
      rw [this, List.drop_length, List.drop_of_length_le (by omega)]
  rw [e]
theorem run_top (hd : 2 ≤ d) (l : List Nat) (hl : l.length ≤ 10000) : callD G wt d 2 [ow (.str (mkS l))] = .ret (.d (.bl (topB l))) [] := by
  obtain ⟨n, rfl⟩ : ∃ n, d = n + 1 := ⟨d - 1, by omega⟩
  rw [call_eq (D := f2) rfl rfl rfl rfl]
  have e1 := run_count (wt := wt) (d := n) (by omega) l hl
  have e2 := run_count (wt := wt) (d := n) (by omega) (l.drop 1) (by simp; omega)
  have c1 := cut_hi l hl 1
  have c2 := cut_lo l hl 1
  simp only [Int.natCast_one, List.drop_one] at c1 c2 e2
  unfold topB
  simp only [List.drop_one]
  by_cases c : l.take 1 = [45]
  · rw [if_pos c]
    cases hb : cnt l.tail with
    | true =>
      rw [hb] at e2
      simp [f2, f2_body, f1, c_minus, c_mzero, mkS_inj, c1, c2, c, e2]
    | false =>
      rw [hb] at e2
      simp [f2, f2_body, f1, c_minus, c_mzero, mkS_inj, c1, c2, c, e2]
  · rw [if_neg c]
    simp [f2, f2_body, f1, c_minus, c_mzero, mkS_inj, c1, c2, c, e1]
end
end Tf.P
end
section
set_option Elab.async false
set_option linter.all false
set_option maxRecDepth 100000
/-! The texts of numbers; what a text tells. -/
namespace Tf.P
open Tf PySem
/-- str of an int, its signs -/
def numI (i : Int) : List Nat := if i < 0 then 45 :: TL.numL i.natAbs else TL.numL i.natAbs
theorem num_str (i : Int) : Str.ofString (toString i) = mkS (numI i) := by
  have e : (Str.ofString (toString i)).cps.toList = numI i := by
    unfold numI
    cases i with
    | ofNat n =>
      rw [if_neg (by simp)]
      exact TL.tl_num n
    | negSucc m =>
      rw [if_pos (Int.negSucc_lt_zero m)]
      rw [PyProof.Rows.signs_ofString]
      show ("-" ++ Nat.repr (m + 1)).toList.map Char.toNat = 45 :: (Nat.toDigits 10 (m + 1)).map Char.toNat
      rw [String.toList_append, List.map_append, Nat.toList_repr]
      rfl
  rw [str_l (Str.ofString (toString i)), e]
theorem num_rep (i : Int) : Str.ofString (Int.repr i) = mkS (numI i) := num_str i
theorem num_head : ∀ n : Nat, 0 < n → (TL.numL n).head? ≠ some 48 := by
  intro n
  induction n using Nat.strongRecOn with
  | _ n ih =>
    intro h0
    by_cases h : n < 10
    · rw [TL.numL_lt h]
      simp
      omega
    · rw [TL.numL_step (by omega)]
      have := ih (n / 10) (by omega) (by omega)
      cases e : TL.numL (n / 10) with
      | nil => exact absurd e (TL.numL_ne _)
      | cons c r =>
        rw [e] at this
        simpa using this
theorem num_cnt (n : Nat) : cnt (TL.numL n) = true := by
  unfold cnt
  have h1 := TL.numL_ne n
  have h2 : (TL.numL n).all dig = true := by
    rw [List.all_eq_true]
    intro c hc
    have := TL.numL_digits n c hc
    unfold dig
    simp [this.1, this.2]
  rw [h2]
  by_cases h0 : n = 0
  · subst h0
    rw [TL.numL_lt (by decide)]
    decide
  · have h3 := num_head n (by omega)
    simp [h1, h3]
theorem num_not0 {n : Nat} (h : 0 < n) : ¬ TL.numL n = [48] := by
  intro e
  have := num_head n h
  rw [e] at this
  simp at this
theorem numL_head_ne (n : Nat) : ¬ (TL.numL n).take 1 = [45] := by
  intro h
  have h2 := TL.numL_digits n 45 (by rw [head_minus h]; simp)
  omega
theorem num_topB (i : Int) : topB (numI i) = true ∧ valT (numI i) = i := by
  unfold numI
  by_cases h : i < 0
  · rw [if_pos h]
    unfold topB valT
    have hp : 0 < i.natAbs := by omega
    refine ⟨?_, ?_⟩
    · have h3 : ¬ TL.numL i.natAbs = [48] := num_not0 hp
      simp [num_cnt, h3]
    · simp [TL.numL_val]
      omega
  · rw [if_neg h]
    unfold topB valT
    rw [if_neg (numL_head_ne _), if_neg (numL_head_ne _), TL.numL_val]
    exact ⟨num_cnt _, by omega⟩
theorem num_free (i : Int) : 47 ∉ numI i := by
  unfold numI
  have h := TL.numL_free (n := i.natAbs) (s := 47) (.inl (by decide))
  split <;> simp [h]
theorem num_len {i : Int} {k : Nat} (hk : 0 < k) (h : i.natAbs < 10 ^ k) : (numI i).length ≤ k + 1 := by
  unfold numI
  have := TL.numL_len hk h
  split
  · simp; omega
  · omega
theorem sz_ten {i : Int} (h : szI i ≤ 1919) : i.natAbs < 10 ^ 1919 := by
  have h1 := szI_self i
  have h2 : 2 ^ szI i ≤ 2 ^ 1919 := Nat.pow_le_pow_right (by decide) h
  have h3 : (2 : Nat) ^ 1919 ≤ 10 ^ 1919 := Nat.pow_le_pow_left (by decide) _
  omega
theorem num_len2 {i : Int} (h : szI i ≤ 1919) : (numI i).length ≤ 1920 := num_len (by decide) (sz_ten h)
section
variable {wt d : Nat}
theorem len_lst (xs : List D) : biV .len (.d (.lst xs)) = some (.int xs.length) := rfl
theorem bm_split (l : List Nat) (hl : l.length ≤ 10000) : bmV .split (mkS l) (.str (mkS [47])) = some (.lst ((parts l).map fun w => D.str (mkS w))) := by
  show (if 0 < [47].length ∧ l.length + 2 ≤ lineN then some (D.lst ((Txt.split (mkS l) (mkS [47])).map D.str)) else none) = _
  rw [if_pos ⟨by decide, by unfold lineN; omega⟩, split_parts, List.map_map]
  rfl
theorem cnt_minus {l : List Nat} (h : l.take 1 = [45]) : cnt l = false := by
  rw [head_minus h]
  unfold cnt
  have : (45 :: l.drop 1).all dig = false := by simp [dig]
  rw [this]
  simp
@[simp] theorem fld_top (p : Rat) (σ : Fr) : fldK 0 (.d (rD p)) σ = .ok (.d (.int p.num)) σ := rfl
@[simp] theorem fld_bot (p : Rat) (σ : Fr) : fldK 1 (.d (rD p)) σ = .ok (.d (.int p.den)) σ := rfl
theorem run_front (hd : 1 ≤ d) (w : List Nat) (hl : w.length ≤ 400) (s0 s1 s3 s4 : Option Sl) : ev G (callD G wt d) .val (.or (.call 14 (.cons false (.var 2) .nil)) (.and (.cmp .eq (.slc (.var 2) .none (.some (.cst (.int 1)))) (.cst (.str "-"))) (.and (.call 14 (.cons false (.slc (.var 2) (.some (.cst (.int 1))) .none) .nil)) (.cmp .ne (.var 2) (.cst (.str "-0")))))) [s0, s1, sv (.str (mkS w)), s3, s4] = .ok (.d (.bl (topB w))) [s0, s1, sv (.str (mkS w)), s3, s4] := by
  have e1 := run_count2 (wt := wt) hd w (by omega)
  have e2 := run_count2 (wt := wt) hd w.tail (by simp; omega)
  have c1 := cut_hi w (by omega) 1
  have c2 := cut_lo w (by omega) 1
  simp only [Int.natCast_one, List.drop_one] at c1 c2
  unfold topB
  simp only [List.drop_one]
  by_cases c : w.take 1 = [45]
  · rw [if_pos c]
    rw [cnt_minus c] at e1
    cases hb : cnt w.tail with
    | true =>
      rw [hb] at e2
      simp [f14, c_minus, c_mzero, mkS_inj, c1, c2, c, e1, e2]
    | false =>
      rw [hb] at e2
      simp [f14, c_minus, c_mzero, mkS_inj, c1, c2, c, e1, e2]
  · rw [if_neg c]
    cases hb : cnt w with
    | true =>
      rw [hb] at e1
      simp [f14, c_minus, c_mzero, mkS_inj, c1, c2, c, e1]
    | false =>
      rw [hb] at e1
      simp [f14, c_minus, c_mzero, mkS_inj, c1, c2, c, e1]
/-- what reading says, what the law says -/
def Bad (wt d : Nat) (l : List Nat) (k : Int) : Prop := callD G wt d 4 [ow (.cls 0), ow (.str (mkS l))] = .exc ⟨3, [.int k]⟩ [] ∧ callD G wt d 15 [ow (.str (mkS l))] = .ret (.d (.lst [.str "text", .int k])) []
def Good (wt d : Nat) (l : List Nat) (a b : Int) : Prop := 0 < b ∧ szI a ≤ 1700 ∧ szI b ≤ 1700 ∧ callD G wt d 4 [ow (.cls 0), ow (.str (mkS l))] = .ret (.d (rD (Rat.divInt a b))) [] ∧ callD G wt d 15 [ow (.str (mkS l))] = .ret (.d (.lst [.str "ratio", .int a, .int b])) []
theorem run_words (hw : Fu wt) (hd : 4 ≤ d) (l : List Nat) (hl : l.length ≤ 400) : (∀ w r, parts l = w :: r → (topB w = false ∨ 2 ≤ r.length) → Bad wt d l 0) ∧ (∀ w, parts l = [w] → topB w = true → Good wt d l (valT w) 1) ∧
    (∀ w u, parts l = [w, u] → topB w = true → (cnt u = false ∨ u = [48]) → Bad wt d l 1) ∧ (∀ w u, parts l = [w, u] → topB w = true → cnt u = true → ¬ u = [48] → Good wt d l (valT w) (NumText.digitsVal u)) := by
  obtain ⟨n, rfl⟩ : ∃ n, d = n + 1 := ⟨d - 1, by omega⟩
  have hs := bm_split l (by omega)
  have ll : ∀ w, w ∈ parts l → w.length ≤ 400 := fun w h => Nat.le_trans (parts_le h) hl
  have eT := fun w (h : w ∈ parts l) => run_top (wt := wt) (d := n) (by omega) w (by have := ll w h; omega)
  have eC := fun w (h : w ∈ parts l) => run_count (wt := wt) (d := n) (by omega) w (by have := ll w h; omega)
  have eC2 := fun w (h : w ∈ parts l) => run_count2 (wt := wt) (d := n) (by omega) w (by have := ll w h; omega)
  have eF := fun w (h : w ∈ parts l) => run_front (wt := wt) (d := n) (by omega) w (ll w h)
  have p10 : place 1 0 = some 0 := by decide
  have p20 : place 2 0 = some 0 := by decide
  have p21 : place 2 1 = some 1 := by decide
  refine ⟨?_, ?_, ?_, ?_⟩
  · intro w r hp hb
    have hm : w ∈ parts l := by rw [hp]; simp
    have e1 := eT w hm
    have e2 := eF w hm
    rw [hp] at hs
    simp only [List.map_cons] at hs
    refine ⟨?_, ?_⟩
    · rw [call_eq (D := f4) rfl rfl rfl rfl]
      have p0 : place (r.length + 1) 0 = some 0 := by unfold place; simp
      by_cases h2 : 2 ≤ r.length
      · have h3 : (2 : Int) < (r.length : Int) + 1 := by omega
        simp [f4, f4_body, c_slash, hs, len_lst, h3]
      · have h3 : ¬ (2 : Int) < (r.length : Int) + 1 := by omega
        have hb' : topB w = false := by
          rcases hb with h | h
          · exact h
          · exact absurd h h2
        rw [hb'] at e1
        simp [f4, f4_body, f2, c_slash, hs, len_lst, h3, p0, e1]
    · rw [call_eq (D := f15) rfl rfl rfl rfl]
      have p0 : place (r.length + 1) 0 = some 0 := by unfold place; simp
      have l2 : 2 ≤ lineN := by decide
      by_cases h2 : 2 ≤ r.length
      · have h3 : (2 : Int) < (r.length : Int) + 1 := by omega
        simp [f15, f15_body, c_slash, hs, len_lst, h3, p0, ↓e2, l2]
      · have h3 : ¬ (2 : Int) < (r.length : Int) + 1 := by omega
        have hb' : topB w = false := by
          rcases hb with h | h
          · exact h
          · exact absurd h h2
        rw [hb'] at e2
        simp [f15, f15_body, c_slash, hs, len_lst, h3, p0, ↓e2, l2]
  · intro w hp ht
    have hm : w ∈ parts l := by rw [hp]; simp
    have e1 := eT w hm
    have e2 := eF w hm
    have hi := int_top ht (by have := ll w hm; omega)
    have hz := top_sz ht
    have hwl := ll w hm
    have K := mk_run (wt := wt) (d := n) hw (by omega) (t := valT w) (b := 1) (by decide) (by decide)
    rw [hp] at hs
    simp only [List.map_cons, List.map_nil] at hs
    rw [ht] at e1 e2
    have l3 : 3 ≤ lineN := by decide
    refine ⟨by decide, by omega, by decide, ?_, ?_⟩
    · rw [call_eq (D := f4) rfl rfl rfl rfl]
      simp [f4, f4_body, f2, f1, f3, c_slash, hs, len_lst, e1, p10, hi, K]
    · rw [call_eq (D := f15) rfl rfl rfl rfl]
      simp [f15, f15_body, c_slash, hs, len_lst, p10, ↓e2, hi, l3]
  · intro w u hp ht hu
    have hm : w ∈ parts l := by rw [hp]; simp
    have hm' : u ∈ parts l := by rw [hp]; simp
    have e1 := eT w hm
    have e2 := eF w hm
    have e3 := eC u hm'
    have e4 := eC2 u hm'
    rw [hp] at hs
    simp only [List.map_cons, List.map_nil] at hs
    rw [ht] at e1 e2
    have l2 : 2 ≤ lineN := by decide
    refine ⟨?_, ?_⟩
    · rw [call_eq (D := f4) rfl rfl rfl rfl]
      cases hc : cnt u with
      | false =>
        rw [hc] at e3
        simp [f4, f4_body, f2, f1, c_slash, c_zero, mkS_inj, hs, len_lst, e1, e3, p20, p21]
      | true =>
        have hu' : u = [48] := by
          rcases hu with h | h
          · rw [hc] at h; cases h
          · exact h
        rw [hc] at e3
        subst hu'
        simp [f4, f4_body, f2, f1, c_slash, c_zero, mkS_inj, hs, len_lst, e1, e3, p20, p21]
    · rw [call_eq (D := f15) rfl rfl rfl rfl]
      cases hc : cnt u with
      | false =>
        rw [hc] at e4
        simp [f15, f15_body, f14, c_slash, c_zero, mkS_inj, hs, len_lst, ↓e2, e4, p20, p21, l2]
      | true =>
        have hu' : u = [48] := by
          rcases hu with h | h
          · rw [hc] at h; cases h
          · exact h
        rw [hc] at e4
        subst hu'
        simp [f15, f15_body, f14, c_slash, c_zero, mkS_inj, hs, len_lst, ↓e2, e4, p20, p21, l2]
  · intro w u hp ht hc h48
    have hm : w ∈ parts l := by rw [hp]; simp
    have hm' : u ∈ parts l := by rw [hp]; simp
    have e1 := eT w hm
    have e2 := eF w hm
    have e3 := eC u hm'
    have e4 := eC2 u hm'
    have hi := int_top ht (by have := ll w hm; omega)
    have hj := int_cnt hc (by have := ll u hm'; omega)
    have hz := top_sz ht
    have hz' := cnt_sz hc
    have hwl := ll w hm
    have hul := ll u hm'
    have hpos := cnt_pos hc h48
    have K := mk_run (wt := wt) (d := n) hw (by omega) (t := valT w) (b := NumText.digitsVal u) (by omega) (by omega)
    rw [hp] at hs
    simp only [List.map_cons, List.map_nil] at hs
    rw [ht] at e1 e2
    rw [hc] at e3 e4
    have l3 : 3 ≤ lineN := by decide
    refine ⟨by omega, by omega, by omega, ?_, ?_⟩
    · rw [call_eq (D := f4) rfl rfl rfl rfl]
      simp [f4, f4_body, f2, f1, f3, c_slash, c_zero, mkS_inj, hs, len_lst, e1, e3, p20, p21, hi, hj, K, h48]
    · rw [call_eq (D := f15) rfl rfl rfl rfl]
      simp [f15, f15_body, f14, c_slash, c_zero, mkS_inj, hs, len_lst, ↓e2, e4, p20, p21, hi, hj, l3, h48]
end
end Tf.P
end
section
set_option Elab.async false
set_option linter.all false
set_option maxRecDepth 100000
/-! What a text tells, judged; texts changed. -/
namespace Tf.P
open Tf PySem
section
variable {wt d : Nat}
theorem words_all (hw : Fu wt) (l : List Nat) (hl : l.length ≤ 400) : (∃ k, ∀ d, 4 ≤ d → Bad wt d l k) ∨ ∃ a b, ∀ d, 4 ≤ d → Good wt d l a b := by
  cases e : parts l with
  | nil => exact absurd e (parts_ne l)
  | cons w r =>
    cases ht : topB w with
    | false => exact .inl ⟨_, fun d hd => (run_words hw hd l hl).1 w r e (.inl ht)⟩
    | true =>
      cases r with
      | nil => exact .inr ⟨_, _, fun d hd => (run_words hw hd l hl).2.1 w e ht⟩
      | cons u r => cases r with
        | cons v r => exact .inl ⟨_, fun d hd => (run_words hw hd l hl).1 w _ e (.inr (by simp))⟩
        | nil =>
          by_cases h48 : u = [48]
          · exact .inl ⟨_, fun d hd => (run_words hw hd l hl).2.2.1 w u e ht (.inr h48)⟩
          · cases hc : cnt u with
            | false => exact .inl ⟨_, fun d hd => (run_words hw hd l hl).2.2.1 w u e ht (.inl hc)⟩
            | true => exact .inr ⟨_, _, fun d hd => (run_words hw hd l hl).2.2.2 w u e ht hc h48⟩
theorem run_told_bad (hd : 1 ≤ d) {l : List Nat} {k : Int} (h : callD G wt d 4 [ow (.cls 0), ow (.str (mkS l))] = .exc ⟨3, [.int k]⟩ []) : callD G wt (d + 1) 16 [ow (.str (mkS l))] = .ret (.d (.lst [.str "text", .int k])) [] := by
  rw [call_eq (D := f16) rfl rfl rfl rfl]
  simp [f16, f16_body, f4, h, handle, evH, evHs]
theorem run_told (hd : 1 ≤ d) {l : List Nat} {q : Rat} (h : callD G wt d 4 [ow (.cls 0), ow (.str (mkS l))] = .ret (.d (rD q)) []) : callD G wt (d + 1) 16 [ow (.str (mkS l))] = .ret (.d (.lst [.str "ratio", .int q.num, .int q.den])) [] := by
  rw [call_eq (D := f16) rfl rfl rfl rfl]
  have l3 : 3 ≤ lineN := by decide
  simp [f16, f16_body, f4, h, l3]
/-- a fraction's text -/
def strR (q : Rat) : List Nat := if q.den = 1 then numI q.num else numI q.num ++ 47 :: numI q.den
theorem app_mk (a b : List Nat) : (mkS a) ++ (mkS b) = mkS (a ++ b) := by
  show Str.mk (Array.mk a ++ Array.mk b) = _
  simp
theorem len_mk (a : List Nat) : Str.length (mkS a) = a.length := rfl
theorem log_of {i : Int} (h : szI i ≤ 1919) : i.natAbs.log2 < 1920 := by unfold szI at h; omega
theorem fmt_num {i : Int} (h : szI i ≤ 1919) : fmtD (.int i) = some (mkS (numI i)) := by
  show (if i.natAbs.log2 < 1920 then some (Str.ofString (toString i)) else none) = _
  rw [if_pos (log_of h), num_str]
theorem run_str (hd : 1 ≤ d) {q : Rat} (h1 : szI q.num ≤ 1919) (h2 : szI (q.den : Int) ≤ 1919) : callD G wt d 10 [ow (rD q)] = .ret (.d (.str (mkS (strR q)))) [] := by
  obtain ⟨n, rfl⟩ : ∃ n, d = n + 1 := ⟨d - 1, by omega⟩
  rw [call_eq (D := f10) rfl rfl rfl rfl]
  have g1 := log_of h1
  have f1 := fmt_num h1
  have f2 := fmt_num h2
  have n1 := num_len2 h1
  have n2 := num_len2 h2
  unfold strR
  by_cases c : q.den = 1
  · rw [if_pos c]
    have c' : (q.den : Int) = 1 := by omega
    simp [f10, f10_body, c', g1, num_str, num_rep]
  · rw [if_neg c]
    have c' : ¬ (q.den : Int) = 1 := by omega
    have a1 : fmtA (.int q.num) (mkS [47]) = some (mkS (numI q.num ++ [47])) := by
      unfold fmtA
      rw [f1]
      show (if Str.length (mkS (numI q.num)) ≤ lineN ∧ Str.length (mkS (numI q.num) ++ mkS [47]) ≤ lineN then some (mkS (numI q.num) ++ mkS [47]) else none) = _
      rw [app_mk, len_mk, len_mk, if_pos]
      unfold lineN
      rw [List.length_append]
      simp
      omega
    have a2 : fmtB (mkS (numI q.num ++ [47])) (.int q.den) = some (.str (mkS (numI q.num ++ 47 :: numI q.den))) := by
      unfold fmtB
      rw [f2]
      show (if Str.length (mkS (numI q.num ++ [47]) ++ mkS (numI q.den)) ≤ lineN then some (D.str (mkS (numI q.num ++ [47]) ++ mkS (numI q.den))) else none) = _
      rw [app_mk, len_mk, if_pos]
      · simp
      · unfold lineN
        rw [List.length_append, List.length_append]
        simp
        omega
    simp [f10, f10_body, c', c_slash, a1, a2]
theorem stoV_R (hd : 1 ≤ d) {q : Rat} (h1 : szI q.num ≤ 1919) (h2 : szI (q.den : Int) ≤ 1919) (σ : Fr) : stoV G (callD G wt d) (rD q) σ = .ok (.d (.str (mkS (strR q)))) σ := by
  have h := run_str (wt := wt) hd h1 h2
  unfold stoV ownCall
  simp [rD] at h ⊢
  simp [h]
/-- equality of what is told -/
theorem eq_told (cl : Call) (s t : Str) (i j : Int) : cmpV G cl .eq (.lst [.str s, .int i]) (.d (.lst [.str t, .int j])) = some (decide (s = t ∧ i = j)) := by
  show (if 2 = 2 then eqL _ [.str s, .int i] [.str t, .int j] else some false) = _
  rw [if_pos rfl]
  show (match some (s == t) with | some true => (match some (i == j) with | some true => eqL _ [] [] | some false => some false | none => none) | some false => some false | none => none) = _
  by_cases h1 : s = t
  · have e1 : (s == t) = true := by simp [h1]
    by_cases h2 : i = j
    · have e2 : (i == j) = true := by simp [h2]
      rw [e1, e2]
      simp [eqL, h1, h2]
    · have e2 : (i == j) = false := by simpa using h2
      rw [e1, e2]
      simp [h2]
  · have e1 : (s == t) = false := by simpa using h1
    rw [e1]
    simp [h1]
theorem ne_told (cl : Call) (s : Str) (i j : Int) : cmpV G cl .ne (.lst [.str s, .int i, .int j]) (.d (.lst [.str s, .int i, .int j])) = some false := by
  show (if 3 = 3 then eqL _ [.str s, .int i, .int j] [.str s, .int i, .int j] else some false).map not = _
  rw [if_pos rfl]
  show (match some (s == s) with | some true => (match some (i == i) with | some true => (match some (j == j) with | some true => eqL _ [] [] | some false => some false | none => none) | some false => some false | none => none) | some false => some false | none => none).map not = _
  simp [eqL]
theorem c_text : (Str.ofString "text") = mkS [116, 101, 120, 116] := by kernel_rfl
theorem c_ratio : (Str.ofString "ratio") = mkS [114, 97, 116, 105, 111] := by kernel_rfl
theorem fits_gcd (cl : Call) (l : List Nat) (x y : D) (a b : Int) (hb : 0 < b) (hf : b.natAbs < wt) (s5 s6 : Option Sl) : ∃ s, whlLoop (ev G cl .tst (.cmp .gt (.var 4) (.cst (.int 0)))) (exSs G cl wt (.cons (.par 3 4 (.var 4) (.bin .mod (.var 3) (.var 4))) .nil)) wt [sv (.str (mkS l)), sv x, sv y, sv (.int (if a < 0 then -a else a)), sv (.int b), s5, s6] = .next [sv (.str (mkS l)), sv x, sv y, sv (.int (Int.gcd a b)), s, s5, s6] := by
  have key := whl_run (test := ev G cl .tst (.cmp .gt (.var 4) (.cst (.int 0)))) (body := exSs G cl wt (.cons (.par 3 4 (.var 4) (.bin .mod (.var 3) (.var 4))) .nil))
    (enc := fun (p : Int × Int) => [sv (.str (mkS l)), sv x, sv y, sv (.int p.1), sv (.int p.2), s5, s6]) (c := fun p => decide (0 < p.2)) (I := fun p => 0 ≤ p.1 ∧ 0 ≤ p.2 ∧ Int.gcd p.1 p.2 = Int.gcd a b) (m := fun p => p.2.toNat)
    (by intro p hI; simp) (by
      intro p ⟨h1, h2, h3⟩ hc
      have h4 : 0 < p.2 := by simpa using hc
      refine ⟨(p.2, p.1 % p.2), by simp [h4], ⟨h2, Int.emod_nonneg _ (by omega), ?_⟩, ?_⟩
      · rw [← h3]
        exact emod_gcd _ _
      · have := Int.emod_lt_of_pos p.1 h4
        have := Int.emod_nonneg p.1 (show p.2 ≠ 0 by omega)
        show (p.1 % p.2).toNat < p.2.toNat
        omega) wt ((if a < 0 then -a else a), b) ⟨by dsimp only; split <;> omega, by dsimp only; omega, by dsimp only; split <;> simp [Int.gcd_neg, Int.neg_gcd]⟩ (by dsimp only; omega)
  obtain ⟨⟨p, q⟩, ⟨h1, h2, h3⟩, hc, e⟩ := key
  have hy : q = 0 := by
    have hc' : ¬ (0 < q) := by simpa using hc
    have h2' : 0 ≤ q := h2
    omega
  subst hy
  have hx : p = Int.gcd a b := by
    rw [← h3]
    simp
    omega
  subst hx
  exact ⟨_, e⟩
theorem abs_int (i : Int) : biV .abs (.d (.int i)) = some (.int (if i < 0 then -i else i)) := rfl
theorem int_bl (b : Bool) : biV .int (.d (.bl b)) = some (.int (if b then 1 else 0)) := rfl
theorem run_fits (hw : Fu wt) (hd : 6 ≤ d) (l : List Nat) (hl : l.length ≤ 400) : callD G wt d 17 [ow (.str (mkS l))] = .ret (.d (.bl true)) [] := by
  obtain ⟨n, rfl⟩ : ∃ n, d = n + 2 := ⟨d - 2, by omega⟩
  have p20 : place 2 0 = some 0 := by decide
  have p21 : place 2 1 = some 1 := by decide
  have p30 : place 3 0 = some 0 := by decide
  have p31 : place 3 1 = some 1 := by decide
  have p32 : place 3 2 = some 2 := by decide
  rw [call_eq (D := f17) rfl rfl rfl rfl]
  rcases words_all hw l hl with ⟨k, h⟩ | ⟨a, b, h⟩
  · obtain ⟨h1, h2⟩ := h (n + 1) (by omega)
    have t := run_told_bad (by omega) (h n (by omega)).1
    simp [f17, f17_body, f15, f16, h2, t, p20, eq_told]
  · obtain ⟨hb, za, zb, h1, h2⟩ := h (n + 1) (by omega)
    have t := run_told (by omega) (h n (by omega)).2.2.2.1
    obtain ⟨s, e⟩ := fits_gcd (callD G wt (n + 1)) l (.lst [.str "ratio", .int a, .int b]) (.lst [.str "ratio", .int (Rat.divInt a b).num, .int (Rat.divInt a b).den]) a b hb (fuel hw (by omega)) none none
    have n1 := num_fdiv (t := a) (show b ≠ 0 by omega)
    have n2 := den_fdiv (t := a) (show b ≠ 0 by omega)
    rw [if_neg (by omega)] at n1 n2
    have hg : (Int.gcd a b : Int) ≠ 0 := by
      have := Int.gcd_pos_of_ne_zero_right a (show b ≠ 0 by omega)
      omega
    have hlg : (Int.gcd a b).log2 < 9000 := by
      have h1 : Int.gcd a b ≤ b.natAbs := Int.gcd_le_natAbs_right a (by omega)
      have h2 : szI (Int.gcd a b : Int) ≤ szI b := szI_le (by simpa using h1)
      unfold szI at h2 zb
      simp at h2
      omega
    have ds := divInt_sz (t := a) (show b ≠ 0 by omega)
    have S := stoV_R (wt := wt) (d := n + 1) (by omega) (q := Rat.divInt a b) (by omega) (by omega)
    have g1 := log_of (i := (Rat.divInt a b).num) (by omega)
    have g2 := log_of (i := ((Rat.divInt a b).den : Int)) (by omega)
    have nl1 := num_len2 (i := (Rat.divInt a b).num) (by omega)
    have nl2 := num_len2 (i := ((Rat.divInt a b).den : Int)) (by omega)
    have nt := ne_told (callD G wt (n + 1)) "ratio"
    generalize Rat.divInt a b = q at *
    have l3 : 3 ≤ lineN := by decide
    have l2 : 2 ≤ lineN := by decide
    have L1 : 1 + (numI (q.den : Int)).length ≤ lineN := by unfold lineN; omega
    have L2 : (numI q.num).length + (1 + (numI (q.den : Int)).length) ≤ lineN := by unfold lineN; omega
    have L3 : (numI q.num).length ≤ lineN := by unfold lineN; omega
    have ne : ¬ mkS [114, 97, 116, 105, 111] = mkS [116, 101, 120, 116] := by rw [mkS_inj]; decide
    simp only [c_ratio] at h2 t e nt
    have hb0 : ¬ b = 0 := by omega
    have g3 : q.den.log2 < 1920 := g2
    simp [f17, f17_body, f15, f16, f4, h1, h2, t, p20, p30, p31, p32, c_text, c_ratio, ne, abs_int, e, hg, hlg, n1, n2, nt, l3, S, g1, g3, hb0, num_str, num_rep, c_slash, c_emp, app_mk, len_mk, L1, l2, int_bl, p20, p21]
    by_cases c : q.den = 1
    · have c' : (q.den : Int) = 1 := by omega
      have hs : strR q = numI q.num := by unfold strR; rw [if_pos c]
      rw [hs, c']
      simp [p21, app_mk, len_mk, L3, mkS_inj]
    · have c' : ¬ (q.den : Int) = 1 := by omega
      have hs : strR q = numI q.num ++ 47 :: numI q.den := by unfold strR; rw [if_neg c]
      rw [hs]
      have L4 : (numI q.num).length + ((numI (q.den : Int)).length + 1) ≤ lineN := by omega
      simp [c', p20, app_mk, len_mk, L4, mkS_inj]
end
end Tf.P
end
section
set_option Elab.async false
set_option linter.all false
set_option maxRecDepth 100000
/-! Draws; a text changed. -/
namespace Tf.P
open Tf PySem
section
variable {wt d : Nat}
/-- a bag that is drawn from -/
def poolO (c k : Int) (f : Bool) : O := .lst [.d (.int c), .d (.int k), .d (.bl f)]
theorem run_bag (hd : 1 ≤ d) (c : Int) : callD G wt d 11 [ow (.int c)] = .ret (.o (poolO c 0 (decide (1000000000000000000 ≤ c)))) [] := by
  obtain ⟨n, rfl⟩ : ∃ n, d = n + 1 := ⟨d - 1, by omega⟩
  rw [call_eq (D := f11) rfl rfl rfl rfl]
  simp [f11, f11_body, poolO, lineN]
theorem mulOk_r {i j : Int} (h : j.natAbs < 18446744073709551616) : mulOk i j = true := by
  unfold mulOk
  simp [h]
theorem run_draw (hd : 1 ≤ d) (c k : Int) (f : Bool) (L : Int) (hL : 0 < L) (hs : L.natAbs.log2 < 9000) : ∃ r c', 0 ≤ r ∧ r < L ∧ callD G wt d 12 [.lent (poolO c k f), ow (.int L)] = .ret (.d (.int r)) [poolO c' (k + 1) f] := by
  obtain ⟨n, rfl⟩ : ∃ n, d = n + 1 := ⟨d - 1, by omega⟩
  have p0 : place 3 0 = some 0 := by decide
  have p1 : place 3 1 = some 1 := by decide
  have p2 : place 3 2 = some 2 := by decide
  have hL0 : L ≠ 0 := by omega
  cases f with
  | true =>
    refine ⟨c % L, c.fdiv L, Int.emod_nonneg _ hL0, Int.emod_lt_of_pos _ hL, ?_⟩
    rw [call_eq (D := f12) rfl rfl rfl rfl]
    simp [f12, f12_body, poolO, lineN, p0, p1, p2, biV, hL, hL0, hs, setO]
  | false =>
    have m1 : ∀ i, mulOk i 7919 = true := fun i => mulOk_r (by decide)
    have m2 : ∀ i, mulOk i 104729 = true := fun i => mulOk_r (by decide)
    have hp : ∀ i : Int, (i % 2147483647).natAbs < 18446744073709551616 := fun i => by omega
    refine ⟨((((c * 7919 + (k + 1) * 104729 + 13) % 2147483647) ^ 5 % 2147483647).fdiv 17) % L, c, Int.emod_nonneg _ hL0, Int.emod_lt_of_pos _ hL, ?_⟩
    rw [call_eq (D := f12) rfl rfl rfl rfl]
    have l17 : Nat.log2 17 < 9000 := by decide
    simp [f12, f12_body, poolO, lineN, p0, p1, p2, biV, hL, hL0, hs, setO, m1, m2, hp, l17]
theorem run_at (hd : 1 ≤ d) (ns : List Int) (k : Nat) : ∃ i, callD G wt d 13 [ow (.scr ns), ow (.int k)] = .ret (.d (.int i)) [] := by
  obtain ⟨n, rfl⟩ : ∃ n, d = n + 1 := ⟨d - 1, by omega⟩
  by_cases h : k < ns.length
  · refine ⟨ns[k], ?_⟩
    rw [call_eq (D := f13) rfl rfl rfl rfl]
    have pl : place ns.length k = some k := by unfold place; simp; omega
    have gk : ns[k]? = some ns[k] := List.getElem?_eq_getElem h
    simp [f13, f13_body, biV, lenV, h, pl, gk]
  · refine ⟨0, ?_⟩
    rw [call_eq (D := f13) rfl rfl rfl rfl]
    simp [f13, f13_body, biV, lenV, h]
theorem joinL_len : ∀ ws : List (List Nat), ws ≠ [] → (TL.joinL [47] ws).length + 1 = (ws.map List.length).sum + ws.length
  | [], h => absurd rfl h
  | [p], _ => by simp [TL.joinL]
  | p :: q :: r, _ => by
    have ih := joinL_len (q :: r) (by simp)
    show (p ++ ([47] ++ TL.joinL [47] (q :: r))).length + 1 = _
    simp at ih ⊢
    omega
theorem strs_map (ws : List (List Nat)) : D.strs (ws.map fun w => D.str (mkS w)) = some (ws.map mkS) := by
  induction ws with
  | nil => rfl
  | cons w ws ih => simp [D.strs, ih]
theorem tl_map (ws : List (List Nat)) : (ws.map mkS).map TL.tl = ws := by
  rw [List.map_map]
  have e : (TL.tl ∘ mkS) = id := rfl
  rw [e, List.map_id]
theorem bm_join (ws : List (List Nat)) (h : (ws.map List.length).sum + ws.length ≤ 10000) : bmV .join (mkS [47]) (.lst (ws.map fun w => D.str (mkS w))) = some (.str (mkS (TL.joinL [47] ws))) := by
  show (D.strs _).bind _ = _
  rw [strs_map]
  show (if ((ws.map mkS).map Str.length).sum + (ws.map mkS).length * Str.length (mkS [47]) ≤ lineN then some (D.str (Txt.join (mkS [47]) (ws.map mkS))) else none) = _
  have e1 : (ws.map mkS).map Str.length = ws.map List.length := by rw [List.map_map]; rfl
  rw [e1, List.length_map, show Str.length (mkS [47]) = 1 from rfl, if_pos (by unfold lineN; omega)]
  have e2 : TL.tl (Txt.join (mkS [47]) (ws.map mkS)) = TL.joinL [47] ws := by
    rw [TL.join_eq, TL.tl_join, tl_map]
  rw [str_l (Txt.join (mkS [47]) (ws.map mkS))]
  exact congrArg (fun l => some (D.str (mkS l))) e2
theorem sum_rev (ws : List (List Nat)) : (ws.reverse.map List.length).sum = (ws.map List.length).sum := by
  rw [List.map_reverse]
  simp
def chars : List Nat := [48, 49, 50, 51, 52, 53, 54, 55, 56, 57, 45, 47, 32, 43, 120, 95, 46]
theorem c_chars : (Str.ofString "0123456789-/ +x_.") = mkS chars := by kernel_rfl
theorem run_changed (hd : 2 ≤ d) (c k : Int) (f : Bool) (l : List Nat) (hl : l.length ≤ 2000) : ∃ l' c' k', l'.length ≤ 2 * l.length + 1 ∧ callD G wt d 18 [.lent (poolO c k f), ow (.str (mkS l))] = .ret (.d (.str (mkS l'))) [poolO c' k' f] := by
  obtain ⟨n, rfl⟩ : ∃ n, d = n + 1 := ⟨d - 1, by omega⟩
  obtain ⟨r, c1, r0, r5, e1⟩ := run_draw (wt := wt) (d := n) (by omega) c k f 5 (by decide) (by decide)
  have hlog : ((l.length : Int) + 1).natAbs.log2 < 9000 := by
    have h1 : szI ((l.length : Int) + 1) ≤ 20 := szI_lt.mpr ⟨by decide, by omega⟩
    unfold szI at h1
    omega
  obtain ⟨m, c2, m0, m5, e2⟩ := run_draw (wt := wt) (d := n) (by omega) c1 (k + 1) f ((l.length : Int) + 1) (by omega) hlog
  obtain ⟨a, rfl⟩ := Int.eq_ofNat_of_zero_le m0
  have ha : a ≤ l.length := by omega
  have h1 := cut_hi l (by omega) a
  have h2 := cut_lo l (by omega) a
  have h3 := cut_lo l (by omega) (a + 1)
  have h4 := cut_lo l (by omega) (a - 1)
  have ez : (if (a : Int) - 1 > 0 then (a : Int) - 1 else 0) = ((a - 1 : Nat) : Int) := by split <;> omega
  simp only [Int.natCast_add, Int.natCast_one] at h3
  have lt : (l.take a).length ≤ l.length := by simp; omega
  have ld : (l.drop a).length ≤ l.length := by simp
  have ld1 : (l.drop (a + 1)).length ≤ l.length := by simp
  have ld2 : (l.drop (a - 1)).length ≤ l.length := by simp
  have le : biV .len (.d (.str (mkS l))) = some (.int l.length) := by rw [len_str, if_pos (by unfold lineN; omega)]; rfl
  have hr : r = 0 ∨ r = 1 ∨ r = 2 ∨ r = 3 ∨ r = 4 := by omega
  rcases hr with rfl | rfl | rfl | rfl | rfl
  · refine ⟨l.take a ++ l.drop (a + 1), c2, k + 1 + 1, by rw [List.length_append]; omega, ?_⟩
    rw [call_eq (D := f18) rfl rfl rfl rfl]
    have L : (l.take a).length + (l.drop (a + 1)).length ≤ lineN := by unfold lineN; omega
    simp only [List.length_take, List.length_drop] at L
    simp [f18, f18_body, f12, e1, e2, le, h1, h3, app_mk, len_mk, L]
  · obtain ⟨x, c3, x0, x17, e3⟩ := run_draw (wt := wt) (d := n) (by omega) c2 (k + 1 + 1) f 17 (by decide) (by decide)
    obtain ⟨y, rfl⟩ := Int.eq_ofNat_of_zero_le x0
    have hy : y < chars.length := by show y < 17; omega
    have hsel : selV (.d (.str (mkS chars))) (.int (y : Int)) = some (.d (.str (mkS [chars[y]]))) := by
      rw [sel_str, if_pos (by decide)]
      have pl : place chars.length (y : Int) = some y := by
        unfold place
        rw [if_pos (by omega), if_pos (by omega)]
        simp
      rw [pl]
      show Option.map Val.d (Option.map (fun c => D.str (mkS [c])) chars[y]?) = _
      rw [List.getElem?_eq_getElem hy]
      rfl
    generalize chars[y] = ch at hsel
    refine ⟨l.take a ++ [ch] ++ l.drop a, c3, k + 1 + 1 + 1, by rw [List.length_append, List.length_append]; simp; omega, ?_⟩
    rw [call_eq (D := f18) rfl rfl rfl rfl]
    have L1 : min a l.length + 1 ≤ lineN := by unfold lineN; omega
    have L2 : min a l.length + 1 + (l.length - a) ≤ lineN := by unfold lineN; omega
    simp [f18, f18_body, f12, e1, e2, e3, le, h1, h2, app_mk, len_mk, c_chars, hsel, L1, L2]
  · have hsum := parts_sum l
    have J := bm_join (parts l).reverse (by rw [sum_rev, List.length_reverse]; omega)
    rw [List.map_reverse] at J
    have S := bm_split l (by omega)
    have jl := joinL_len (parts l).reverse (by simp [parts_ne])
    rw [sum_rev, List.length_reverse] at jl
    refine ⟨TL.joinL [47] (parts l).reverse, c2, k + 1 + 1, by omega, ?_⟩
    rw [call_eq (D := f18) rfl rfl rfl rfl]
    simp [f18, f18_body, f12, e1, e2, le, c_slash, S, J]
  · refine ⟨l ++ [47] ++ l, c2, k + 1 + 1, by simp; omega, ?_⟩
    rw [call_eq (D := f18) rfl rfl rfl rfl]
    have L1 : l.length + 1 ≤ lineN := by unfold lineN; omega
    have L2 : l.length + 1 + l.length ≤ lineN := by unfold lineN; omega
    simp [f18, f18_body, f12, e1, e2, le, c_slash, app_mk, len_mk, L1, L2]
  · refine ⟨l.take a ++ l.drop (a - 1), c2, k + 1 + 1, by rw [List.length_append]; omega, ?_⟩
    rw [call_eq (D := f18) rfl rfl rfl rfl]
    have L : min a l.length + (l.length - (a - 1)) ≤ lineN := by unfold lineN; omega
    have ez' : (if 1 < (a : Int) then (a : Int) - 1 else 0) = ((a - 1 : Nat) : Int) := by split <;> omega
    simp [f18, f18_body, f12, e1, e2, le, h1, h4, app_mk, len_mk, L, ez, ez']
end
end Tf.P
end
section
set_option Elab.async false
set_option linter.all false
set_option maxRecDepth 100000
/-! The law of texts of fractions. -/
namespace Tf.P
open Tf PySem
section
variable {wt d : Nat}
theorem eqd_R (hd : 1 ≤ d) (k : Nat) (p q : Rat) : eqD G (callD G wt d) k (rD p) (rD q) = some (decide (p = q)) := by
  have h := run_eq (wt := wt) hd p q
  cases k <;> (unfold eqD eqA; simp [rD, owned, eqTo] at h ⊢; simp [h, ansB])
theorem cmp_R (hd : 1 ≤ d) (p q : Rat) : cmpV G (callD G wt d) .eq (rD p) (.d (rD q)) = some (decide (p = q)) := eqd_R hd 5 p q
theorem len136 {i : Int} (h : szI i ≤ 136) : (numI i).length ≤ 42 := by
  refine num_len (k := 41) (by decide) ?_
  have h1 := szI_self i
  have h2 : 2 ^ szI i ≤ 2 ^ 136 := Nat.pow_le_pow_right (by decide) h
  have h3 : (2 : Nat) ^ 136 < 10 ^ 41 := by decide
  omega
theorem num_pos {i : Int} (h : 0 < i) : numI i = TL.numL i.natAbs := by
  unfold numI
  rw [if_neg (by omega)]
theorem read_two (hw : Fu wt) (hd : 4 ≤ d) {a b : Int} (hb : 0 < b) (za : szI a ≤ 136) (zb : szI b ≤ 136) : callD G wt d 4 [ow (.cls 0), ow (.str (mkS (numI a ++ 47 :: numI b)))] = .ret (.d (rD (Rat.divInt a b))) [] := by
  have l1 := len136 za
  have l2 := len136 zb
  have h := (run_words hw hd (numI a ++ 47 :: numI b) (by rw [List.length_append, List.length_cons]; omega)).2.2.2 _ _ (parts_two (num_free a) (num_free b)) (num_topB a).1 (by rw [num_pos hb]; exact num_cnt _) (by rw [num_pos hb]; exact num_not0 (by omega))
  have e := h.2.2.2.1
  rw [(num_topB a).2, num_pos hb, TL.numL_val] at e
  rw [num_pos hb, e]
  have : (b.natAbs : Int) = b := by omega
  rw [this]
theorem read_str (hw : Fu wt) (hd : 4 ≤ d) {q : Rat} (za : szI q.num ≤ 136) (zb : szI (q.den : Int) ≤ 136) : callD G wt d 4 [ow (.cls 0), ow (.str (mkS (strR q)))] = .ret (.d (rD q)) [] := by
  unfold strR
  by_cases c : q.den = 1
  · rw [if_pos c]
    have l1 := len136 za
    have h := (run_words hw hd (numI q.num) (by omega)).2.1 _ (parts_one (num_free _)) (num_topB _).1
    have e := h.2.2.2.1
    rw [(num_topB _).2] at e
    rw [e]
    have := Rat.num_divInt_den q
    rw [c] at this
    rw [show (1 : Int) = ((1 : Nat) : Int) from rfl, this]
  · rw [if_neg c]
    have e := read_two hw hd (a := q.num) (b := q.den) (by have := q.den_pos; omega) za zb
    rw [Rat.num_divInt_den] at e
    exact e
theorem strR_len {q : Rat} (za : szI q.num ≤ 136) (zb : szI (q.den : Int) ≤ 136) : (strR q).length ≤ 90 := by
  have l1 := len136 za
  have l2 := len136 zb
  unfold strR
  split
  · omega
  · rw [List.length_append, List.length_cons]; omega
/-- the loop's frame -/
def encL (ns : List Int) (sz t b : Int) (q : Rat) (p : O) (st : Option (Int × List Nat × Int)) : Fr := [sv (.scr ns), some (Sl.own p), sv (.int sz), sv (.int t), sv (.int b), sv (rD q), sv (.str (mkS (strR q)))] ++ (match st with
  | none => [none, none, none]
  | some (x, w, c) => [sv (.int x), sv (.str (mkS w)), sv (.int c)])
def loopB : Ss := (.cons (.asg 1 (.call 11 (.cons false (.var 7) .nil))) (.cons (.asg 8 (.idx (.lst false (.cons false (.var 6) (.cons false (.bin .add (.bin .add (.sto (.var 3)) (.cst (.str "/"))) (.sto (.var 4))) (.cons false (.cst (.str "0")) (.cons false (.cst (.str "-7")) (.cons false (.cst (.str "12/18")) .nil)))))) (.call 12 (.cons false (.var 1) (.cons false (.cst (.int 5)) .nil))))) (.cons (.for_ (.var 9) (.rng (.cons false (.bin .add (.cst (.int 1)) (.call 12 (.cons false (.var 1) (.cons false (.cst (.int 2)) .nil)))) .nil)) (.cons (.asg 8 (.call 18 (.cons false (.var 1) (.cons false (.var 8) .nil)))) .nil)) (.cons (.ife (.not (.call 17 (.cons false (.var 8) .nil))) (.cons (.ret (.cst (.bl false))) .nil) .nil) .nil))))
theorem c_m7 : (Str.ofString "-7") = mkS [45, 55] := by kernel_rfl
theorem c_1218 : (Str.ofString "12/18") = mkS [49, 50, 47, 49, 56] := by kernel_rfl
theorem rng1 : rngOf [.int 1] = some [.int 0] := rfl
theorem rng2 : rngOf [.int 2] = some [.int 0, .int 1] := rfl
/-- one or two changes -/
theorem turn_loop (hw : Fu wt) (hd : 7 ≤ d) (ns : List Int) (sz t b : Int) (q : Rat) (zt : szI t ≤ 136) (zb : szI b ≤ 136) (za : szI q.num ≤ 136) (zd : szI (q.den : Int) ≤ 136) (p : O) (st : Option (Int × List Nat × Int)) (x : Int) :
    ∃ p' st', forT (.var 7) (exSs G (callD G wt d) wt loopB) (.int x) (encL ns sz t b q p st) = .next (encL ns sz t b q p' (some st')) := by
  have hbag := run_bag (wt := wt) (d := d) (by omega) x
  generalize decide (1000000000000000000 ≤ x) = f at hbag
  obtain ⟨r, c1, r0, r5, e1⟩ := run_draw (wt := wt) (d := d) (by omega) x 0 f 5 (by decide) (by decide)
  obtain ⟨y, rfl⟩ := Int.eq_ofNat_of_zero_le r0
  have hy : y < 5 := by omega
  have pl : place 5 (y : Int) = some y := by
    unfold place
    rw [if_pos (by omega), if_pos (by omega)]
    simp
  have l1 := len136 zt
  have l2 := len136 zb
  have l3 := strR_len za zd
  have hsel : ∃ w : List Nat, w.length ≤ 90 ∧ ([D.str (mkS (strR q)), D.str (mkS (numI t ++ 47 :: numI b)), D.str (mkS [48]), D.str (mkS [45, 55]), D.str (mkS [49, 50, 47, 49, 56])] : List D)[y]? = some (.str (mkS w)) := by
    have : y = 0 ∨ y = 1 ∨ y = 2 ∨ y = 3 ∨ y = 4 := by omega
    rcases this with rfl | rfl | rfl | rfl | rfl
    · exact ⟨_, l3, rfl⟩
    · exact ⟨_, by rw [List.length_append, List.length_cons]; omega, rfl⟩
    · exact ⟨_, by decide, rfl⟩
    · exact ⟨_, by decide, rfl⟩
    · exact ⟨_, by decide, rfl⟩
  obtain ⟨w, hwl, hsel⟩ := hsel
  obtain ⟨m, c2, m0, m2, e2⟩ := run_draw (wt := wt) (d := d) (by omega) c1 (0 + 1) f 2 (by decide) (by decide)
  generalize (0 : Int) + 1 = k1 at e1 e2
  generalize k1 + 1 = k2 at e2
  obtain ⟨w1, c3, k3, w1l, e3⟩ := run_changed (wt := wt) (d := d) (by omega) c2 k2 f w (by omega)
  obtain ⟨w2, c4, k4, w2l, e4⟩ := run_changed (wt := wt) (d := d) (by omega) c3 k3 f w1 (by omega)
  have f1 := run_fits (wt := wt) (d := d) hw (by omega) w1 (by omega)
  have f2 := run_fits (wt := wt) (d := d) hw (by omega) w2 (by omega)
  have g1 := log_of (i := t) (by omega)
  have g2 := log_of (i := b) (by omega)
  have L1 : (numI t).length + 1 ≤ lineN := by unfold lineN; omega
  have L2 : (numI t).length + 1 + (numI b).length ≤ lineN := by unfold lineN; omega
  have L5 : 5 ≤ lineN := by decide
  have hm : m = 0 ∨ m = 1 := by omega
  rcases hm with rfl | rfl
  · refine ⟨poolO c3 k3 f, (x, w1, 0), ?_⟩
    rcases st with _ | ⟨x', w', c'⟩ <;> simp [encL, loopB, f11, f12, f18, f17, hbag, e1, e2, e3, f1, pl, hsel, g1, g2, num_str, num_rep, c_slash, c_zero, c_m7, c_1218, app_mk, len_mk, L1, L2, L5, rng1, rng2]
  · refine ⟨poolO c4 k4 f, (x, w2, 1), ?_⟩
    rcases st with _ | ⟨x', w', c'⟩ <;> simp [encL, loopB, f11, f12, f18, f17, hbag, e1, e2, e3, e4, f2, pl, hsel, g1, g2, num_str, num_rep, c_slash, c_zero, c_m7, c_1218, app_mk, len_mk, L1, L2, L5, rng1, rng2]
theorem loop_all (hw : Fu wt) (hd : 7 ≤ d) (ns : List Int) (sz t b : Int) (q : Rat) (zt : szI t ≤ 136) (zb : szI b ≤ 136) (za : szI q.num ≤ 136) (zd : szI (q.den : Int) ≤ 136) : ∀ (xs : List Int) (p : O) (st : Option (Int × List Nat × Int)),
    ∃ p' st', forLoop (forT (.var 7) (exSs G (callD G wt d) wt loopB)) (xs.map D.int) (encL ns sz t b q p st) = .next (encL ns sz t b q p' st')
  | [], p, st => ⟨p, st, rfl⟩
  | x :: xs, p, st => by
    obtain ⟨p1, st1, e⟩ := turn_loop hw hd ns sz t b q zt zb za zd p st x
    obtain ⟨p2, st2, e2⟩ := loop_all hw hd ns sz t b q zt zb za zd xs p1 (some st1)
    refine ⟨p2, st2, ?_⟩
    rw [List.map_cons, for_cons, e]
    exact e2
def big : Int := 10000000000000000000000000000000000000000
theorem big_sz {z : Int} (h1 : -big ≤ z) (h2 : z ≤ big) : szI z ≤ 136 := by
  refine szI_lt.mpr ⟨by decide, ?_⟩
  have : (2 : Nat) ^ 136 = 87112285931760246646623899502532662132736 := by decide
  unfold big at h1 h2
  omega
theorem told_emp (hw : Fu wt) (hd : 5 ≤ d) : callD G wt d 16 [ow (.str (mkS []))] = .ret (.d (.lst [.str "text", .int 0])) [] ∧ callD G wt d 16 [ow (.str (mkS [49, 47]))] = .ret (.d (.lst [.str "text", .int 1])) [] := by
  obtain ⟨n, rfl⟩ : ∃ n, d = n + 1 := ⟨d - 1, by omega⟩
  constructor
  · exact run_told_bad (by omega) ((run_words (d := n) hw (by omega) [] (by decide)).1 [] [] (parts_one (w := []) (by decide)) (.inl (by decide))).1
  · exact run_told_bad (by omega) ((run_words (d := n) hw (by omega) [49, 47] (by decide)).2.2.1 [49] [] (parts_two (w := [49]) (u := []) (by decide) (by decide)) (by decide) (.inl (by decide))).1
theorem c_one : (Str.ofString "1/") = mkS [49, 47] := by kernel_rfl
theorem run_law (hw : Fu wt) (hd : 9 ≤ d) (ns : List Int) (hn : ns.length ≤ 63) : callD G wt d 19 [ow (.scr ns)] = .ret (.d (.bl true)) [] := by
  obtain ⟨n, rfl⟩ : ∃ n, d = n + 1 := ⟨d - 1, by omega⟩
  obtain ⟨i0, A0⟩ := run_at (wt := wt) (d := n) (by omega) ns 0
  obtain ⟨i1, A1⟩ := run_at (wt := wt) (d := n) (by omega) ns 1
  have A0 : callD G wt n 13 [ow (.scr ns), ow (.int 0)] = .ret (.d (.int i0)) [] := A0
  have A1 : callD G wt n 13 [ow (.scr ns), ow (.int 1)] = .ret (.d (.int i1)) [] := A1
  have hbag := run_bag (wt := wt) (d := n) (by omega) i0
  generalize decide (1000000000000000000 ≤ i0) = f at hbag
  obtain ⟨r, c1, r0, r5, e1⟩ := run_draw (wt := wt) (d := n) (by omega) i0 0 f 4 (by decide) (by decide)
  obtain ⟨y, rfl⟩ := Int.eq_ofNat_of_zero_le r0
  have hy : y < 4 := by omega
  have pl : place 4 (y : Int) = some y := by
    unfold place
    rw [if_pos (by omega), if_pos (by omega)]
    simp
  have hsel : ∃ s : Int, 3 ≤ s ∧ s ≤ big ∧ ([D.int 3, D.int 50, D.int 1000000000, D.int 10000000000000000000000000000000000000000] : List D)[y]? = some (.int s) := by
    have : y = 0 ∨ y = 1 ∨ y = 2 ∨ y = 3 := by omega
    rcases this with rfl | rfl | rfl | rfl
    · exact ⟨3, by decide, by decide, rfl⟩
    · exact ⟨50, by decide, by decide, rfl⟩
    · exact ⟨1000000000, by decide, by decide, rfl⟩
    · exact ⟨10000000000000000000000000000000000000000, by decide, by decide, rfl⟩
  obtain ⟨s, s3, sb, hsel⟩ := hsel
  have zs : szI s ≤ 136 := big_sz (by unfold big at *; omega) sb
  have zs2 : szI (2 * s + 1) ≤ 140 := by
    refine szI_lt.mpr ⟨by decide, ?_⟩
    have : (2 : Nat) ^ 140 = 1393796574908163946345982392040522594123776 := by decide
    unfold big at sb
    omega
  generalize (0 : Int) + 1 = k1 at e1
  obtain ⟨r2, c2, g0, g1, e2⟩ := run_draw (wt := wt) (d := n) (by omega) c1 k1 f (2 * s + 1) (by omega) (by unfold szI at zs2; omega)
  generalize k1 + 1 = k2 at e2
  obtain ⟨r3, c3, h0, h1, e3⟩ := run_draw (wt := wt) (d := n) (by omega) c2 k2 f s (by omega) (by unfold szI at zs; omega)
  generalize k2 + 1 = k3 at e3
  have zt : szI (r2 - s) ≤ 136 := big_sz (by omega) (by omega)
  have zb : szI (1 + r3) ≤ 136 := big_sz (by unfold big; omega) (by omega)
  have hb : 0 < 1 + r3 := by omega
  generalize ht : r2 - s = t at zt
  generalize hbb : 1 + r3 = b at zb hb
  have m2 : mulOk 2 s = true := by unfold mulOk; simp
  have K := mk_run (wt := wt) (d := n) hw (by omega) (t := t) (b := b) (by omega) (by omega)
  have ds := divInt_sz (t := t) (show b ≠ 0 by omega)
  have R2 := read_two (wt := wt) (d := n) hw (by omega) (a := t) hb zt zb
  generalize Rat.divInt t b = q at *
  have za : szI q.num ≤ 136 := by omega
  have zd : szI (q.den : Int) ≤ 136 := by omega
  have R1 := read_str (wt := wt) (d := n) hw (by omega) za zd
  have S := stoV_R (wt := wt) (d := n) (by omega) (q := q) (by omega) (by omega)
  have gt := log_of (i := t) (by omega)
  have gb := log_of (i := b) (by omega)
  have gn := log_of (i := q.num) (by omega)
  have gd : q.den.log2 < 1920 := log_of (i := (q.den : Int)) (by omega)
  have l1 := len136 zt
  have l2 := len136 zb
  have l3 := len136 za
  have l4 := len136 zd
  have L1 : (numI t).length + 1 ≤ lineN := by unfold lineN; omega
  have L2 : (numI t).length + 1 + (numI b).length ≤ lineN := by unfold lineN; omega
  have L3 : (numI q.num).length + 1 ≤ lineN := by unfold lineN; omega
  have L4 : (numI q.num).length + 1 + (numI (q.den : Int)).length ≤ lineN := by unfold lineN; omega
  have lq : 4 ≤ lineN := by decide
  have C := cmp_R (wt := wt) (d := n) (by omega) q q
  have gg : decide (q = q) = true := by simp
  rw [gg] at C
  obtain ⟨T1, T2⟩ := told_emp (wt := wt) (d := n) hw (by omega)
  have L5 : (cutL ns (some 2) (some 9)).length + 1 ≤ lineN := by
    have : (cutL ns (some 2) (some 9)).length ≤ ns.length := by
      unfold cutL
      rw [List.length_drop, List.length_take]
      omega
    unfold lineN
    omega
  obtain ⟨p', st', LP⟩ := loop_all (wt := wt) (d := n) hw (by omega) ns s t b q zt zb za zd (i1 :: cutL ns (some 2) (some 9)) (poolO c3 k3 f) none
  rw [call_eq (D := f19) rfl rfl rfl rfl]
  simp only [List.map_cons] at LP
  have BL : ∀ xs, biV .list (.d (.lst xs)) = some (.lst xs) := fun _ => rfl
  have u1 : 1 ≤ lineN ∧ 2 ≤ lineN := by decide
  have L6 : 1 + (cutL ns (some 2) (some 9)).length ≤ lineN := by omega
  unfold loopB at LP
  simp only [encL, List.cons_append, List.nil_append, c_slash] at LP
  by_cases c : q.den = 1
  · have hs : strR q = numI q.num := by unfold strR; rw [if_pos c]
    have c' : (q.den : Int) = 1 := by omega
    have h2 : decide (strR q = numI q.num) = true := by simp [hs]
    simp [f19, f19_body, f13, f11, f12, f3, f4, f16, A0, A1, hbag, e1, e2, e3, pl, hsel, lq, m2, ht, hbb, K, S, c', gn, num_str, num_rep, h2, gt, gb, c_slash, app_mk, len_mk, L1, L2, R1, R2, C, L5, L6, LP, T1, T2, c_emp, c_one, eq_told, slcV, BL, u1]
  · have hs : strR q = numI q.num ++ 47 :: numI q.den := by unfold strR; rw [if_neg c]
    have c' : ¬ (q.den : Int) = 1 := by omega
    have c2 : (1 : Int) < q.den := by have := q.den_pos; omega
    have h2 : decide (strR q = numI q.num ++ 47 :: numI q.den) = true := by simp [hs]
    simp [f19, f19_body, f13, f11, f12, f3, f4, f16, A0, A1, hbag, e1, e2, e3, pl, hsel, lq, m2, ht, hbb, K, S, c', c2, gn, gd, num_str, num_rep, h2, gt, gb, c_slash, app_mk, len_mk, L1, L2, L3, L4, R1, R2, C, L5, L6, LP, T1, T2, c_emp, c_one, eq_told, slcV, BL, u1]
end
theorem pure_law : ∀ ns : List Int, ns.length ≤ 63 → ∃ wt, callD G wt 10 19 [owned (.scr ns)] = .ret (.d (.bl true)) [] :=
  fun ns hn => ⟨2 ^ szMax, run_law (Nat.le_refl _) (by decide) ns hn⟩
end Tf.P
end
set_option Elab.async false
set_option linter.all false
theorem PySem.Challenge.cw_truthfees_k12_texts_of_fractions_holds : PySem.Challenge.rw_truthfees_k12_texts_of_fractions.Holds := by
  exact Tf.P.law_of 9 ⟨rfl, by decide, by decide⟩ Tf.P.pure_law
