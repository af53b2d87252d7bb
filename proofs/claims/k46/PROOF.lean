import PyProof.Rows.All
import Wide.All
import OpenK.AllK
import Wide.FinOn
import HandS.ForMost
import HandS.Property
import HandS.Zip
import HandS.WideBits
import HandS.FStr
import HandS.TupAny
import HandS.IsInst
import KE.GoesNew
import KE.KDictDisplayH
import HandS.Strs
import HandS.Walk
import PySem.Challenge.RW_raisedwreck_k46_whole_stripes
set_option Elab.async false
set_option linter.all false
set_option linter.all false
/-! the sketches' mathematics, in plain Lean -/
namespace Raised
abbrev Sk := List Nat
def at0 (s : Sk) (i : Nat) : Nat := s.getD i 0

/-- the cell by cell meet -/
def meetL (a b : Sk) : Sk := List.zipWith (fun x y => x &&& y) a b
def meetO (a b : Sk) : Option Sk := if 0 ∈ meetL a b then none else some (meetL a b)
def splitB (a both : Sk) (i : Nat) : Option Sk :=
  if at0 a i ^^^ at0 both i = 0 then none else some (both.take i ++ [at0 a i ^^^ at0 both i] ++ a.drop (i + 1))
def splitS (a b : Sk) : List Sk := match meetO a b with
  | none => [a]
  | some both => (List.range a.length).filterMap (splitB a both)
def withoutS (a : Sk) (piece : List Sk) : List Sk := piece.foldl (fun parts s => parts.flatMap fun o => splitS o s) [a]

structure Deed where
  guard : List (Nat × Nat)
  changes : List (Nat × Nat)
deriving DecidableEq, Repr

/-- set one after the other -/
def setAll (ps : List (Nat × Nat)) (s : Sk) : Sk := ps.foldl (fun s p => s.set p.1 p.2) s
def fullAll (full : Sk) (ps : List (Nat × Nat)) (s : Sk) : Sk := ps.foldl (fun s p => s.set p.1 (at0 full p.1)) s
def andAll (ps : List (Nat × Nat)) (s : Sk) : Sk := ps.foldl (fun s p => s.set p.1 (at0 s p.1 &&& p.2)) s
def beforeS (full s : Sk) (d : Deed) : Option Sk :=
  if d.changes.all (fun p => (at0 s p.1).testBit p.2) then
    (if 0 ∈ andAll d.guard (fullAll full d.changes s) then none else some (andAll d.guard (fullAll full d.changes s)))
  else none

/-! ### a disk in a sketch -/
def has (s : Sk) (d : List Nat) : Prop := s.length = d.length ∧ ∀ i, i < d.length → (at0 s i).testBit (at0 d i) = true
instance (s d) : Decidable (has s d) := by unfold has; exact inferInstance

theorem at0_set (s : Sk) (c x i : Nat) (hc : c < s.length) : at0 (s.set c x) i = if i = c then x else at0 s i := by
  unfold at0
  rw [List.getD_eq_getElem?_getD, List.getD_eq_getElem?_getD, List.getElem?_set]
  by_cases h : c = i
  · subst h; simp [hc]
  · have h2 : ¬ i = c := fun e => h e.symm
    simp [h, h2]
theorem andAll_len : ∀ (ps : List (Nat × Nat)) (s : Sk), (andAll ps s).length = s.length
  | [], s => rfl
  | p :: ps, s => by
    show (andAll ps (s.set p.1 (at0 s p.1 &&& p.2))).length = s.length
    rw [andAll_len ps]; simp
theorem fullAll_len (full : Sk) : ∀ (ps : List (Nat × Nat)) (s : Sk), (fullAll full ps s).length = s.length
  | [], s => rfl
  | p :: ps, s => by
    show (fullAll full ps (s.set p.1 (at0 full p.1))).length = s.length
    rw [fullAll_len full ps]; simp
theorem setAll_len : ∀ (ps : List (Nat × Nat)) (s : Sk), (setAll ps s).length = s.length
  | [], s => rfl
  | p :: ps, s => by
    show (setAll ps (s.set p.1 p.2)).length = s.length
    rw [setAll_len ps]; simp
theorem at0_andAll : ∀ (ps : List (Nat × Nat)) (s : Sk) (i x : Nat), (∀ p ∈ ps, p.1 < s.length) →
    (at0 (andAll ps s) i).testBit x = ((at0 s i).testBit x && ps.all fun p => !decide (p.1 = i) || p.2.testBit x)
  | [], s, i, x, _ => by simp [andAll]
  | p :: ps, s, i, x, h => by
    have hp : p.1 < s.length := h p List.mem_cons_self
    show (at0 (andAll ps (s.set p.1 (at0 s p.1 &&& p.2))) i).testBit x = _
    rw [at0_andAll ps _ i x (fun q hq => by rw [List.length_set]; exact h q (List.mem_cons_of_mem _ hq)), at0_set _ _ _ _ hp, List.all_cons]
    by_cases e : i = p.1
    · subst e
      simp [Bool.and_assoc]
    · have e2 : ¬ p.1 = i := fun q => e q.symm
      simp [e, e2]
theorem at0_fullAll (full : Sk) : ∀ (ps : List (Nat × Nat)) (s : Sk) (i : Nat), (∀ p ∈ ps, p.1 < s.length) →
    at0 (fullAll full ps s) i = if ps.any (fun p => decide (p.1 = i)) then at0 full i else at0 s i
  | [], s, i, _ => by simp [fullAll]
  | p :: ps, s, i, h => by
    have hp : p.1 < s.length := h p List.mem_cons_self
    show at0 (fullAll full ps (s.set p.1 (at0 full p.1))) i = _
    rw [at0_fullAll full ps _ i (fun q hq => by rw [List.length_set]; exact h q (List.mem_cons_of_mem _ hq)), at0_set _ _ _ _ hp, List.any_cons]
    by_cases e : i = p.1
    · subst e; simp
    · have e2 : ¬ p.1 = i := fun q => e q.symm
      rw [if_neg e, decide_eq_false e2, Bool.false_or]
theorem at0_setAll_out : ∀ (ps : List (Nat × Nat)) (s : Sk) (i : Nat), (∀ p ∈ ps, p.1 < s.length) → (∀ p ∈ ps, p.1 ≠ i) → at0 (setAll ps s) i = at0 s i
  | [], s, i, _, _ => rfl
  | p :: ps, s, i, h, n => by
    have hp : p.1 < s.length := h p List.mem_cons_self
    show at0 (setAll ps (s.set p.1 p.2)) i = _
    rw [at0_setAll_out ps _ i (fun q hq => by rw [List.length_set]; exact h q (List.mem_cons_of_mem _ hq)) (fun q hq => n q (List.mem_cons_of_mem _ hq)), at0_set _ _ _ _ hp, if_neg (fun e => n p List.mem_cons_self e.symm)]
theorem at0_setAll_in : ∀ (ps : List (Nat × Nat)) (s : Sk), (∀ p ∈ ps, p.1 < s.length) → (ps.map (·.1)).Nodup → ∀ p ∈ ps, at0 (setAll ps s) p.1 = p.2
  | [], s, _, _, p, hp => nomatch hp
  | q :: ps, s, h, n, p, hp => by
    have hq : q.1 < s.length := h q List.mem_cons_self
    rw [List.map_cons, List.nodup_cons] at n
    have h' : ∀ r ∈ ps, r.1 < (s.set q.1 q.2).length := fun r hr => by rw [List.length_set]; exact h r (List.mem_cons_of_mem _ hr)
    show at0 (setAll ps (s.set q.1 q.2)) p.1 = _
    rcases List.mem_cons.mp hp with rfl | hp'
    · rw [at0_setAll_out ps _ p.1 h' (fun r hr e => n.1 (List.mem_map.mpr ⟨r, hr, e⟩)), at0_set _ _ _ _ hq, if_pos rfl]
    · exact at0_setAll_in ps _ h' n.2 p hp'

/-- a deed is done on a disk -/
def doable (D : Deed) (d : List Nat) : Prop := ∀ p ∈ D.guard, p.2.testBit (at0 d p.1) = true
instance (D d) : Decidable (doable D d) := by unfold doable; exact inferInstance
structure DeedOk (n : Nat) (D : Deed) : Prop where
  g : ∀ p ∈ D.guard, p.1 < n
  c : ∀ p ∈ D.changes, p.1 < n
  nd : (D.changes.map (·.1)).Nodup

theorem mem_zero {l : List Nat} : 0 ∈ l ↔ ∃ i, i < l.length ∧ at0 l i = 0 := by
  constructor
  · intro h
    obtain ⟨i, hi, e⟩ := List.mem_iff_getElem.mp h
    exact ⟨i, hi, by unfold at0; rw [List.getD_eq_getElem?_getD, List.getElem?_eq_getElem hi]; simpa using e⟩
  · rintro ⟨i, hi, e⟩
    unfold at0 at e
    rw [List.getD_eq_getElem?_getD, List.getElem?_eq_getElem hi] at e
    rw [← show l[i] = 0 by simpa using e]
    exact List.getElem_mem hi

/-- the sketch before a deed: its disks -/
theorem beforeS_has {full s : Sk} {D : Deed} {d : List Nat} (ok : DeedOk s.length D) (hd : has full d) (hl : s.length = d.length) :
    (∃ e, beforeS full s D = some e ∧ has e d) ↔ (doable D d ∧ has s (setAll D.changes d)) := by
  have hg : ∀ p ∈ D.guard, p.1 < (fullAll full D.changes s).length := fun p hp => by rw [fullAll_len]; exact ok.g p hp
  have ml : (andAll D.guard (fullAll full D.changes s)).length = d.length := by rw [andAll_len, fullAll_len, hl]
  have key : ∀ i, (at0 (andAll D.guard (fullAll full D.changes s)) i).testBit (at0 d i) =
      ((if D.changes.any (fun p => decide (p.1 = i)) then (at0 full i).testBit (at0 d i) else (at0 s i).testBit (at0 d i)) && D.guard.all fun p => !decide (p.1 = i) || p.2.testBit (at0 d i)) := fun i => by
    rw [at0_andAll _ _ _ _ hg, at0_fullAll full _ _ _ ok.c]
    split <;> rfl
  constructor
  · rintro ⟨e, he, hs⟩
    unfold beforeS at he
    split at he
    · rename_i hall
      split at he
      · cases he
      · cases he
        refine ⟨fun p hp => ?_, ?_, fun i hi => ?_⟩
        · have hlt : p.1 < d.length := by rw [← hl]; exact ok.g p hp
          have := hs.2 p.1 hlt
          rw [key, Bool.and_eq_true] at this
          have := List.all_eq_true.mp this.2 p hp
          simpa using this
        · rw [setAll_len, hl]
        · rw [setAll_len] at hi
          by_cases hc : ∃ p ∈ D.changes, p.1 = i
          · obtain ⟨p, hp, rfl⟩ := hc
            rw [at0_setAll_in D.changes d (fun q hq => by rw [← hl]; exact ok.c q hq) ok.nd p hp]
            exact List.all_eq_true.mp hall p hp
          · have hn : ∀ p ∈ D.changes, p.1 ≠ i := fun p hp e => hc ⟨p, hp, e⟩
            rw [at0_setAll_out D.changes d i (fun q hq => by rw [← hl]; exact ok.c q hq) hn]
            have := hs.2 i hi
            rw [key, Bool.and_eq_true] at this
            have hany : D.changes.any (fun p => decide (p.1 = i)) = false := by
              rw [List.any_eq_false]
              intro p hp
              simpa using hn p hp
            rw [hany] at this
            exact this.1
    · cases he
  · rintro ⟨hdo, hs⟩
    have hmask : has (andAll D.guard (fullAll full D.changes s)) d := by
      refine ⟨ml, fun i hi => ?_⟩
      rw [key, Bool.and_eq_true]
      constructor
      · by_cases hc : ∃ p ∈ D.changes, p.1 = i
        · obtain ⟨p, hp, rfl⟩ := hc
          have hany : D.changes.any (fun q => decide (q.1 = p.1)) = true := List.any_eq_true.mpr ⟨p, hp, by simp⟩
          rw [hany]
          exact hd.2 _ hi
        · have hn : ∀ p ∈ D.changes, p.1 ≠ i := fun p hp e => hc ⟨p, hp, e⟩
          have hany : D.changes.any (fun p => decide (p.1 = i)) = false := by
            rw [List.any_eq_false]
            intro p hp
            simpa using hn p hp
          rw [hany]
          have := hs.2 i (by rw [setAll_len]; exact hi)
          rw [at0_setAll_out D.changes d i (fun q hq => by rw [← hl]; exact ok.c q hq) hn] at this
          exact this
      · rw [List.all_eq_true]
        intro p hp
        by_cases e : p.1 = i
        · subst e
          have := hdo p hp
          simp [this]
        · simp [e]
    refine ⟨_, ?_, hmask⟩
    unfold beforeS
    rw [if_pos, if_neg]
    · rw [mem_zero]
      rintro ⟨i, hi, e⟩
      rw [ml] at hi
      have := hmask.2 i hi
      rw [e, Nat.zero_testBit] at this
      cases this
    · rw [List.all_eq_true]
      intro p hp
      have hlt : p.1 < d.length := by rw [← hl]; exact ok.c p hp
      have := hs.2 p.1 (by rw [setAll_len]; exact hlt)
      rw [at0_setAll_in D.changes d (fun q hq => by rw [← hl]; exact ok.c q hq) ok.nd p hp] at this
      exact this
end Raised
set_option linter.all false
namespace Raised
def packF (p : Nat) (s : Sk) : Nat := s.foldl (fun p m => p <<< 16 ||| m) p
def pack (s : Sk) : Nat := packF 0 s
def small (s : Sk) : Prop := ∀ m ∈ s, m < 2 ^ 16

theorem two16 {p m q n : Nat} (hm : m < 2 ^ 16) (hn : n < 2 ^ 16) (h : p <<< 16 ||| m = q <<< 16 ||| n) : p = q ∧ m = n := by
  have e1 : p <<< 16 ||| m = 2 ^ 16 * p + m := by rw [Nat.shiftLeft_eq, Nat.mul_comm, Nat.two_pow_add_eq_or_of_lt hm]
  have e2 : q <<< 16 ||| n = 2 ^ 16 * q + n := by rw [Nat.shiftLeft_eq, Nat.mul_comm, Nat.two_pow_add_eq_or_of_lt hn]
  rw [e1, e2] at h
  omega
theorem and16 {p m q n : Nat} (hm : m < 2 ^ 16) (hn : n < 2 ^ 16) : (p <<< 16 ||| m) &&& (q <<< 16 ||| n) = (p &&& q) <<< 16 ||| (m &&& n) := by
  apply Nat.eq_of_testBit_eq
  intro i
  simp only [Nat.testBit_and, Nat.testBit_or, Nat.testBit_shiftLeft]
  by_cases hi : 16 ≤ i
  · have h1 : m.testBit i = false := Nat.testBit_lt_two_pow (Nat.lt_of_lt_of_le hm (Nat.pow_le_pow_right (by decide) hi))
    have h2 : n.testBit i = false := Nat.testBit_lt_two_pow (Nat.lt_of_lt_of_le hn (Nat.pow_le_pow_right (by decide) hi))
    simp [h1, h2, hi]
  · simp [hi]
theorem packF_and : ∀ (s t : Sk) (p q : Nat), s.length = t.length → small s → small t → packF p s &&& packF q t = packF (p &&& q) (meetL s t)
  | [], [], p, q, _, _, _ => rfl
  | m :: s, n :: t, p, q, hl, hs, ht => by
    have hm := hs m List.mem_cons_self
    have hn := ht n List.mem_cons_self
    show packF (p <<< 16 ||| m) s &&& packF (q <<< 16 ||| n) t = packF ((p &&& q) <<< 16 ||| (m &&& n)) (meetL s t)
    rw [packF_and s t _ _ (by simpa using hl) (fun x hx => hs x (List.mem_cons_of_mem _ hx)) (fun x hx => ht x (List.mem_cons_of_mem _ hx)), and16 hm hn]
  | [], _ :: _, _, _, hl, _, _ => by simp at hl
  | _ :: _, [], _, _, hl, _, _ => by simp at hl
theorem packF_inj : ∀ (s t : Sk) (p q : Nat), s.length = t.length → small s → small t → packF p s = packF q t → p = q ∧ s = t
  | [], [], p, q, _, _, _, h => ⟨h, rfl⟩
  | m :: s, n :: t, p, q, hl, hs, ht, h => by
    have hm := hs m List.mem_cons_self
    have hn := ht n List.mem_cons_self
    obtain ⟨e1, e2⟩ := packF_inj s t (p <<< 16 ||| m) (q <<< 16 ||| n) (by simpa using hl) (fun x hx => hs x (List.mem_cons_of_mem _ hx)) (fun x hx => ht x (List.mem_cons_of_mem _ hx)) h
    obtain ⟨e3, e4⟩ := two16 hm hn e1
    exact ⟨e3, by rw [e4, e2]⟩
  | [], _ :: _, _, _, hl, _, _, _ => by simp at hl
  | _ :: _, [], _, _, hl, _, _, _ => by simp at hl
theorem small_meet : ∀ {s t : Sk}, small s → small (meetL s t)
  | [], t, h => by unfold meetL; simp [small]
  | m :: s, [], h => by unfold meetL; simp [small]
  | m :: s, n :: t, h => fun x hx => by
    have hx : x ∈ (m &&& n) :: meetL s t := hx
    rcases List.mem_cons.mp hx with rfl | hx
    · exact Nat.lt_of_le_of_lt Nat.and_le_left (h m List.mem_cons_self)
    · exact small_meet (s := s) (t := t) (fun y hy => h y (List.mem_cons_of_mem _ hy)) x hx
theorem meetL_len {s t : Sk} (h : s.length = t.length) : (meetL s t).length = s.length := by
  unfold meetL; rw [List.length_zipWith, h, Nat.min_self]
/-- included, as the packed masks say it -/
def incl (s t : Sk) : Prop := meetL s t = s
instance (s t) : Decidable (incl s t) := by unfold incl; exact inferInstance
theorem pack_incl {s t : Sk} (hl : s.length = t.length) (hs : small s) (ht : small t) : (pack s &&& pack t = pack s) ↔ incl s t := by
  unfold pack
  rw [packF_and s t 0 0 hl hs ht, Nat.and_self]
  constructor
  · intro h
    exact (packF_inj _ _ _ _ (meetL_len hl) (small_meet hs) hs h).2
  · intro h
    rw [show meetL s t = s from h]
theorem at0_meetL : ∀ {s t : Sk} (i : Nat), s.length = t.length → at0 (meetL s t) i = at0 s i &&& at0 t i
  | [], [], i, _ => by simp [meetL, at0]
  | m :: s, n :: t, 0, _ => rfl
  | m :: s, n :: t, i + 1, h => by
    have := at0_meetL (s := s) (t := t) i (by simpa using h)
    exact this
  | [], _ :: _, _, hl => by simp at hl
  | _ :: _, [], _, hl => by simp at hl
theorem incl_refl (s : Sk) : incl s s := by
  unfold incl meetL
  rw [List.zipWith_self]
  simp
theorem incl_has {s t : Sk} {d : List Nat} (hl : s.length = t.length) (h : incl s t) (hd : has s d) : has t d := by
  refine ⟨by rw [← hl]; exact hd.1, fun i hi => ?_⟩
  have := hd.2 i hi
  rw [← show meetL s t = s from h, at0_meetL i hl, Nat.testBit_and, Bool.and_eq_true] at this
  exact this.2
theorem meet_has {s t : Sk} {d : List Nat} (hl : s.length = t.length) : has (meetL s t) d ↔ has s d ∧ has t d := by
  constructor
  · intro h
    have e : s.length = d.length := by rw [← meetL_len hl]; exact h.1
    refine ⟨⟨e, fun i hi => ?_⟩, ⟨by rw [← hl]; exact e, fun i hi => ?_⟩⟩
    all_goals
      have := h.2 i hi
      rw [at0_meetL i hl, Nat.testBit_and, Bool.and_eq_true] at this
    · exact this.1
    · exact this.2
  · rintro ⟨h1, h2⟩
    refine ⟨by rw [meetL_len hl]; exact h1.1, fun i hi => ?_⟩
    rw [at0_meetL i hl, Nat.testBit_and, h1.2 i hi, h2.2 i hi]
    rfl
/-- no disk in a sketch that has an empty set -/
theorem no_zero {s : Sk} {d : List Nat} (h : has s d) : ¬ 0 ∈ s := fun hz => by
  obtain ⟨i, hi, e⟩ := mem_zero.mp hz
  have := h.2 i (by rw [← h.1]; exact hi)
  rw [e, Nat.zero_testBit] at this
  cases this
theorem meetO_none {s t : Sk} {d : List Nat} (hl : s.length = t.length) (h : meetO s t = none) : ¬ (has s d ∧ has t d) := fun hh => by
  unfold meetO at h
  split at h
  · rename_i hz
    exact no_zero ((meet_has hl).mpr hh) hz
  · cases h

/-! ### pigeons -/
theorem nodup_len {α : Type} [DecidableEq α] : ∀ {l m : List α}, l.Nodup → (∀ x ∈ l, x ∈ m) → l.length ≤ m.length
  | [], m, _, _ => Nat.zero_le _
  | x :: l, m, hn, hs => by
    rw [List.nodup_cons] at hn
    have hx := hs x List.mem_cons_self
    have := nodup_len (l := l) (m := m.erase x) hn.2 fun y hy => (List.mem_erase_of_ne (fun e => hn.1 (by rw [← e]; exact hy))).mpr (hs y (List.mem_cons_of_mem _ hy))
    rw [List.length_erase_of_mem hx] at this
    have := List.length_pos_of_mem hx
    simp only [List.length_cons]
    omega
/-! ### the search -/
structure Srch where
  sk : List Sk
  org : List (Option (Nat × Nat))
  found : Option Nat
deriving DecidableEq
structure Mach where
  full : Sk
  first : Sk
  deeds : List Deed
def placeAt (S : Srch) (s : Sk) : Option Nat := (S.sk.map pack).findIdx? fun q => decide (pack s &&& q = pack s)
def place (first : Sk) (S : Srch) (s : Sk) (o : Option (Nat × Nat)) : Srch := match placeAt S s with
  | some _ => S
  | none => ⟨S.sk ++ [s], S.org ++ [o], if S.found = none ∧ meetO s first ≠ none then some S.sk.length else S.found⟩
def placeIx (S : Srch) (s : Sk) : Nat := (placeAt S s).getD S.sk.length
def stepTo (M : Mach) (S : Srch) (n d : Nat) : Srch := match beforeS M.full (S.sk.getD n []) (M.deeds.getD d ⟨[], []⟩) with
  | none => S
  | some e => place M.first S e (some (d, n))
def rowTo (M : Mach) (S : Srch) (n : Nat) : Nat → Srch
  | 0 => S
  | k + 1 => stepTo M (rowTo M S n k) n k
def start (M : Mach) (part : Sk) : Srch := place M.first ⟨[], [], none⟩ part none
def runTo (M : Mach) (part : Sk) : Nat → Srch
  | 0 => start M part
  | t + 1 => rowTo M (runTo M part t) t M.deeds.length

/-- the sketches of a machine -/
structure Good (M : Mach) (s : Sk) : Prop where
  len : s.length = M.full.length
  pos : ¬ 0 ∈ s
  le : incl s M.full
structure MachOk (M : Mach) : Prop where
  small : small M.full
  first : Good M M.first
  deeds : ∀ D ∈ M.deeds, DeedOk M.full.length D
  vals : ∀ D ∈ M.deeds, ∀ p ∈ D.changes, (at0 M.full p.1).testBit p.2 = true
theorem Good.small {M : Mach} {s : Sk} (ok : MachOk M) (g : Good M s) : Raised.small s := by
  rw [← show meetL s M.full = s from g.le]
  intro m hm
  obtain ⟨i, hi, e⟩ := List.mem_iff_getElem.mp hm
  have hl : i < s.length := by rw [← meetL_len g.len]; exact hi
  have e2 : at0 (meetL s M.full) i = m := by unfold at0; rw [List.getD_eq_getElem?_getD, List.getElem?_eq_getElem hi]; simpa using e
  rw [at0_meetL i g.len] at e2
  have hf : i < M.full.length := by rw [← g.len]; exact hl
  have e3 : at0 M.full i = M.full[i] := by unfold at0; rw [List.getD_eq_getElem?_getD, List.getElem?_eq_getElem hf]; rfl
  have := ok.small _ (List.getElem_mem hf)
  rw [← e3] at this
  rw [← e2]
  exact Nat.lt_of_le_of_lt Nat.and_le_right this
inductive Reach (M : Mach) : List Nat → Prop
  | first {d} (h : has M.first d) : Reach M d
  | step {d} {D : Deed} (h : Reach M d) (hD : D ∈ M.deeds) (hd : doable D d) : Reach M (setAll D.changes d)
end Raised
set_option linter.all false
namespace Raised
theorem getD_at {α : Type} {l : List α} {i : Nat} {x : α} (h : i < l.length) : l.getD i x = l[i] := by
  rw [List.getD_eq_getElem?_getD, List.getElem?_eq_getElem h]; rfl
theorem getD_app {α : Type} {l m : List α} {i : Nat} {x : α} (h : i < l.length) : (l ++ m).getD i x = l.getD i x := by
  rw [List.getD_eq_getElem?_getD, List.getD_eq_getElem?_getD, List.getElem?_append_left h]
theorem getD_last {α : Type} {l : List α} {x y : α} : (l ++ [y]).getD l.length x = y := by
  rw [List.getD_eq_getElem?_getD, List.getElem?_append_right (Nat.le_refl _)]; simp
theorem getD_mem {α : Type} {l : List α} {i : Nat} {x : α} (h : i < l.length) : l.getD i x ∈ l := by
  rw [getD_at h]; exact List.getElem_mem h
theorem Good.incl_trans {s t u : Sk} (h1 : s.length = t.length) (h2 : t.length = u.length) (a : incl s t) (b : incl t u) : incl s u := by
  unfold incl at *
  apply List.ext_getElem?
  intro i
  have key : ∀ (x : Sk) (j : Nat), j < x.length → x[j]? = some (at0 x j) := fun x j hj => by
    unfold at0; rw [List.getD_eq_getElem?_getD, List.getElem?_eq_getElem hj]; rfl
  by_cases hi : i < s.length
  · rw [key _ _ (by rw [meetL_len (h1.trans h2)]; exact hi), key _ _ hi, at0_meetL i (h1.trans h2)]
    have e1 : at0 s i &&& at0 t i = at0 s i := by rw [← at0_meetL i h1, a]
    have e2 : at0 t i &&& at0 u i = at0 t i := by rw [← at0_meetL i h2, b]
    rw [← e1, Nat.and_assoc, e2]
  · rw [List.getElem?_eq_none (by rw [meetL_len (h1.trans h2)]; omega), List.getElem?_eq_none (by omega)]
structure SInv (M : Mach) (part : Sk) (S : Srch) : Prop where
  ok : ∀ s ∈ S.sk, Good M s
  lo : S.org.length = S.sk.length
  apart : ∀ i j, i < j → j < S.sk.length → ¬ incl (S.sk.getD j []) (S.sk.getD i [])
  orgN : ∀ k, S.org[k]? = some none → S.sk.getD k [] = part
  orgS : ∀ k d n, S.org[k]? = some (some (d, n)) → n < k ∧ d < M.deeds.length ∧ beforeS M.full (S.sk.getD n []) (M.deeds.getD d ⟨[], []⟩) = some (S.sk.getD k [])
  fndN : S.found = none → ∀ s ∈ S.sk, meetO s M.first = none
  fndS : ∀ k, S.found = some k → k < S.sk.length ∧ meetO (S.sk.getD k []) M.first ≠ none
variable {M : Mach} {part : Sk} {S S' : Srch}
/-- where a sketch is placed -/
theorem placeAt_some (ok : MachOk M) (I : SInv M part S) {s : Sk} (g : Good M s) {n : Nat} (h : placeAt S s = some n) : n < S.sk.length ∧ incl s (S.sk.getD n []) := by
  unfold placeAt at h
  obtain ⟨hn, e, _⟩ := List.findIdx?_eq_some_iff_getElem.mp h
  have hn' : n < S.sk.length := by simpa using hn
  refine ⟨hn', ?_⟩
  rw [List.getElem_map] at e
  have g2 := I.ok _ (List.getElem_mem hn')
  rw [getD_at hn']
  exact (pack_incl (g.len.trans g2.len.symm) (g.small ok) (g2.small ok)).mp (by simpa using e)
theorem placeAt_none (ok : MachOk M) (I : SInv M part S) {s : Sk} (g : Good M s) (h : placeAt S s = none) : ∀ t ∈ S.sk, ¬ incl s t := fun t ht hi => by
  unfold placeAt at h
  rw [List.findIdx?_eq_none_iff] at h
  have := h (pack t) (List.mem_map.mpr ⟨t, ht, rfl⟩)
  have g2 := I.ok t ht
  simp [(pack_incl (g.len.trans g2.len.symm) (g.small ok) (g2.small ok)).mpr hi] at this
/-- S' goes on from S -/
def Ext (S S' : Srch) : Prop := ∃ more, S'.sk = S.sk ++ more
theorem Ext.refl (S : Srch) : Ext S S := ⟨[], by simp⟩
theorem Ext.trans {A B C : Srch} (h : Ext A B) (g : Ext B C) : Ext A C := by
  obtain ⟨x, hx⟩ := h
  obtain ⟨y, hy⟩ := g
  exact ⟨x ++ y, by rw [hy, hx, List.append_assoc]⟩
theorem Ext.len (h : Ext S S') : S.sk.length ≤ S'.sk.length := by
  obtain ⟨x, hx⟩ := h
  rw [hx, List.length_append]; omega
theorem Ext.at_ (h : Ext S S') {i : Nat} (hi : i < S.sk.length) : S'.sk.getD i [] = S.sk.getD i [] := by
  obtain ⟨x, hx⟩ := h
  rw [hx, getD_app hi]
theorem Ext.mem (h : Ext S S') {s : Sk} (hs : s ∈ S.sk) : s ∈ S'.sk := by
  obtain ⟨x, hx⟩ := h
  rw [hx]; exact List.mem_append_left _ hs
theorem place_ext (s : Sk) (o : Option (Nat × Nat)) : Ext S (place M.first S s o) := by
  unfold place
  split
  · exact .refl _
  · exact ⟨[s], rfl⟩
theorem place_in (ok : MachOk M) (I : SInv M part S) {s : Sk} (g : Good M s) (o : Option (Nat × Nat)) : placeIx S s < (place M.first S s o).sk.length ∧ incl s ((place M.first S s o).sk.getD (placeIx S s) []) := by
  unfold placeIx
  cases h : placeAt S s with
  | some n =>
    obtain ⟨h1, h2⟩ := placeAt_some ok I g h
    have e := place_ext (M := M) (S := S) s o
    exact ⟨Nat.lt_of_lt_of_le h1 e.len, by rw [e.at_ (show (some n).getD S.sk.length < S.sk.length from h1)]; exact h2⟩
  | none =>
    unfold place
    rw [h]
    refine ⟨by simp, ?_⟩
    show incl s ((S.sk ++ [s]).getD S.sk.length [])
    rw [getD_last]
    exact incl_refl s
theorem place_inv (ok : MachOk M) (I : SInv M part S) {s : Sk} (g : Good M s) {o : Option (Nat × Nat)} (hN : o = none → s = part)
    (hS : ∀ d n, o = some (d, n) → n < S.sk.length ∧ d < M.deeds.length ∧ beforeS M.full (S.sk.getD n []) (M.deeds.getD d ⟨[], []⟩) = some s) : SInv M part (place M.first S s o) := by
  unfold place
  cases h : placeAt S s with
  | some n => exact I
  | none =>
    have na := placeAt_none ok I g h
    refine ⟨?_, ?_, ?_, ?_, ?_, ?_, ?_⟩
    · intro t ht
      rcases List.mem_append.mp ht with ht | ht
      · exact I.ok t ht
      · rw [List.mem_singleton] at ht; rw [ht]; exact g
    · show (S.org ++ [o]).length = (S.sk ++ [s]).length
      simp [I.lo]
    · intro i j hij hj
      show ¬ incl ((S.sk ++ [s]).getD j []) ((S.sk ++ [s]).getD i [])
      have hj' : j < S.sk.length + 1 := by simpa using hj
      by_cases e : j = S.sk.length
      · subst e
        rw [getD_last, getD_app hij]
        exact na _ (getD_mem hij)
      · rw [getD_app (by omega), getD_app (by omega)]
        exact I.apart i j hij (by omega)
    · intro k hk
      have hk : (S.org ++ [o])[k]? = some none := hk
      show (S.sk ++ [s]).getD k [] = part
      by_cases e : k < S.org.length
      · rw [List.getElem?_append_left e] at hk
        rw [getD_app (by rw [← I.lo]; exact e)]
        exact I.orgN k hk
      · rw [List.getElem?_append_right (by omega)] at hk
        have e2 : k = S.org.length := by
          obtain ⟨hlt, _⟩ := List.getElem?_eq_some_iff.mp hk
          simp at hlt; omega
        subst e2
        simp at hk
        rw [I.lo, getD_last]
        exact hN hk
    · intro k d n hk
      have hk : (S.org ++ [o])[k]? = some (some (d, n)) := hk
      show n < k ∧ d < M.deeds.length ∧ beforeS M.full ((S.sk ++ [s]).getD n []) (M.deeds.getD d ⟨[], []⟩) = some ((S.sk ++ [s]).getD k [])
      by_cases e : k < S.org.length
      · rw [List.getElem?_append_left e] at hk
        obtain ⟨h1, h2, h3⟩ := I.orgS k d n hk
        have hk' : k < S.sk.length := by rw [← I.lo]; exact e
        rw [getD_app (Nat.lt_trans h1 hk'), getD_app hk']
        exact ⟨h1, h2, h3⟩
      · rw [List.getElem?_append_right (by omega)] at hk
        have e2 : k = S.org.length := by
          obtain ⟨hlt, _⟩ := List.getElem?_eq_some_iff.mp hk
          simp at hlt; omega
        subst e2
        simp at hk
        obtain ⟨h1, h2, h3⟩ := hS d n hk
        rw [I.lo, getD_last, getD_app h1]
        exact ⟨h1, h2, h3⟩
    · intro hf0 t ht
      have hf : (if S.found = none ∧ meetO s M.first ≠ none then some S.sk.length else S.found) = none := hf0
      by_cases hc : S.found = none ∧ meetO s M.first ≠ none
      · rw [if_pos hc] at hf; cases hf
      · rw [if_neg hc] at hf
        rcases List.mem_append.mp ht with ht | ht
        · exact I.fndN hf t ht
        · rw [List.mem_singleton] at ht
          rw [ht]
          cases e : meetO s M.first with
          | none => rfl
          | some x => exact absurd ⟨hf, by rw [e]; simp⟩ hc
    · intro k hf
      have hf : (if S.found = none ∧ meetO s M.first ≠ none then some S.sk.length else S.found) = some k := hf
      show k < (S.sk ++ [s]).length ∧ meetO ((S.sk ++ [s]).getD k []) M.first ≠ none
      split at hf
      · rename_i hc
        cases hf
        rw [getD_last]
        exact ⟨by simp, hc.2⟩
      · obtain ⟨h1, h2⟩ := I.fndS k hf
        rw [getD_app h1]
        exact ⟨by simp; omega, h2⟩
theorem sinv_nil : SInv M part ⟨[], [], none⟩ :=
  ⟨fun _ h => (nomatch h), rfl, fun _ j _ h => absurd h (Nat.not_lt_zero j), fun k h => by simp at h, fun k d n h => by simp at h, fun _ _ h => (nomatch h), fun k h => by simp at h⟩
theorem before_good (ok : MachOk M) {s e : Sk} (g : Good M s) {D : Deed} (hD : D ∈ M.deeds) (h : beforeS M.full s D = some e) : Good M e := by
  have dk := ok.deeds D hD
  unfold beforeS at h
  split at h
  · split at h
    · cases h
    · rename_i hz
      cases h
      have hl : (andAll D.guard (fullAll M.full D.changes s)).length = M.full.length := by rw [andAll_len, fullAll_len, g.len]
      refine ⟨hl, hz, ?_⟩
      unfold incl
      apply List.ext_getElem?
      intro i
      have key : ∀ (x : Sk) (j : Nat), j < x.length → x[j]? = some (at0 x j) := fun x j hj => by
        unfold at0; rw [List.getD_eq_getElem?_getD, List.getElem?_eq_getElem hj]; rfl
      by_cases hi : i < M.full.length
      · rw [key _ _ (by rw [meetL_len hl, hl]; exact hi), key _ _ (by rw [hl]; exact hi), at0_meetL i hl]
        congr 1
        apply Nat.eq_of_testBit_eq
        intro x
        have hg : ∀ p ∈ D.guard, p.1 < (fullAll M.full D.changes s).length := fun p hp => by rw [fullAll_len, g.len]; exact dk.g p hp
        rw [Nat.testBit_and, at0_andAll _ _ _ _ hg, at0_fullAll M.full _ _ _ (fun p hp => by rw [g.len]; exact dk.c p hp)]
        split
        · cases (at0 M.full i).testBit x <;> simp
        · have : at0 s i &&& at0 M.full i = at0 s i := by rw [← at0_meetL i g.len, show meetL s M.full = s from g.le]
          have t := congrArg (fun m => m.testBit x) this
          simp only [Nat.testBit_and] at t
          rw [← t]
          cases (at0 M.full i).testBit x <;> simp
      · rw [List.getElem?_eq_none (by rw [meetL_len hl, hl]; omega), List.getElem?_eq_none (by rw [hl]; omega)]
  · cases h
theorem deed_mem {d : Nat} (h : d < M.deeds.length) : M.deeds.getD d ⟨[], []⟩ ∈ M.deeds := getD_mem h
theorem step_inv (ok : MachOk M) (I : SInv M part S) {n d : Nat} (hn : n < S.sk.length) (hd : d < M.deeds.length) : SInv M part (stepTo M S n d) ∧ Ext S (stepTo M S n d) := by
  unfold stepTo
  split
  · exact ⟨I, .refl _⟩
  · rename_i e he
    refine ⟨place_inv ok I (before_good ok (I.ok _ (getD_mem hn)) (deed_mem hd) he) (fun q => nomatch q) (fun d' n' q => ?_), place_ext _ _⟩
    cases q
    exact ⟨hn, hd, he⟩
theorem row_inv (ok : MachOk M) (I : SInv M part S) {n : Nat} (hn : n < S.sk.length) : ∀ k, k ≤ M.deeds.length → SInv M part (rowTo M S n k) ∧ Ext S (rowTo M S n k)
  | 0, _ => ⟨I, .refl _⟩
  | k + 1, hk => by
    obtain ⟨I1, e1⟩ := row_inv ok I hn k (by omega)
    obtain ⟨I2, e2⟩ := step_inv ok I1 (Nat.lt_of_lt_of_le hn e1.len) (show k < M.deeds.length by omega)
    exact ⟨I2, e1.trans e2⟩
/-- the deeds below k lead into the list -/
def Closed (M : Mach) (S : Srch) (n k : Nat) : Prop := ∀ d, d < k → ∀ e, beforeS M.full (S.sk.getD n []) (M.deeds.getD d ⟨[], []⟩) = some e → ∃ s ∈ S.sk, incl e s
theorem Closed.ext {n k : Nat} (h : Closed M S n k) (e : Ext S S') (hn : n < S.sk.length) : Closed M S' n k := fun d hd x hx => by
  rw [e.at_ hn] at hx
  obtain ⟨s, hs, hi⟩ := h d hd x hx
  exact ⟨s, e.mem hs, hi⟩
theorem row_closed (ok : MachOk M) (I : SInv M part S) {n : Nat} (hn : n < S.sk.length) : ∀ k, k ≤ M.deeds.length → Closed M (rowTo M S n k) n k
  | 0, _ => fun d h => absurd h (Nat.not_lt_zero d)
  | k + 1, hk => by
    obtain ⟨I1, e1⟩ := row_inv ok I hn k (by omega)
    have c := row_closed ok I hn k (by omega)
    have hn1 := Nat.lt_of_lt_of_le hn e1.len
    obtain ⟨_, e2⟩ := step_inv ok I1 hn1 (show k < M.deeds.length by omega)
    intro d hd x hx
    by_cases e : d < k
    · exact c.ext e2 hn1 d e x hx
    · have e' : d = k := by omega
      subst e'
      have hx : beforeS M.full ((stepTo M (rowTo M S n d) n d).sk.getD n []) (M.deeds.getD d ⟨[], []⟩) = some x := hx
      rw [e2.at_ hn1] at hx
      show ∃ s ∈ (stepTo M (rowTo M S n d) n d).sk, incl x s
      unfold stepTo
      rw [hx]
      obtain ⟨h1, h2⟩ := place_in ok I1 (before_good ok (I1.ok _ (getD_mem hn1)) (deed_mem (show d < M.deeds.length by omega)) hx) (some (d, n))
      exact ⟨_, getD_mem h1, h2⟩
/-- every sketch's mask lists -/
def allSk : Sk → List Sk
  | [] => [[]]
  | f :: fs => (List.range (f + 1)).flatMap fun m => (allSk fs).map (m :: ·)
theorem mem_allSk : ∀ {s full : Sk}, s.length = full.length → incl s full → s ∈ allSk full
  | [], [], _, _ => by simp [allSk]
  | m :: s, f :: fs, hl, h => by
    unfold incl at h
    have h : (m &&& f) :: meetL s fs = m :: s := h
    injection h with h1 h2
    unfold allSk
    rw [List.mem_flatMap]
    refine ⟨m, ?_, List.mem_map.mpr ⟨s, mem_allSk (by simpa using hl) h2, rfl⟩⟩
    rw [List.mem_range, ← h1]
    exact Nat.lt_succ_of_le Nat.and_le_right
  | [], _ :: _, h, _ => by simp at h
  | _ :: _, [], h, _ => by simp at h
theorem SInv.bound (I : SInv M part S) : S.sk.length ≤ (allSk M.full).length := by
  refine nodup_len ?_ fun s hs => mem_allSk (I.ok s hs).len (I.ok s hs).le
  rw [List.nodup_iff_pairwise_ne, List.pairwise_iff_getElem]
  intro i j hi hj hij e
  have := I.apart i j hij hj
  rw [getD_at hi, getD_at hj, e] at this
  exact this (incl_refl _)
/-- the run as long as it goes -/
structure RInv (M : Mach) (part : Sk) (t : Nat) (S : Srch) : Prop where
  inv : SInv M part S
  le : t ≤ S.sk.length
  cov : ∃ s ∈ S.sk, incl part s
  clo : ∀ n, n < t → Closed M S n M.deeds.length
theorem run_start (ok : MachOk M) (g : Good M part) : RInv M part 0 (start M part) := by
  have I0 : SInv M part ⟨[], [], none⟩ := sinv_nil
  refine ⟨place_inv ok I0 g (fun _ => rfl) (fun d n h => nomatch h), Nat.zero_le _, ?_, fun n h => absurd h (Nat.not_lt_zero n)⟩
  obtain ⟨h1, h2⟩ := place_in ok I0 g none
  exact ⟨_, getD_mem h1, h2⟩
theorem run_next (ok : MachOk M) {t : Nat} (R : RInv M part t S) (ht : t < S.sk.length) : RInv M part (t + 1) (rowTo M S t M.deeds.length) := by
  obtain ⟨I1, e1⟩ := row_inv ok R.inv ht M.deeds.length (Nat.le_refl _)
  refine ⟨I1, Nat.le_trans ht e1.len, ?_, fun n hn => ?_⟩
  · obtain ⟨s, hs, hi⟩ := R.cov
    exact ⟨s, e1.mem hs, hi⟩
  · by_cases e : n < t
    · exact (R.clo n e).ext e1 (Nat.lt_trans e ht)
    · have e' : n = t := by omega
      subst e'
      exact row_closed ok R.inv ht M.deeds.length (Nat.le_refl _)
theorem Reach.full (ok : MachOk M) {d : List Nat} (h : Reach M d) : has M.full d := by
  induction h with
  | first h => exact incl_has ok.first.len ok.first.le h
  | @step d D h hD hd ih =>
    have dk := ok.deeds D hD
    have hl : M.full.length = d.length := ih.1
    refine ⟨by rw [setAll_len, hl], fun i hi => ?_⟩
    rw [setAll_len] at hi
    by_cases hc : ∃ p ∈ D.changes, p.1 = i
    · obtain ⟨p, hp, rfl⟩ := hc
      rw [at0_setAll_in D.changes d (fun q hq => by rw [← hl]; exact dk.c q hq) dk.nd p hp]
      exact ok.vals D hD p hp
    · rw [at0_setAll_out D.changes d i (fun q hq => by rw [← hl]; exact dk.c q hq) fun p hp e => hc ⟨p, hp, e⟩]
      exact ih.2 i hi
/-- nothing found and all gone through: no history ends in the part -/
theorem told_none (ok : MachOk M) {t : Nat} (R : RInv M part t S) (ht : t = S.sk.length) (hf : S.found = none) : ∀ d, Reach M d → ∀ s ∈ S.sk, ¬ has s d := by
  intro d h
  induction h with
  | first h =>
    intro s hs hh
    exact meetO_none ((R.inv.ok s hs).len.trans ok.first.len.symm) (R.inv.fndN hf s hs) ⟨hh, h⟩
  | @step d D h hD hd ih =>
    intro s hs hh
    obtain ⟨n, hn, e⟩ := List.mem_iff_getElem.mp hs
    obtain ⟨k, hk, e2⟩ := List.mem_iff_getElem.mp hD
    have g := R.inv.ok s hs
    have hfull := h.full ok
    have dk : DeedOk s.length D := by rw [g.len]; exact ok.deeds D hD
    obtain ⟨x, hx, hxd⟩ := (beforeS_has dk hfull (g.len.trans hfull.1)).mpr ⟨hd, hh⟩
    have := R.clo n (by omega) k hk x (by rw [getD_at hn, e, getD_at hk, e2]; exact hx)
    obtain ⟨u, hu, hi⟩ := this
    have gx : Good M x := before_good ok g hD hx
    exact ih u hu (incl_has (gx.len.trans (R.inv.ok u hu).len.symm) hi hxd)
theorem told_none' (ok : MachOk M) (g : Good M part) {t : Nat} (R : RInv M part t S) (ht : t = S.sk.length) (hf : S.found = none) : ¬ ∃ d, Reach M d ∧ has part d := fun ⟨d, h1, h2⟩ => by
  obtain ⟨s, hs, hi⟩ := R.cov
  exact told_none ok R ht hf d h1 s hs (incl_has (g.len.trans (R.inv.ok s hs).len.symm) hi h2)
/-- the least value of a mask -/
theorem has_ex : ∀ {s : Sk}, ¬ 0 ∈ s → ∃ d, has s d
  | [], _ => ⟨[], rfl, fun i h => absurd h (Nat.not_lt_zero i)⟩
  | m :: s, h => by
    obtain ⟨d, hl, hd⟩ := has_ex (s := s) (fun z => h (List.mem_cons_of_mem _ z))
    have hm : m ≠ 0 := fun e => h (by rw [e]; exact List.mem_cons_self)
    obtain ⟨i, hi⟩ := Nat.exists_testBit_of_ne_zero hm
    refine ⟨i :: d, by simp [hl], fun j hj => ?_⟩
    cases j with
    | zero => exact hi
    | succ j => exact hd j (by simpa using hj)
/-- from a sketch of the list a history leads into the part -/
theorem leads (ok : MachOk M) (I : SInv M part S) : ∀ (k : Nat) (d : List Nat), k < S.sk.length → Reach M d → has (S.sk.getD k []) d → ∃ d', Reach M d' ∧ has part d' := by
  intro k
  induction k using Nat.strongRecOn with
  | _ k ih =>
    intro d hk hr hd
    have hko : k < S.org.length := by rw [I.lo]; exact hk
    cases e : S.org[k]'hko with
    | none =>
      have e' : S.org[k]? = some none := by rw [List.getElem?_eq_getElem hko, e]
      rw [I.orgN k e'] at hd
      exact ⟨d, hr, hd⟩
    | some p =>
      obtain ⟨dd, n⟩ := p
      have e' : S.org[k]? = some (some (dd, n)) := by rw [List.getElem?_eq_getElem hko, e]
      obtain ⟨h1, h2, h3⟩ := I.orgS k dd n e'
      have hD := deed_mem h2
      have g := I.ok _ (getD_mem (x := []) (Nat.lt_trans h1 hk))
      have hfull := hr.full ok
      have dk : DeedOk (S.sk.getD n []).length (M.deeds.getD dd ⟨[], []⟩) := by rw [g.len]; exact ok.deeds _ hD
      obtain ⟨q1, q2⟩ := (beforeS_has dk hfull (g.len.trans hfull.1)).mp ⟨_, h3, hd⟩
      exact ih n h1 _ (Nat.lt_trans h1 hk) (hr.step hD q1) q2
theorem told_some (ok : MachOk M) (I : SInv M part S) {k : Nat} (hf : S.found = some k) : ∃ d, Reach M d ∧ has part d := by
  obtain ⟨h1, h2⟩ := I.fndS k hf
  have g := I.ok _ (getD_mem (x := []) h1)
  have hl := g.len.trans ok.first.len.symm
  unfold meetO at h2
  split at h2
  · exact absurd rfl h2
  · rename_i hz
    obtain ⟨d, hd⟩ := has_ex hz
    obtain ⟨a, b⟩ := (meet_has hl).mp hd
    exact leads ok I k d h1 (.first b) a
end Raised
set_option linter.all false
namespace Raised
/-- the parts of a sketch without another: their disks -/
theorem at0_append (a b : List Nat) (i : Nat) : at0 (a ++ b) i = if i < a.length then at0 a i else at0 b (i - a.length) := by
  unfold at0
  rw [List.getD_eq_getElem?_getD]
  split
  · rename_i h
    rw [List.getElem?_append_left h, List.getD_eq_getElem?_getD]
  · rename_i h
    rw [List.getElem?_append_right (by omega), List.getD_eq_getElem?_getD]
theorem at0_take (a : List Nat) (i j : Nat) (h : j < i) : at0 (a.take i) j = at0 a j := by
  unfold at0
  rw [List.getD_eq_getElem?_getD, List.getElem?_take, if_pos h, List.getD_eq_getElem?_getD]
theorem at0_drop (a : List Nat) (i j : Nat) : at0 (a.drop i) j = at0 a (i + j) := by
  unfold at0
  rw [List.getD_eq_getElem?_getD, List.getElem?_drop, List.getD_eq_getElem?_getD]
/-- a cell of the i-th part -/
def partC (a both : Sk) (i j : Nat) : Nat := if j < i then at0 both j else if j = i then at0 a i ^^^ at0 both i else at0 a j
theorem at0_part {a both : Sk} {i j : Nat} (hb : both.length = a.length) (hi : i < a.length) : at0 (both.take i ++ [at0 a i ^^^ at0 both i] ++ a.drop (i + 1)) j = partC a both i j := by
  unfold partC
  have l1 : (both.take i).length = i := by rw [List.length_take]; omega
  have l2 : (both.take i ++ [at0 a i ^^^ at0 both i]).length = i + 1 := by rw [List.length_append, l1]; rfl
  rw [at0_append, l2]
  by_cases h1 : j < i
  · rw [if_pos (by omega), at0_append, l1, if_pos h1, if_pos h1, at0_take _ _ _ h1]
  · rw [if_neg h1]
    by_cases h2 : j = i
    · subst h2
      rw [if_pos (by omega), if_pos rfl, at0_append, l1, if_neg (by omega), Nat.sub_self]; rfl
    · rw [if_neg (by omega), if_neg h2, at0_drop, show i + 1 + (j - (i + 1)) = j by omega]
theorem part_len {a both : Sk} {i x : Nat} (hb : both.length = a.length) (hi : i < a.length) : (both.take i ++ [x] ++ a.drop (i + 1)).length = a.length := by
  rw [List.length_append, List.length_append, List.length_take, List.length_drop]
  simp only [List.length_singleton]
  omega
theorem splitS_mem {a t r : Sk} (h : r ∈ splitS a t) : (meetO a t = none ∧ r = a) ∨ ∃ i, i < a.length ∧ ¬ 0 ∈ meetL a t ∧ at0 a i ^^^ at0 (meetL a t) i ≠ 0 ∧ r = (meetL a t).take i ++ [at0 a i ^^^ at0 (meetL a t) i] ++ a.drop (i + 1) := by
  unfold splitS at h
  cases hm : meetO a t with
  | none => rw [hm] at h; exact .inl ⟨rfl, List.mem_singleton.mp h⟩
  | some both =>
    rw [hm] at h
    have hb : both = meetL a t ∧ ¬ 0 ∈ meetL a t := by
      unfold meetO at hm
      split at hm
      · cases hm
      · rename_i hz
        cases hm
        exact ⟨rfl, hz⟩
    obtain ⟨i, hi, e⟩ := List.mem_filterMap.mp h
    rw [List.mem_range] at hi
    unfold splitB at e
    split at e
    · cases e
    · rename_i hx
      rw [hb.1] at hx e
      exact .inr ⟨i, hi, hb.2, hx, (Option.some.inj e).symm⟩
theorem splitS_has {a t : Sk} {d : List Nat} (hl : a.length = t.length) : (∃ r ∈ splitS a t, has r d) ↔ (has a d ∧ ¬ has t d) := by
  have ml := meetL_len hl
  constructor
  · rintro ⟨r, hr, hd⟩
    rcases splitS_mem hr with ⟨hm, rfl⟩ | ⟨i, hi, hz, hx, rfl⟩
    · exact ⟨hd, fun h => meetO_none hl hm ⟨hd, h⟩⟩
    · have dl : a.length = d.length := by rw [← hd.1, part_len ml hi]
      have key : ∀ j, j < d.length → (partC a (meetL a t) i j).testBit (at0 d j) = true := fun j hj => by
        have := hd.2 j hj
        rwa [at0_part ml hi] at this
      have ki := key i (by omega)
      unfold partC at ki
      rw [if_neg (Nat.lt_irrefl i), if_pos rfl, at0_meetL i hl, Nat.testBit_xor, Nat.testBit_and] at ki
      refine ⟨⟨dl, fun j hj => ?_⟩, fun ht => ?_⟩
      · by_cases h1 : j < i
        · have := key j hj
          unfold partC at this
          rw [if_pos h1, at0_meetL j hl, Nat.testBit_and, Bool.and_eq_true] at this
          exact this.1
        · by_cases h2 : j = i
          · subst h2
            revert ki
            cases (at0 a j).testBit (at0 d j) <;> simp
          · have := key j hj
            unfold partC at this
            rw [if_neg h1, if_neg h2] at this
            exact this
      · rw [ht.2 i (by omega)] at ki
        revert ki
        cases (at0 a i).testBit (at0 d i) <;> simp
  · rintro ⟨ha, ht⟩
    cases hm : meetO a t with
    | none => exact ⟨a, by unfold splitS; rw [hm]; exact List.mem_singleton_self _, ha⟩
    | some both =>
      have hb : both = meetL a t := by
        unfold meetO at hm
        split at hm
        · cases hm
        · cases hm; rfl
      have hex : ∃ i, i < d.length ∧ ¬ (at0 t i).testBit (at0 d i) = true := by
        apply Classical.byContradiction
        intro hn
        exact ht ⟨by rw [← hl]; exact ha.1, fun i hi => Classical.byContradiction fun h => hn ⟨i, hi, h⟩⟩
      -- the least such cell
      have hleast : ∃ i, i < d.length ∧ ¬ (at0 t i).testBit (at0 d i) = true ∧ ∀ j, j < i → (at0 t j).testBit (at0 d j) = true := by
        obtain ⟨i, hi, hni⟩ := hex
        induction i using Nat.strongRecOn with
        | _ i ih =>
          by_cases h : ∃ j, j < i ∧ ¬ (at0 t j).testBit (at0 d j) = true
          · obtain ⟨j, hj, hnj⟩ := h
            exact ih j hj (by omega) hnj
          · exact ⟨i, hi, hni, fun j hj => Classical.byContradiction fun hh => h ⟨j, hj, hh⟩⟩
      obtain ⟨i, hi, hni, hlow⟩ := hleast
      have hia : i < a.length := by rw [ha.1]; exact hi
      have hbit : (at0 a i ^^^ at0 both i).testBit (at0 d i) = true := by
        rw [hb, at0_meetL i hl, Nat.testBit_xor, Nat.testBit_and, ha.2 i hi]
        simpa using hni
      have hne : at0 a i ^^^ at0 both i ≠ 0 := fun z => by rw [z, Nat.zero_testBit] at hbit; cases hbit
      have mb : both.length = a.length := by rw [hb]; exact ml
      refine ⟨both.take i ++ [at0 a i ^^^ at0 both i] ++ a.drop (i + 1), ?_, ?_, fun j hj => ?_⟩
      · unfold splitS
        rw [hm]
        refine List.mem_filterMap.mpr ⟨i, List.mem_range.mpr hia, ?_⟩
        unfold splitB
        rw [if_neg hne]
      · rw [part_len mb hia]; exact ha.1
      · rw [at0_part mb hia]
        unfold partC
        by_cases h1 : j < i
        · rw [if_pos h1, hb, at0_meetL j hl, Nat.testBit_and, ha.2 j hj, hlow j h1]; rfl
        · rw [if_neg h1]
          by_cases h2 : j = i
          · rw [if_pos h2, h2]; exact hbit
          · rw [if_neg h2]; exact ha.2 j hj
/-- each part is good -/
theorem le_bits {x y : Nat} (h : ∀ k, x.testBit k = true → y.testBit k = true) : x &&& y = x := by
  apply Nat.eq_of_testBit_eq
  intro k
  rw [Nat.testBit_and]
  cases e : x.testBit k with
  | false => rfl
  | true => rw [h k e]; rfl
theorem incl_of {s t : Sk} (hl : s.length = t.length) (h : ∀ i, i < s.length → ∀ k, (at0 s i).testBit k = true → (at0 t i).testBit k = true) : incl s t := by
  unfold incl
  apply List.ext_getElem?
  intro i
  by_cases hi : i < s.length
  · have h1 : (meetL s t)[i]? = some (at0 (meetL s t) i) := by
      unfold at0; rw [List.getD_eq_getElem?_getD, List.getElem?_eq_getElem (by rw [meetL_len hl]; exact hi)]; rfl
    have h2 : s[i]? = some (at0 s i) := by
      unfold at0; rw [List.getD_eq_getElem?_getD, List.getElem?_eq_getElem hi]; rfl
    rw [h1, h2, at0_meetL i hl, le_bits (h i hi)]
  · rw [List.getElem?_eq_none (by rw [meetL_len hl]; omega), List.getElem?_eq_none (by omega)]
theorem of_incl {s t : Sk} (hl : s.length = t.length) (h : incl s t) (i k : Nat) (hk : (at0 s i).testBit k = true) : (at0 t i).testBit k = true := by
  rw [← show meetL s t = s from h, at0_meetL i hl, Nat.testBit_and, Bool.and_eq_true] at hk
  exact hk.2
theorem splitS_good {M : Mach} {a t r : Sk} (ga : Good M a) (gt : Good M t) (hr : r ∈ splitS a t) : Good M r := by
  have hl : a.length = t.length := ga.len.trans gt.len.symm
  have ml := meetL_len hl
  rcases splitS_mem hr with ⟨_, rfl⟩ | ⟨i, hi, hz, hx, rfl⟩
  · exact ga
  · have pl := part_len (x := at0 a i ^^^ at0 (meetL a t) i) ml hi
    refine ⟨pl.trans ga.len, ?_, incl_of (pl.trans ga.len) fun j hj k hk => ?_⟩
    · rw [mem_zero]
      rintro ⟨j, hj, e⟩
      rw [pl] at hj
      rw [at0_part ml hi] at e
      unfold partC at e
      split at e
      · exact hz (mem_zero.mpr ⟨j, by rw [ml]; exact hj, e⟩)
      · split at e
        · exact hx e
        · exact ga.pos (mem_zero.mpr ⟨j, hj, e⟩)
    · rw [at0_part ml hi] at hk
      refine of_incl ga.len ga.le j k ?_
      unfold partC at hk
      split at hk
      · rw [at0_meetL j hl, Nat.testBit_and, Bool.and_eq_true] at hk
        exact hk.1
      · split at hk
        · rename_i e
          subst e
          rw [at0_meetL j hl, Nat.testBit_xor, Nat.testBit_and] at hk
          revert hk
          cases (at0 a j).testBit k <;> simp
        · exact hk
theorem splitS_len (a t : Sk) : (splitS a t).length ≤ a.length + 1 := by
  unfold splitS
  split
  · simp
  · refine Nat.le_trans (List.length_filterMap_le _ _) ?_
    rw [List.length_range]; omega
theorem without_one (a t : Sk) : withoutS a [t] = splitS a t := by
  unfold withoutS
  simp
end Raised
set_option Elab.async false
set_option linter.all false
set_option maxRecDepth 100000
/-! The text by places, the scopes, the addresses, what the top has left. Printed by gen.py. -/
namespace Rw
open PySem L2
def topS (i : Nat) : Stmt := PySem.Challenge.pw_raisedwreck_k46_whole_stripes.main.body.getD i (.Pass ⟨0, 0, 0, 0⟩)
abbrev s_is_name : Stmt := topS 13
abbrev s_check_names : Stmt := topS 14
abbrev s_is_mask : Stmt := topS 15
abbrev s_check_order : Stmt := topS 16
abbrev s_Machine_init : Stmt := inClass (topS 17) 0
abbrev s_Machine_check_deed : Stmt := inClass (topS 17) 1
abbrev s_Machine_full : Stmt := inClass (topS 17) 2
abbrev s_check_sketch : Stmt := topS 18
abbrev s_sketch_before : Stmt := topS 20
abbrev s_meet : Stmt := topS 22
abbrev s_split : Stmt := topS 23
abbrev s_without : Stmt := topS 24
abbrev s_values_of : Stmt := topS 25
abbrev s_least_disk : Stmt := topS 26
abbrev s_Paper_init : Stmt := inClass (topS 28) 0
abbrev s_Answer_init : Stmt := inClass (topS 29) 0
abbrev s_check_question : Stmt := topS 30
abbrev s_packed_sketch : Stmt := topS 31
abbrev s_Search_init : Stmt := inClass (topS 32) 0
abbrev s_Search_place : Stmt := inClass (topS 32) 1
abbrev s_Search_places : Stmt := inClass (topS 32) 2
abbrev s_Search_row : Stmt := inClass (topS 32) 3
abbrev s_Search_history : Stmt := inClass (topS 32) 4
abbrev s_tell : Stmt := topS 33
abbrev s_told_at_end : Stmt := topS 35
abbrev s_check_range : Stmt := topS 37
abbrev s_one : Stmt := topS 38
abbrev s_set_to : Stmt := topS 39
abbrev s_StripeForm_init : Stmt := inClass (topS 45) 0
abbrev s_begin_deeds : Stmt := topS 46
abbrev s_end_deeds : Stmt := topS 47
abbrev s_rebuild_deeds : Stmt := topS 48
abbrev s_stripe_machine : Stmt := topS 49
abbrev s_law_cell : Stmt := topS 51
abbrev s_law_mix : Stmt := topS 52
abbrev s_law_stripe : Stmt := topS 54
abbrev s_law_names : Stmt := topS 55
abbrev s_law_reached : Stmt := topS 56
abbrev s_law_fits : Stmt := topS 57
abbrev s_law : Stmt := topS 58
theorem sc_is_name : FnScope ["text", "char"] ["text"] (defScope s_is_name) :=
  ⟨rfl, rfl, rfl, by decide +kernel, rfl, by decide +kernel, by decide +kernel⟩
theorem sc_check_names : FnScope ["names", "name"] ["names"] (defScope s_check_names) :=
  ⟨rfl, rfl, rfl, by decide +kernel, rfl, by decide +kernel, by decide +kernel⟩
theorem sc_is_mask : FnScope ["mask", "size"] ["mask", "size"] (defScope s_is_mask) :=
  ⟨rfl, rfl, rfl, by decide +kernel, rfl, by decide +kernel, by decide +kernel⟩
theorem sc_check_order : FnScope ["pairs", "count", "before", "cell", "_"] ["pairs", "count"] (defScope s_check_order) :=
  ⟨rfl, rfl, rfl, by decide +kernel, rfl, by decide +kernel, by decide +kernel⟩
theorem sc_Machine_init : FnScope ["self", "cells", "deeds", "first", "sizes", "_", "guard", "changes", "name", "size", "deed", "mask"] ["self", "cells", "deeds", "first"] (defScope s_Machine_init) :=
  ⟨rfl, rfl, rfl, by decide +kernel, rfl, by decide +kernel, by decide +kernel⟩
theorem sc_Machine_check_deed : FnScope ["self", "sizes", "guard", "changes", "cell", "mask", "kind", "number"] ["self", "sizes", "guard", "changes"] (defScope s_Machine_check_deed) :=
  ⟨rfl, rfl, rfl, by decide +kernel, rfl, by decide +kernel, by decide +kernel⟩
theorem sc_Machine_full : FnScope ["self", "_", "size"] ["self"] (defScope s_Machine_full) :=
  ⟨rfl, rfl, rfl, by decide +kernel, rfl, by decide +kernel, by decide +kernel⟩
theorem sc_check_sketch : FnScope ["machine", "sketch", "mask", "_", "size"] ["machine", "sketch"] (defScope s_check_sketch) :=
  ⟨rfl, rfl, rfl, by decide +kernel, rfl, by decide +kernel, by decide +kernel⟩
theorem sc_sketch_before : FnScope ["machine", "sketch", "deed", "_", "guard", "changes", "masks", "full", "cell", "kind", "number", "mask"] ["machine", "sketch", "deed"] (defScope s_sketch_before) :=
  ⟨rfl, rfl, rfl, by decide +kernel, rfl, by decide +kernel, by decide +kernel⟩
theorem sc_meet : FnScope ["a", "b", "masks", "left", "right"] ["a", "b"] (defScope s_meet) :=
  ⟨rfl, rfl, rfl, by decide +kernel, rfl, by decide +kernel, by decide +kernel⟩
theorem sc_split : FnScope ["a", "b", "both", "parts", "cell", "mask", "rest"] ["a", "b"] (defScope s_split) :=
  ⟨rfl, rfl, rfl, by decide +kernel, rfl, by decide +kernel, by decide +kernel⟩
theorem sc_without : FnScope ["a", "piece", "parts", "sketch", "other", "part"] ["a", "piece"] (defScope s_without) :=
  ⟨rfl, rfl, rfl, by decide +kernel, rfl, by decide +kernel, by decide +kernel⟩
theorem sc_values_of : FnScope ["mask", "value"] ["mask"] (defScope s_values_of) :=
  ⟨rfl, rfl, rfl, by decide +kernel, rfl, by decide +kernel, by decide +kernel⟩
theorem sc_least_disk : FnScope ["sketch", "mask"] ["sketch"] (defScope s_least_disk) :=
  ⟨rfl, rfl, rfl, by decide +kernel, rfl, by decide +kernel, by decide +kernel⟩
theorem sc_Paper_init : FnScope ["self", "sketches", "cover", "table", "sketch", "row", "entry"] ["self", "sketches", "cover", "table"] (defScope s_Paper_init) :=
  ⟨rfl, rfl, rfl, by decide +kernel, rfl, by decide +kernel, by decide +kernel⟩
theorem sc_Answer_init : FnScope ["self", "told", "paper", "disk", "deeds"] ["self", "told", "paper", "disk", "deeds"] (defScope s_Answer_init) :=
  ⟨rfl, rfl, rfl, by decide +kernel, rfl, by decide +kernel, by decide +kernel⟩
theorem sc_check_question : FnScope ["machine", "image", "piece", "sketch"] ["machine", "image", "piece"] (defScope s_check_question) :=
  ⟨rfl, rfl, rfl, by decide +kernel, rfl, by decide +kernel, by decide +kernel⟩
theorem sc_packed_sketch : FnScope ["sketch", "packed", "mask"] ["sketch"] (defScope s_packed_sketch) :=
  ⟨rfl, rfl, rfl, by decide +kernel, rfl, by decide +kernel, by decide +kernel⟩
theorem sc_Search_init : FnScope ["self", "machine", "piece"] ["self", "machine", "piece"] (defScope s_Search_init) :=
  ⟨rfl, rfl, rfl, by decide +kernel, rfl, by decide +kernel, by decide +kernel⟩
theorem sc_Search_place : FnScope ["self", "sketch", "origin", "packed", "number", "other"] ["self", "sketch", "origin"] (defScope s_Search_place) :=
  ⟨rfl, rfl, rfl, by decide +kernel, rfl, by decide +kernel, by decide +kernel⟩
theorem sc_Search_places : FnScope ["self", "sketch", "origin", "part"] ["self", "sketch", "origin"] (defScope s_Search_places) :=
  ⟨rfl, rfl, rfl, by decide +kernel, rfl, by decide +kernel, by decide +kernel⟩
theorem sc_Search_row : FnScope ["self", "number", "entries", "deed", "earlier"] ["self", "number"] (defScope s_Search_row) :=
  ⟨rfl, rfl, rfl, by decide +kernel, rfl, by decide +kernel, by decide +kernel⟩
theorem sc_Search_history : FnScope ["self", "number", "disk", "deeds", "deed"] ["self"] (defScope s_Search_history) :=
  ⟨rfl, rfl, rfl, by decide +kernel, rfl, by decide +kernel, by decide +kernel⟩
theorem sc_tell : FnScope ["machine", "image", "piece", "search", "cover", "table", "disk", "deeds"] ["machine", "image", "piece"] (defScope s_tell) :=
  ⟨rfl, rfl, rfl, by decide +kernel, rfl, by decide +kernel, by decide +kernel⟩
theorem sc_told_at_end : FnScope ["machine", "image", "piece", "part"] ["machine", "image", "piece"] (defScope s_told_at_end) :=
  ⟨rfl, rfl, rfl, by decide +kernel, rfl, by decide +kernel, by decide +kernel⟩
theorem sc_check_range : FnScope ["number", "least", "greatest"] ["number", "least", "greatest"] (defScope s_check_range) :=
  ⟨rfl, rfl, rfl, by decide +kernel, rfl, by decide +kernel, by decide +kernel⟩
theorem sc_one : FnScope ["value"] ["value"] (defScope s_one) :=
  ⟨rfl, rfl, rfl, by decide +kernel, rfl, by decide +kernel, by decide +kernel⟩
theorem sc_set_to : FnScope ["cell", "value"] ["cell", "value"] (defScope s_set_to) :=
  ⟨rfl, rfl, rfl, by decide +kernel, rfl, by decide +kernel, by decide +kernel⟩
theorem sc_StripeForm_init : FnScope ["self", "alphabet"] ["self", "alphabet"] (defScope s_StripeForm_init) :=
  ⟨rfl, rfl, rfl, by decide +kernel, rfl, by decide +kernel, by decide +kernel⟩
theorem sc_begin_deeds : FnScope ["form", "deeds", "number", "value", "changes"] ["form"] (defScope s_begin_deeds) :=
  ⟨rfl, rfl, rfl, by decide +kernel, rfl, by decide +kernel, by decide +kernel⟩
theorem sc_end_deeds : FnScope ["form", "deeds", "first", "second", "guard", "changes"] ["form"] (defScope s_end_deeds) :=
  ⟨rfl, rfl, rfl, by decide +kernel, rfl, by decide +kernel, by decide +kernel⟩
theorem sc_rebuild_deeds : FnScope ["form", "deeds", "number", "other", "parity", "guard", "changes"] ["form"] (defScope s_rebuild_deeds) :=
  ⟨rfl, rfl, rfl, by decide +kernel, rfl, by decide +kernel, by decide +kernel⟩
theorem sc_stripe_machine : FnScope ["form", "cells", "deeds"] ["form"] (defScope s_stripe_machine) :=
  ⟨rfl, rfl, rfl, by decide +kernel, rfl, by decide +kernel, by decide +kernel⟩
theorem sc_law_cell : FnScope ["_law_script", "_law_k"] ["_law_script", "_law_k"] (defScope s_law_cell) :=
  ⟨rfl, rfl, rfl, by decide +kernel, rfl, by decide +kernel, by decide +kernel⟩
theorem sc_law_mix : FnScope ["_law_cell_here", "_law_k", "_law_number"] ["_law_cell_here", "_law_k"] (defScope s_law_mix) :=
  ⟨rfl, rfl, rfl, by decide +kernel, rfl, by decide +kernel, by decide +kernel⟩
theorem sc_law_stripe : FnScope ["_law_values", "_law_disk", "_law_name", "_law_letter", "_law_digits", "_law_made", "_law_char"] ["_law_values", "_law_disk", "_law_name"] (defScope s_law_stripe) :=
  ⟨rfl, rfl, rfl, by decide +kernel, rfl, by decide +kernel, by decide +kernel⟩
theorem sc_law_names : FnScope ["_law_values", "_law_names_here", "_law_number", "_law_first", "_law_other", "_law_value", "_law_second", "_law_parity"] ["_law_values"] (defScope s_law_names) :=
  ⟨rfl, rfl, rfl, by decide +kernel, rfl, by decide +kernel, by decide +kernel⟩
theorem sc_law_reached : FnScope ["_law_values", "_law_names_here", "_law_seen", "_law_order", "_law_k", "_law_name", "_law_following"] ["_law_values"] (defScope s_law_reached) :=
  ⟨rfl, rfl, rfl, by decide +kernel, rfl, by decide +kernel, by decide +kernel⟩
theorem sc_law_fits : FnScope ["_law_image", "_law_disk", "_law_mask", "_law_value"] ["_law_image", "_law_disk"] (defScope s_law_fits) :=
  ⟨rfl, rfl, rfl, by decide +kernel, rfl, by decide +kernel, by decide +kernel⟩
theorem sc_law : FnScope ["_law_script", "_law_values", "_law_machine", "_law_names_here", "_law_disk", "_law_k", "_law_able", "_law_full", "_law_image", "_law_lost", "_law_ends", "_law_cell_here", "_law_value", "_law_piece", "_law_due", "_law_actual", "_law_unknown", "_law_name", "_law_other"] ["_law_script"] (defScope s_law) :=
  ⟨rfl, rfl, rfl, by decide +kernel, rfl, by decide +kernel, by decide +kernel⟩
/-- where the defs and the classes stand -/
structure Ad where
  a_is_name : Addr
  d_is_name : FuncData
  a_check_names : Addr
  d_check_names : FuncData
  a_is_mask : Addr
  d_is_mask : FuncData
  a_check_order : Addr
  d_check_order : FuncData
  a_Machine_init : Addr
  d_Machine_init : FuncData
  a_Machine_check_deed : Addr
  d_Machine_check_deed : FuncData
  a_Machine_full : Addr
  d_Machine_full : FuncData
  a_check_sketch : Addr
  d_check_sketch : FuncData
  a_sketch_before : Addr
  d_sketch_before : FuncData
  a_meet : Addr
  d_meet : FuncData
  a_split : Addr
  d_split : FuncData
  a_without : Addr
  d_without : FuncData
  a_values_of : Addr
  d_values_of : FuncData
  a_least_disk : Addr
  d_least_disk : FuncData
  a_Paper_init : Addr
  d_Paper_init : FuncData
  a_Answer_init : Addr
  d_Answer_init : FuncData
  a_check_question : Addr
  d_check_question : FuncData
  a_packed_sketch : Addr
  d_packed_sketch : FuncData
  a_Search_init : Addr
  d_Search_init : FuncData
  a_Search_place : Addr
  d_Search_place : FuncData
  a_Search_places : Addr
  d_Search_places : FuncData
  a_Search_row : Addr
  d_Search_row : FuncData
  a_Search_history : Addr
  d_Search_history : FuncData
  a_tell : Addr
  d_tell : FuncData
  a_told_at_end : Addr
  d_told_at_end : FuncData
  a_check_range : Addr
  d_check_range : FuncData
  a_one : Addr
  d_one : FuncData
  a_set_to : Addr
  d_set_to : FuncData
  a_StripeForm_init : Addr
  d_StripeForm_init : FuncData
  a_begin_deeds : Addr
  d_begin_deeds : FuncData
  a_end_deeds : Addr
  d_end_deeds : FuncData
  a_rebuild_deeds : Addr
  d_rebuild_deeds : FuncData
  a_stripe_machine : Addr
  d_stripe_machine : FuncData
  a_law_cell : Addr
  d_law_cell : FuncData
  a_law_mix : Addr
  d_law_mix : FuncData
  a_law_stripe : Addr
  d_law_stripe : FuncData
  a_law_names : Addr
  d_law_names : FuncData
  a_law_reached : Addr
  d_law_reached : FuncData
  a_law_fits : Addr
  d_law_fits : FuncData
  a_law : Addr
  d_law : FuncData
  c_Machine : Addr
  c_Paper : Addr
  c_Answer : Addr
  c_Search : Addr
  c_StripeForm : Addr
  p_full : Addr
/-- what the top has left -/
structure Txt (K : PySem.W.Frag) (mg : Str → Option Value) (A : Ad) : Prop where
  F_is_name : Fun K "is_name" "is_name" s_is_name A.a_is_name A.d_is_name
  b_is_name : Binds K A.d_is_name ["text"] []
  g_is_name : mg "is_name" = some (.ref A.a_is_name)
  F_check_names : Fun K "_check_names" "_check_names" s_check_names A.a_check_names A.d_check_names
  b_check_names : Binds K A.d_check_names ["names"] []
  g_check_names : mg "_check_names" = some (.ref A.a_check_names)
  F_is_mask : Fun K "is_mask" "is_mask" s_is_mask A.a_is_mask A.d_is_mask
  b_is_mask : Binds K A.d_is_mask ["mask", "size"] []
  g_is_mask : mg "is_mask" = some (.ref A.a_is_mask)
  F_check_order : Fun K "_check_order" "_check_order" s_check_order A.a_check_order A.d_check_order
  b_check_order : Binds K A.d_check_order ["pairs", "count"] []
  g_check_order : mg "_check_order" = some (.ref A.a_check_order)
  F_Machine_init : Fun K "__init__" "Machine.__init__" s_Machine_init A.a_Machine_init A.d_Machine_init
  b_Machine_init : Binds K A.d_Machine_init ["self", "cells", "deeds", "first"] []
  m_Machine_init : Mk K A.c_Machine A.a_Machine_init
  F_Machine_check_deed : Fun K "_check_deed" "Machine._check_deed" s_Machine_check_deed A.a_Machine_check_deed A.d_Machine_check_deed
  b_Machine_check_deed : Binds K A.d_Machine_check_deed ["self", "sizes", "guard", "changes"] []
  m_Machine_check_deed : Meth K A.c_Machine "_check_deed" A.a_Machine_check_deed
  F_Machine_full : Fun K "full" "Machine.full" s_Machine_full A.a_Machine_full A.d_Machine_full
  b_Machine_full : Binds K A.d_Machine_full ["self"] []
  m_Machine_full : PropOf K A.c_Machine "full" A.p_full A.a_Machine_full
  F_check_sketch : Fun K "check_sketch" "check_sketch" s_check_sketch A.a_check_sketch A.d_check_sketch
  b_check_sketch : Binds K A.d_check_sketch ["machine", "sketch"] []
  g_check_sketch : mg "check_sketch" = some (.ref A.a_check_sketch)
  F_sketch_before : Fun K "sketch_before" "sketch_before" s_sketch_before A.a_sketch_before A.d_sketch_before
  b_sketch_before : Binds K A.d_sketch_before ["machine", "sketch", "deed"] []
  g_sketch_before : mg "sketch_before" = some (.ref A.a_sketch_before)
  F_meet : Fun K "meet" "meet" s_meet A.a_meet A.d_meet
  b_meet : Binds K A.d_meet ["a", "b"] []
  g_meet : mg "meet" = some (.ref A.a_meet)
  F_split : Fun K "_split" "_split" s_split A.a_split A.d_split
  b_split : Binds K A.d_split ["a", "b"] []
  g_split : mg "_split" = some (.ref A.a_split)
  F_without : Fun K "without" "without" s_without A.a_without A.d_without
  b_without : Binds K A.d_without ["a", "piece"] []
  g_without : mg "without" = some (.ref A.a_without)
  F_values_of : Fun K "values_of" "values_of" s_values_of A.a_values_of A.d_values_of
  b_values_of : Binds K A.d_values_of ["mask"] []
  g_values_of : mg "values_of" = some (.ref A.a_values_of)
  F_least_disk : Fun K "least_disk" "least_disk" s_least_disk A.a_least_disk A.d_least_disk
  b_least_disk : Binds K A.d_least_disk ["sketch"] []
  g_least_disk : mg "least_disk" = some (.ref A.a_least_disk)
  F_Paper_init : Fun K "__init__" "Paper.__init__" s_Paper_init A.a_Paper_init A.d_Paper_init
  b_Paper_init : Binds K A.d_Paper_init ["self", "sketches", "cover", "table"] []
  m_Paper_init : Mk K A.c_Paper A.a_Paper_init
  F_Answer_init : Fun K "__init__" "Answer.__init__" s_Answer_init A.a_Answer_init A.d_Answer_init
  b_Answer_init : Binds K A.d_Answer_init ["self", "told", "paper", "disk", "deeds"] []
  m_Answer_init : Mk K A.c_Answer A.a_Answer_init
  F_check_question : Fun K "check_question" "check_question" s_check_question A.a_check_question A.d_check_question
  b_check_question : Binds K A.d_check_question ["machine", "image", "piece"] []
  g_check_question : mg "check_question" = some (.ref A.a_check_question)
  F_packed_sketch : Fun K "packed_sketch" "packed_sketch" s_packed_sketch A.a_packed_sketch A.d_packed_sketch
  b_packed_sketch : Binds K A.d_packed_sketch ["sketch"] []
  g_packed_sketch : mg "packed_sketch" = some (.ref A.a_packed_sketch)
  F_Search_init : Fun K "__init__" "Search.__init__" s_Search_init A.a_Search_init A.d_Search_init
  b_Search_init : Binds K A.d_Search_init ["self", "machine", "piece"] []
  m_Search_init : Mk K A.c_Search A.a_Search_init
  F_Search_place : Fun K "place" "Search.place" s_Search_place A.a_Search_place A.d_Search_place
  b_Search_place : Binds K A.d_Search_place ["self", "sketch", "origin"] []
  m_Search_place : Meth K A.c_Search "place" A.a_Search_place
  F_Search_places : Fun K "places" "Search.places" s_Search_places A.a_Search_places A.d_Search_places
  b_Search_places : Binds K A.d_Search_places ["self", "sketch", "origin"] []
  m_Search_places : Meth K A.c_Search "places" A.a_Search_places
  F_Search_row : Fun K "row" "Search.row" s_Search_row A.a_Search_row A.d_Search_row
  b_Search_row : Binds K A.d_Search_row ["self", "number"] []
  m_Search_row : Meth K A.c_Search "row" A.a_Search_row
  F_Search_history : Fun K "history" "Search.history" s_Search_history A.a_Search_history A.d_Search_history
  b_Search_history : Binds K A.d_Search_history ["self"] []
  m_Search_history : Meth K A.c_Search "history" A.a_Search_history
  F_tell : Fun K "tell" "tell" s_tell A.a_tell A.d_tell
  b_tell : Binds K A.d_tell ["machine", "image", "piece"] []
  g_tell : mg "tell" = some (.ref A.a_tell)
  F_told_at_end : Fun K "told_at_end" "told_at_end" s_told_at_end A.a_told_at_end A.d_told_at_end
  b_told_at_end : Binds K A.d_told_at_end ["machine", "image", "piece"] []
  g_told_at_end : mg "told_at_end" = some (.ref A.a_told_at_end)
  F_check_range : Fun K "check_range" "check_range" s_check_range A.a_check_range A.d_check_range
  b_check_range : Binds K A.d_check_range ["number", "least", "greatest"] []
  g_check_range : mg "check_range" = some (.ref A.a_check_range)
  F_one : Fun K "one" "one" s_one A.a_one A.d_one
  b_one : Binds K A.d_one ["value"] []
  g_one : mg "one" = some (.ref A.a_one)
  F_set_to : Fun K "set_to" "set_to" s_set_to A.a_set_to A.d_set_to
  b_set_to : Binds K A.d_set_to ["cell", "value"] []
  g_set_to : mg "set_to" = some (.ref A.a_set_to)
  F_StripeForm_init : Fun K "__init__" "StripeForm.__init__" s_StripeForm_init A.a_StripeForm_init A.d_StripeForm_init
  b_StripeForm_init : Binds K A.d_StripeForm_init ["self", "alphabet"] []
  m_StripeForm_init : Mk K A.c_StripeForm A.a_StripeForm_init
  F_begin_deeds : Fun K "_begin_deeds" "_begin_deeds" s_begin_deeds A.a_begin_deeds A.d_begin_deeds
  b_begin_deeds : Binds K A.d_begin_deeds ["form"] []
  g_begin_deeds : mg "_begin_deeds" = some (.ref A.a_begin_deeds)
  F_end_deeds : Fun K "_end_deeds" "_end_deeds" s_end_deeds A.a_end_deeds A.d_end_deeds
  b_end_deeds : Binds K A.d_end_deeds ["form"] []
  g_end_deeds : mg "_end_deeds" = some (.ref A.a_end_deeds)
  F_rebuild_deeds : Fun K "_rebuild_deeds" "_rebuild_deeds" s_rebuild_deeds A.a_rebuild_deeds A.d_rebuild_deeds
  b_rebuild_deeds : Binds K A.d_rebuild_deeds ["form"] []
  g_rebuild_deeds : mg "_rebuild_deeds" = some (.ref A.a_rebuild_deeds)
  F_stripe_machine : Fun K "stripe_machine" "stripe_machine" s_stripe_machine A.a_stripe_machine A.d_stripe_machine
  b_stripe_machine : Binds K A.d_stripe_machine ["form"] []
  g_stripe_machine : mg "stripe_machine" = some (.ref A.a_stripe_machine)
  F_law_cell : Fun K "_law_cell" "_law_cell" s_law_cell A.a_law_cell A.d_law_cell
  b_law_cell : Binds K A.d_law_cell ["_law_script", "_law_k"] []
  g_law_cell : mg "_law_cell" = some (.ref A.a_law_cell)
  F_law_mix : Fun K "_law_mix" "_law_mix" s_law_mix A.a_law_mix A.d_law_mix
  b_law_mix : Binds K A.d_law_mix ["_law_cell_here", "_law_k"] []
  g_law_mix : mg "_law_mix" = some (.ref A.a_law_mix)
  F_law_stripe : Fun K "_law_stripe" "_law_stripe" s_law_stripe A.a_law_stripe A.d_law_stripe
  b_law_stripe : Binds K A.d_law_stripe ["_law_values", "_law_disk", "_law_name"] []
  g_law_stripe : mg "_law_stripe" = some (.ref A.a_law_stripe)
  F_law_names : Fun K "_law_names" "_law_names" s_law_names A.a_law_names A.d_law_names
  b_law_names : Binds K A.d_law_names ["_law_values"] []
  g_law_names : mg "_law_names" = some (.ref A.a_law_names)
  F_law_reached : Fun K "_law_reached" "_law_reached" s_law_reached A.a_law_reached A.d_law_reached
  b_law_reached : Binds K A.d_law_reached ["_law_values"] []
  g_law_reached : mg "_law_reached" = some (.ref A.a_law_reached)
  F_law_fits : Fun K "_law_fits" "_law_fits" s_law_fits A.a_law_fits A.d_law_fits
  b_law_fits : Binds K A.d_law_fits ["_law_image", "_law_disk"] []
  g_law_fits : mg "_law_fits" = some (.ref A.a_law_fits)
  F_law : Fun K "law" "law" s_law A.a_law A.d_law
  b_law : Binds K A.d_law ["_law_script"] []
  g_law : mg "law" = some (.ref A.a_law)
  cl_Machine : Cls K A.c_Machine
  g_Machine : mg "Machine" = some (.ref A.c_Machine)
  n_Machine_cells : NoAttr K A.c_Machine "cells"
  n_Machine_deeds : NoAttr K A.c_Machine "deeds"
  n_Machine_first : NoAttr K A.c_Machine "first"
  cl_Paper : Cls K A.c_Paper
  g_Paper : mg "Paper" = some (.ref A.c_Paper)
  n_Paper_sketches : NoAttr K A.c_Paper "sketches"
  n_Paper_cover : NoAttr K A.c_Paper "cover"
  n_Paper_table : NoAttr K A.c_Paper "table"
  cl_Answer : Cls K A.c_Answer
  g_Answer : mg "Answer" = some (.ref A.c_Answer)
  n_Answer_told : NoAttr K A.c_Answer "told"
  n_Answer_paper : NoAttr K A.c_Answer "paper"
  n_Answer_disk : NoAttr K A.c_Answer "disk"
  n_Answer_deeds : NoAttr K A.c_Answer "deeds"
  cl_Search : Cls K A.c_Search
  g_Search : mg "Search" = some (.ref A.c_Search)
  n_Search__machine : NoAttr K A.c_Search "_machine"
  n_Search__piece : NoAttr K A.c_Search "_piece"
  n_Search__packed : NoAttr K A.c_Search "_packed"
  n_Search_sketches : NoAttr K A.c_Search "sketches"
  n_Search_origins : NoAttr K A.c_Search "origins"
  n_Search_found : NoAttr K A.c_Search "found"
  cl_StripeForm : Cls K A.c_StripeForm
  g_StripeForm : mg "StripeForm" = some (.ref A.c_StripeForm)
  n_StripeForm_alphabet : NoAttr K A.c_StripeForm "alphabet"
  i_MOST_CELLS : ∃ t, mg "MOST_CELLS" = some (.int 24 t)
  i_MOST_VALUES : ∃ t, mg "MOST_VALUES" = some (.int 16 t)
  i_MOST_DEEDS : ∃ t, mg "MOST_DEEDS" = some (.int 400 t)
  i_LONGEST_NAME : ∃ t, mg "LONGEST_NAME" = some (.int 12 t)
  i_PARITY : ∃ t, mg "PARITY" = some (.int 2 t)
  i_WORK : ∃ t, mg "WORK" = some (.int 3 t)
  i_NO_WORK : ∃ t, mg "NO_WORK" = some (.int 0 t)
  i_SOME_WORK : ∃ t, mg "SOME_WORK" = some (.int 6 t)
  i_LOWER : ∃ t, mg "LOWER" = some (.str "abcdefghijklmnopqrstuvwxyz" t)
  i_DIGITS : ∃ t, mg "DIGITS" = some (.str "0123456789" t)
  z_len : mg "len" = none
  z_all : mg "all" = none
  z_set : mg "set" = none
  z_tuple : mg "tuple" = none
  z_list : mg "list" = none
  z_zip : mg "zip" = none
  z_range : mg "range" = none
  z_enumerate : mg "enumerate" = none
  z_int : mg "int" = none
  z_str : mg "str" = none
  z_isinstance : mg "isinstance" = none
  z_bool : mg "bool" = none
end Rw
set_option Elab.async false
set_option linter.all false
set_option maxRecDepth 100000
set_option maxHeartbeats 2000000
/-! rules of our own, where the layer has none: xs[i] op= e; enumerate of a tuple; zip of a list and a tuple; len(set(texts)); {tuple: value} -/
namespace Rw
open PySem PySem.Spec PyProof.Rows L2
section
variable {X : Cx}
/-! ### xs[i] op= e -/
def gtL : V → V → Hp → VK → Prop := fun o i H Q => ∃ (p : Addr) (xs : List V) (j : Nat) (v : V), o = .ref p ∧ i = .int (j : Int) ∧ H p = some (.lst xs) ∧ xs[j]? = some v ∧ Q v H
theorem get_list : PGet X gtL := by
  intro pins s σ H o i ov iv Q I ro ri ⟨p, xs, j, v, eo, ei, hp, hv, q⟩
  subst eo ei
  cases ro
  obtain ⟨t, rfl⟩ := ri
  obtain ⟨its, r, pl, hz⟩ := I.list (SqL.of hp)
  obtain ⟨u, hu, ru⟩ := r.get hv
  have hj : j < xs.length := (List.getElem?_eq_some_iff.mp hv).1
  have := line63
  refine wpAny_getItem_list pl.isList (by omega) (by omega) (x := u) ?_ ⟨v, H, I, ru, q⟩
  simpa using hu

/-! ### a list or a tuple -/
def SqK : Bool → PySem.W.Frag → Hp → Addr → List V → Prop
  | true, K, H, a, xs => SqL K H a xs
  | false, K, H, a, xs => SqT K H a xs
def HpK : Bool → Heap → Addr → Array Value → Prop
  | true, h, a, its => h.IsList a its
  | false, h, a, its => h.IsTuple a its
def ItK : Bool → Heap → Addr → Addr → Nat → Prop
  | true, h, it, a, i => h.IsListIter it a i
  | false, h, it, a, i => h.IsTupleIter it a i
def itO : Bool → Addr → Obj
  | true, a => { cls := .type "list_iterator", data := .fields #[.ref a, .int 0 0] }
  | false, a => { cls := .type "tuple_iterator", data := .fields #[.ref a, .int 0 0] }
theorem SqK.get {k : Bool} {pins : List (Addr × Obj)} {σ : L2.St} {H : Hp} {s : Shared} {a : Addr} {xs : List V} (I : L2.Inv X pins σ H s) (h : SqK k X.K H a xs) : ∃ its : List Value, Vals xs its ∧ HpK k s.heap a its.toArray ∧ a < s.heap.objs.size := by
  cases k with
  | true =>
    obtain ⟨its, r, pl, _⟩ := I.list h
    exact ⟨its, r, pl.isList, pl.lt⟩
  | false =>
    obtain ⟨its, r, p, _⟩ := I.tuple h
    obtain ⟨o, ho, _⟩ := id p
    exact ⟨its, r, p, Heap.lt_size ho⟩
theorem SqK.inj {k : Bool} {pins : List (Addr × Obj)} {σ : L2.St} {H : Hp} {s : Shared} {a : Addr} {xs ys : List V} (I : L2.Inv X pins σ H s) (h : SqK k X.K H a xs) (h' : SqK k X.K H a ys) : xs = ys := by
  cases k with
  | true => exact I.list_inj h h'
  | false => exact I.tuple_inj h h'
theorem drawsK {prog : Program} {w : World} {A : Around} (hh : A.handled = none) (k : Bool) (it a : Addr) (hne : a ≠ it) (its : Array Value) :
    Draws prog w A it [it, a] its.size (fun i v => its[i]? = some v) (fun i h => ItK k h it a i ∧ HpK k h a its) := by
  cases k with
  | true => exact Draws.list hh it a hne its
  | false => exact Draws.tuple hh it a hne its
theorem beginsK (k : Bool) (a : Addr) (its : Array Value) : Begins (.ref a) (itO k a) (fun h => HpK k h a its) := by
  cases k with
  | true => exact begins_list a its
  | false => exact begins_tuple a its
theorem itK_zero {k : Bool} {h : Heap} {it a : Addr} (e : h.get? it = some (itO k a)) : ItK k h it a 0 := by
  cases k with
  | true => exact ⟨_, e, rfl, rfl⟩
  | false => exact ⟨_, e, rfl, rfl⟩
theorem ItK.at_ {k : Bool} {h h' : Heap} {it a : Addr} {i : Nat} (x : ItK k h it a i) (kp : ∀ o, h.get? it = some o → h'.get? it = some o) : ItK k h' it a i := by
  cases k with
  | true => exact Heap.IsListIter.at x kp
  | false => exact Heap.IsTupleIter.at x kp
theorem ItK.obj {k : Bool} {h : Heap} {it a : Addr} {i : Nat} (x : ItK k h it a i) : ∃ o, h.get? it = some o ∧ ∀ v : Option Value, o.data ≠ .cell v := by
  cases k with
  | true => obtain ⟨o, ho, hc, hd⟩ := x; exact ⟨o, ho, fun v q => by rw [hd] at q; cases q⟩
  | false => obtain ⟨o, ho, hc, hd⟩ := x; exact ⟨o, ho, fun v q => by rw [hd] at q; cases q⟩

/-! ### zip of two, each a list or a tuple -/
def Izk (k1 k2 : Bool) (K : PySem.W.Frag) (a b : Addr) : It :=
  ⟨fun i H => ∃ (xs ys : List V) (x y : V), SqK k1 K H a xs ∧ SqK k2 K H b ys ∧ xs[i]? = some x ∧ ys[i]? = some y,
    fun i H v H' => ∃ T x y, v = .ref T ∧ H T = none ∧ H' = upd H T (.tup [x, y]) ∧ (∀ xs, SqK k1 K H a xs → xs[i]? = some x) ∧ ∀ ys, SqK k2 K H b ys → ys[i]? = some y,
    fun i H => ∃ xs ys : List V, SqK k1 K H a xs ∧ SqK k2 K H b ys ∧ i = min xs.length ys.length⟩
theorem turn_zk {P : Program} {w : World} {K : PySem.W.Frag} {elts : List Expr} {kk : Nat} {tpos : Pos} {k1 k2 : Bool} {a b z TI TO i1 i2 : Addr} (D : ZipSep2 z TI TO i1 i2 [i1, a] [i2, b]) (n1 : a ≠ i1) (n2 : b ≠ i2) :
    Turn P w K (.Tuple elts kk tpos) (Izk k1 k2 K a b) [z, TI, TO, i1, i2] z (fun i h => IsZip h z TI TO .none ∧ IsTupOf2 h TI (.ref i1) (.ref i2) ∧ (∃ x y, IsTupOf2 h TO x y) ∧ ItK k1 h i1 a i ∧ ItK k2 h i2 b i) where
  mem := List.mem_cons_self
  obj := fun i h ⟨hz, hTI, ⟨x, y, hTO⟩, h1, h2⟩ c hc => by
    simp only [List.mem_cons, List.not_mem_nil, or_false] at hc
    rcases hc with q | q | q | q | q <;> subst q
    · exact ⟨_, hz, fun v q => (nomatch q)⟩
    · exact ⟨_, hTI, fun v q => (nomatch q)⟩
    · exact ⟨_, hTO, fun v q => (nomatch q)⟩
    · exact h1.obj
    · exact h2.obj
  keep := fun i h h' ⟨hz, hTI, ⟨x, y, hTO⟩, h1, h2⟩ k =>
    ⟨k z (by simp) _ hz, k TI (by simp) _ hTI, ⟨x, y, k TO (by simp) _ hTO⟩, h1.at_ fun o q => k i1 (by simp) o q, h2.at_ fun o q => k i2 (by simp) o q⟩
  item := by
    intro X hP hw hK hc i pins s σ H E I hf ⟨hz, hTI, hTO, h1, h2⟩ hg
    subst hP hw hK
    obtain ⟨xs, ys, x, y, hqx, hqy, hx, hy⟩ := hg
    obtain ⟨its, rv, p1, l1⟩ := hqx.get I
    obtain ⟨its2, rv2, p2, l2⟩ := hqy.get I
    obtain ⟨u, hu, ru⟩ := rv.get hx
    obtain ⟨u2, hu2, ru2⟩ := rv2.get hy
    have hh : X.A.in1.handled = none := I.ok.hd hc
    have W := GoesN.zip2 (prog := X.prog) (w := X.w) (A := X.A) (elts := elts) (x1 := kk) (pos := tpos) D (drawsK hh k1 i1 a n1 its.toArray) (drawsK hh k2 i2 b n2 its2.toArray)
    have b1 : i < its.toArray.size := by simpa using (List.getElem?_eq_some_iff.mp hu).1
    have b2 : i < its2.toArray.size := by simpa using (List.getElem?_eq_some_iff.mp hu2).1
    refine W.goes i s _ E (by omega) ⟨hz, hTI, hTO, ⟨h1, p1⟩, ⟨h2, p2⟩⟩ fun v h' tk ⟨T, x', y', ev, hT, ex, ey, hTup⟩ st' hk _ => ?_
    subst ev
    obtain rfl : x' = u := Option.some.inj (ex.symm.trans (by simpa using hu))
    obtain rfl : y' = u2 := Option.some.inj (ey.symm.trans (by simpa using hu2))
    have new : ObjOk X.prog X.w (upd H T (.tup [x, y])) h' T (.tup [x, y]) := ⟨by show 2 ≤ sizeLine; decide, [x', y'], .cons ru (.cons ru2 .nil), hTup⟩
    have I1 := I.turnedNew (t' := tk) (ch := [z, TO, i1, i2]) (T := T) (ob := .tup [x, y]) hk (fun c hcm => hf c (by simp only [List.mem_cons, List.not_mem_nil, or_false] at hcm ⊢; rcases hcm with q | q | q | q <;> simp [q])) hT new
    refine ⟨.ref T, _, I1, rfl, ⟨T, x, y, rfl, I.hok.fresh hT, rfl, fun l hl => by rw [hl.inj I hqx]; exact hx, fun l hl => by rw [hl.inj I hqy]; exact hy⟩, ⟨st'.1, st'.2.1, st'.2.2.1, st'.2.2.2.1.1, st'.2.2.2.2.1⟩, fun c hcm => ?_⟩
    have hlt : c < s.heap.objs.size := by
      simp only [List.mem_cons, List.not_mem_nil, or_false] at hcm
      rcases hcm with q | q | q | q | q <;> subst q
      · exact Heap.lt_size hz
      · exact Heap.lt_size hTI
      · obtain ⟨_, _, q⟩ := hTO; exact Heap.lt_size q
      · obtain ⟨_, q, _⟩ := h1.obj; exact Heap.lt_size q
      · obtain ⟨_, q, _⟩ := h2.obj; exact Heap.lt_size q
    rw [upd_ne (Nat.ne_of_lt (Nat.lt_of_lt_of_le hlt hT))]
    exact (hf c hcm).1
  done := by
    intro X hP hw hK hc i pins s σ H E I hf ⟨hz, hTI, hTO, h1, h2⟩ hg
    subst hP hw hK
    obtain ⟨xs, ys, hqx, hqy, hend⟩ := hg
    obtain ⟨its, rv, p1, l1⟩ := hqx.get I
    obtain ⟨its2, rv2, p2, l2⟩ := hqy.get I
    have hh : X.A.in1.handled = none := I.ok.hd hc
    have W := GoesN.zip2 (prog := X.prog) (w := X.w) (A := X.A) (elts := elts) (x1 := kk) (pos := tpos) D (drawsK hh k1 i1 a n1 its.toArray) (drawsK hh k2 i2 b n2 its2.toArray)
    have en : i = min its.toArray.size its2.toArray.size := by rw [hend, rv.length, rv2.length]; simp
    subst en
    exact W.stops s _ E ⟨hz, hTI, hTO, ⟨h1, p1⟩, ⟨h2, p2⟩⟩ fun h' tk hk _ =>
      I.turnedL (t' := tk) (ch := [z, TI, TO, i1, i2]) (fun c o hb q => hk c o (fun q' => hb (by simp only [List.mem_cons, List.not_mem_nil, or_false] at q' ⊢; rcases q' with q | q | q | q <;> simp [q])) q) hf
  self := fun A i s Q E st h => wpAny_pyIter_zip st.1 h
def iZk (k1 k2 : Bool) (K : PySem.W.Frag) (ta : TA) : TI := fun σ H R => ta σ H fun vs H1 => ∃ a b xs ys, vs = [.ref a, .ref b] ∧ SqK k1 K H1 a xs ∧ SqK k2 K H1 b ys ∧ R (Izk k1 k2 K a b) H1
theorem pi_zk (k1 k2 : Bool) {e e2 : Expr} {ta : TA} {p pos tpos : Pos} {elts : List Expr} {kk : Nat} (hg : Gl X "zip") (hm : X.mg "zip" = none) (ha : PA X [e, e2] ta)
    (hs : starEach [e, e2] X.env = (false, eval e X.env) :: starEach [e2] X.env := by rfl) (hpl : (backTo pos (starEach [e2] X.env)).any (·.1) = false := by rfl) :
    PI X (.Tuple elts kk tpos) (.Call (.Name "zip" p) [e, e2] [] pos) (iZk k1 k2 X.K ta) := by
  refine ⟨fun pins s σ H R I h => Call_ (ld_blt I hg hm PyProof.Rows.boot_zip (PyProof.Rows.callWith_type1 (thn (ha.run pos pins s σ H _ I h) fun us s1 ⟨vs, H1, I1, r1, q1⟩ => ?_) hs hpl))⟩
  obtain ⟨a, b, xs, ys, ex, hqx, hqy, q⟩ := q1
  subst ex
  obtain ⟨u1, u2, rfl, r1, r2⟩ : ∃ u1 u2, us = [u1, u2] ∧ RelV (.ref a) u1 ∧ RelV (.ref b) u2 := by
    cases r1 with
    | cons r rr =>
      cases rr with
      | cons r' rr =>
        cases rr
        exact ⟨_, _, rfl, r, r'⟩
  cases r1
  cases r2
  obtain ⟨its, rv, p1, l1⟩ := hqx.get I1
  obtain ⟨its2, rv2, p2, l2⟩ := hqy.get I1
  refine zip_begins2 (beginsK k1 a its.toArray) (beginsK k2 b its2.toArray) p1 p2 fun h' hz hTI hTO h1 h2 hsz hk => wpAny_pyIter_zip hz ?_
  have I2 : L2.Inv X pins σ H1 { s1 with heap := h' } := I1.kept (t' := s1.toks) hk
  refine ⟨s1.heap.objs.size + 4, [s1.heap.objs.size + 4, s1.heap.objs.size + 2, s1.heap.objs.size + 3, s1.heap.objs.size, s1.heap.objs.size + 1], _, _, H1, rfl, I2,
    turn_zk (zip_sep2 (N := s1.heap.objs.size) (fp1 := [a]) (fp2 := [b]) (by simpa using l1) (by simpa using l2)) (Nat.ne_of_lt l1) (Nat.ne_of_lt (Nat.lt_succ_of_lt l2)), ⟨hz, hTI, ⟨_, _, hTO⟩, itK_zero h1, itK_zero h2⟩, fun c hcm => ?_, q⟩
  have hle : s1.heap.objs.size ≤ c := by
    simp only [List.mem_cons, List.not_mem_nil, or_false] at hcm
    rcases hcm with z | z | z | z | z <;> rw [z] <;> first | exact Nat.le_refl _ | exact Nat.le_add_right _ _
  exact I1.fpOk hle (I1.hok.fresh hle)
/-- a loop over such a zip -/
theorem for_zk {k1 k2 : Bool} {K : PySem.W.Frag} {a b : Addr} {xs ys : List V} {g : TG} {tb : TS} {D : Ends} {σ : L2.St} {H : Hp} (hl : xs.length = ys.length) (Pv : Nat → L2.St → Hp → Prop) (h0 : Pv 0 σ H) (hq : ∀ i σ H, Pv i σ H → SqK k1 K H a xs ∧ SqK k2 K H b ys)
    (hs : ∀ (i : Nat) (x y : V) (T : Addr) (σ : L2.St) (H : Hp), xs[i]? = some x → ys[i]? = some y → Pv i σ H → H T = none → g (.ref T) σ (upd H T (.tup [x, y])) fun σ2 H2 => tb { D with nx := Pv (i + 1), ct := Pv (i + 1), bk := D.nx } σ2 H2) (hd : ∀ σ H, Pv xs.length σ H → D.nx σ H) :
    ∃ W : Nat → Nat → L2.St → Hp → Prop, (∃ m, W 0 m σ H) ∧ ∀ i m σ H, W i m σ H →
      ((Izk k1 k2 K a b).stop i H ∧ D.nx σ H) ∨ ((Izk k1 k2 K a b).go i H ∧ ∃ N : L2.St → Hp → Prop, (∀ σ' H', N σ' H' → ∃ m', m' < m ∧ W (i + 1) m' σ' H') ∧ ∀ v H', (Izk k1 k2 K a b).yld i H v H' → g v σ H' fun σ2 H2 => tb { D with nx := N, ct := N, bk := D.nx } σ2 H2) := by
  refine ⟨fun i m σ H => m = xs.length - i ∧ i ≤ xs.length ∧ Pv i σ H, ⟨_, rfl, Nat.zero_le _, h0⟩, fun i m σ H ⟨em, hi, p⟩ => ?_⟩
  obtain ⟨qx, qy⟩ := hq i σ H p
  by_cases e : i = xs.length
  · subst e
    exact .inl ⟨⟨xs, ys, qx, qy, by rw [← hl, Nat.min_self]⟩, hd σ H p⟩
  · have hlt : i < xs.length := by omega
    refine .inr ⟨⟨xs, ys, xs[i], ys[i]'(by omega), qx, qy, List.getElem?_eq_getElem _, List.getElem?_eq_getElem _⟩, Pv (i + 1), fun σ' H' p' => ⟨_, by omega, rfl, hlt, p'⟩, ?_⟩
    rintro v H' ⟨T, x', y', rfl, hT, rfl, f1, f2⟩
    exact hs i x' y' T σ H (f1 xs qx) (f2 ys qy) p hT
/-- a comprehension over such a zip -/
theorem lc_zk {k1 k2 : Bool} {K : PySem.W.Frag} {a b : Addr} {xs ys : List V} {g : TG} {tt : TT} {te : TE} {vs : List Nat} {σ : L2.St} {H1 : Hp} {D : Addr} {Qd : Hp → Prop} (hl : xs.length = ys.length) (Pv : Nat → Hp → Prop) (h0 : Pv 0 (upd H1 D (.lst [])))
    (hq : ∀ i H, Pv i H → SqK k1 K H a xs ∧ SqK k2 K H b ys)
    (hs : ∀ (i : Nat) (x y : V) (T : Addr) (H : Hp), xs[i]? = some x → ys[i]? = some y → Pv i H → H T = none → g (.ref T) (wipe σ vs) (upd H T (.tup [x, y])) fun σ2 H2 => wipe σ2 vs = wipe σ vs ∧ tt σ2 H2 fun b H3 =>
      if b = true then te σ2 H3 fun y H4 => ∃ acc, H4 D = some (.lst acc) ∧ acc.length < sizeLine ∧ Pv (i + 1) (upd H4 D (.lst (acc ++ [y]))) else Pv (i + 1) H3) (hd : ∀ H, Pv xs.length H → Qd H) :
    ∃ W : Nat → Nat → Hp → Prop, (∃ m, W 0 m (upd H1 D (.lst []))) ∧ ∀ i m H, W i m H →
      ((Izk k1 k2 K a b).stop i H ∧ Qd H) ∨ ((Izk k1 k2 K a b).go i H ∧ ∃ Nx : Hp → Prop, (∀ H', Nx H' → ∃ m', m' < m ∧ W (i + 1) m' H') ∧ ∀ x H', (Izk k1 k2 K a b).yld i H x H' → g x (wipe σ vs) H' fun σ2 H2 => wipe σ2 vs = wipe σ vs ∧ tt σ2 H2 fun b H3 =>
        if b = true then te σ2 H3 fun y H4 => ∃ acc, H4 D = some (.lst acc) ∧ acc.length < sizeLine ∧ Nx (upd H4 D (.lst (acc ++ [y]))) else Nx H3) := by
  refine ⟨fun i m H => m = xs.length - i ∧ i ≤ xs.length ∧ Pv i H, ⟨_, rfl, Nat.zero_le _, h0⟩, fun i m H ⟨em, hi, p⟩ => ?_⟩
  obtain ⟨qx, qy⟩ := hq i H p
  by_cases e : i = xs.length
  · subst e
    exact .inl ⟨⟨xs, ys, qx, qy, by rw [← hl, Nat.min_self]⟩, hd H p⟩
  · have hlt : i < xs.length := by omega
    refine .inr ⟨⟨xs, ys, xs[i], ys[i]'(by omega), qx, qy, List.getElem?_eq_getElem _, List.getElem?_eq_getElem _⟩, Pv (i + 1), fun H' p' => ⟨_, by omega, rfl, hlt, p'⟩, ?_⟩
    rintro v H' ⟨T, x', y', rfl, hT, rfl, f1, f2⟩
    exact hs i x' y' T H (f1 xs qx) (f2 ys qy) p hT
end
end Rw
set_option Elab.async false
set_option linter.all false
set_option maxRecDepth 100000
set_option maxHeartbeats 4000000
namespace PySem
open Sem (wp)
open AutoSeq1 (wpAny_loadPart')
/-- enumerate(v): what its making needs of v -/
theorem rw_enum_new {v : Value} {o : Obj} {F0 : Heap → Prop} (B : Begins v o F0) :
    Meets (Builtin.«enumerate.__new__» ⟨[.type "enumerate", v], []⟩) (fun _ R s => F0 s.heap ∧
      R (.ok (.ret (.ref (s.heap.push o).objs.size))) { s with heap := (s.heap.push o).push { cls := .type "enumerate", data := .fields #[.none, .bool false, .ref s.heap.objs.size, rawInt 0, .none, .none] } }) :=
  .of_wp fun prog w A R s ⟨hF, h⟩ => by
    obtain ⟨hp, gs, dn, tk, os⟩ := s
    have hsub := sub_enumerate
    have begun : ∀ {A' : Around} {E : Value → Shared → Prop} {Q : Value → Shared → Prop}, Q (.ref hp.objs.size) ⟨hp.push o, gs, dn, tk, os⟩ → wpAny (model prog w) A' (pyIter v) Q E ⟨hp, gs, dn, tk, os⟩ := fun q => B.iter prog w _ _ ⟨hp, gs, dn, tk, os⟩ _ hF q
    wp_walk using begun
    refine wpAny_stack_any fun st => wpAny_pure ?_
    split
    · rename_i c _ _ _ _ _
      cases (c == Value.type "enumerate") <;> (wp_walk using begun; exact ⟨_, rfl, h⟩)
    · wp_walk using begun
      exact ⟨_, rfl, h⟩
theorem rw_call_enum {prog : Program} {w : World} {A : Around} {E : Value → Shared → Prop} {s : Shared} {v : Value} {o : Obj} {F0 : Heap → Prop} {Q : Value → Shared → Prop} (B : Begins v o F0) (hF : F0 s.heap)
    (h : ∀ h', IsEnum h' (s.heap.objs.size + 1) s.heap.objs.size 0 .none → h'.get? s.heap.objs.size = some o → (∀ b q, s.heap.get? b = some q → h'.get? b = some q) → Q (.ref (s.heap.objs.size + 1)) { s with heap := h' }) :
    wpAny (model prog w) A (call (.type "enumerate") [v]) Q E s := by
  refine callType_new F.called_enumerate (by decide) (F.typeCall_enumerate_1 _) (F.newCall_enumerate_1 _) (fun obj => F.args_object_init_2 obj _) F.entry_enumerate_new (rw_enum_new B) ⟨hF, ?_⟩
  have hz : (s.heap.push o).objs.size = s.heap.objs.size + 1 := Heap.size_push ..
  have he := Heap.get?_push_size (s.heap.push o) (o := { cls := .type "enumerate", data := .fields #[.none, .bool false, .ref s.heap.objs.size, rawInt 0, .none, .none] }) rfl
  show _ ∧ _
  rw [hz] at he ⊢
  exact ⟨⟨_, he, rfl⟩, h _ he (Heap.get?_push_of_some _ (Heap.get?_push_size _ B.free)) fun b q x => Heap.get?_push_of_some _ (Heap.get?_push_of_some _ x)⟩
end PySem
namespace Rw
open PySem PySem.Spec PyProof.Rows L2
section
variable {X : Cx}
/-! ### enumerate of a list or a tuple -/
def Iek (k : Bool) (K : PySem.W.Frag) (a : Addr) : It :=
  ⟨fun i H => ∃ (xs : List V) (x : V), SqK k K H a xs ∧ xs[i]? = some x,
    fun i H v H' => ∃ T x, v = .ref T ∧ H T = none ∧ H' = upd H T (.tup [.int (i : Nat), x]) ∧ ∀ xs, SqK k K H a xs → xs[i]? = some x,
    fun i H => ∃ xs : List V, SqK k K H a xs ∧ i = xs.length⟩
theorem turn_ek {P : Program} {w : World} {K : PySem.W.Frag} {elts : List Expr} {kk : Nat} {tpos : Pos} {k : Bool} {a e it : Addr} (ne : e ≠ it) (ea : e ≠ a) (na : a ≠ it) :
    Turn P w K (.Tuple elts kk tpos) (Iek k K a) [e, it] e (fun i h => (∃ old, IsEnum h e it (0 + (i : Int)) old) ∧ ItK k h it a i) where
  mem := List.mem_cons_self
  obj := fun i h ⟨⟨old, he⟩, hi⟩ c hc => by
    simp only [List.mem_cons, List.not_mem_nil, or_false] at hc
    rcases hc with q | q <;> subst q
    · exact ⟨_, he, fun v q => (nomatch q)⟩
    · exact hi.obj
  keep := fun i h h' ⟨⟨old, he⟩, hi⟩ k => ⟨⟨old, k e (by simp) _ he⟩, hi.at_ fun o q => k it (by simp) o q⟩
  item := by
    intro X hP hw hK hc i pins s σ H E I hf ⟨he, hi⟩ ⟨xs, x, hq, hx⟩
    subst hP hw hK
    obtain ⟨its, rv, p, l⟩ := hq.get I
    obtain ⟨u, hu, ru⟩ := rv.get hx
    have hh : X.A.in1.handled = none := I.ok.hd hc
    have W := GoesN.enumFrom (prog := X.prog) (w := X.w) (A := X.A) (elts := elts) (x1 := kk) (pos := tpos) 0 (drawsK hh k it a na its.toArray) e ne (by simp [ne, ea]) (by simp)
    refine W.goes i s _ E (by simpa using (List.getElem?_eq_some_iff.mp hu).1) ⟨he, hi, p⟩ fun v h' tk ⟨T, t, x', ev, hT, ex, hTup⟩ st' hk _ => ?_
    subst ev
    obtain rfl : x' = u := Option.some.inj (ex.symm.trans (by simpa using hu))
    rw [Int.zero_add] at hTup
    have new : ObjOk X.prog X.w (upd H T (.tup [.int (i : Nat), x])) h' T (.tup [.int (i : Nat), x]) := ⟨by show 2 ≤ sizeLine; decide, [.int i t, x'], .cons ⟨_, rfl⟩ (.cons ru .nil), hTup⟩
    have I1 := I.turnedNew (t' := tk) (ch := [e, it]) (T := T) (ob := .tup [.int (i : Nat), x]) hk hf hT new
    refine ⟨.ref T, _, I1, rfl, ⟨T, x, rfl, I.hok.fresh hT, rfl, fun l hl => by rw [hl.inj I hq]; exact hx⟩, ⟨st'.1, st'.2.1⟩, fun c hcm => ?_⟩
    have hlt : c < s.heap.objs.size := by
      simp only [List.mem_cons, List.not_mem_nil, or_false] at hcm
      rcases hcm with q | q <;> subst q
      · obtain ⟨_, q⟩ := he; exact Heap.lt_size q
      · obtain ⟨_, q, _⟩ := hi.obj; exact Heap.lt_size q
    rw [upd_ne (Nat.ne_of_lt (Nat.lt_of_lt_of_le hlt hT))]
    exact (hf c hcm).1
  done := by
    intro X hP hw hK hc i pins s σ H E I hf ⟨he, hi⟩ ⟨xs, hq, hend⟩
    subst hP hw hK
    obtain ⟨its, rv, p, l⟩ := hq.get I
    have hh : X.A.in1.handled = none := I.ok.hd hc
    have W := GoesN.enumFrom (prog := X.prog) (w := X.w) (A := X.A) (elts := elts) (x1 := kk) (pos := tpos) 0 (drawsK hh k it a na its.toArray) e ne (by simp [ne, ea]) (by simp)
    have en : i = its.toArray.size := by rw [hend, rv.length]; simp
    subst en
    exact W.stops s _ E ⟨he, hi, p⟩ fun h' tk hk _ => I.turnedL (t' := tk) (ch := [e, it]) hk hf
  self := fun A i s Q E ⟨⟨_, he⟩, _⟩ h => wpAny_pyIter_enum he h
def iEk (k : Bool) (K : PySem.W.Frag) (ta : TA) : TI := fun σ H R => ta σ H fun vs H1 => ∃ a xs, vs = [.ref a] ∧ SqK k K H1 a xs ∧ R (Iek k K a) H1
theorem pi_ek (k : Bool) {e : Expr} {ta : TA} {p pos tpos : Pos} {elts : List Expr} {kk : Nat} (hg : Gl X "enumerate") (hm : X.mg "enumerate" = none) (ha : PA X [e] ta) (hs : starEach [e] X.env = [(false, eval e X.env)] := by rfl) :
    PI X (.Tuple elts kk tpos) (.Call (.Name "enumerate" p) [e] [] pos) (iEk k X.K ta) := by
  refine ⟨fun pins s σ H R I h => Call_ (ld_blt I hg hm boot_enumerate (PyProof.Rows.callWith_type1 (thn (ha.run pos pins s σ H _ I h) fun us s1 ⟨vs, H1, I1, r1, q1⟩ => ?_) hs rfl))⟩
  obtain ⟨a, xs, ex, hq, q⟩ := q1
  subst ex
  obtain ⟨u1, rfl, r1'⟩ : ∃ u1, us = [u1] ∧ RelV (.ref a) u1 := by
    cases r1 with
    | cons r rr => cases rr; exact ⟨_, rfl, r⟩
  obtain rfl : u1 = Value.ref a := r1'
  obtain ⟨its, rv, p1, l1⟩ := hq.get I1
  refine rw_call_enum (beginsK k a its.toArray) p1 fun h' he hi hk => wpAny_pyIter_enum he ?_
  have I2 : L2.Inv X pins σ H1 { s1 with heap := h' } := I1.kept (t' := s1.toks) hk
  refine ⟨s1.heap.objs.size + 1, [s1.heap.objs.size + 1, s1.heap.objs.size], _, _, H1, rfl, I2, turn_ek (Nat.succ_ne_self _) (Nat.ne_of_gt (Nat.lt_succ_of_lt l1)) (Nat.ne_of_lt l1), ⟨⟨.none, he⟩, itK_zero hi⟩, fun c hcm => ?_, q⟩
  have hle : s1.heap.objs.size ≤ c := by
    simp only [List.mem_cons, List.not_mem_nil, or_false] at hcm
    rcases hcm with z | z <;> rw [z] <;> first | exact Nat.le_refl _ | exact Nat.le_add_right _ _
  exact I1.fpOk hle (I1.hok.fresh hle)
theorem for_ek {k : Bool} {K : PySem.W.Frag} {a : Addr} {xs : List V} {g : TG} {tb : TS} {D : Ends} {σ : L2.St} {H : Hp} (Pv : Nat → L2.St → Hp → Prop) (h0 : Pv 0 σ H) (hq : ∀ i σ H, Pv i σ H → SqK k K H a xs)
    (hs : ∀ (i : Nat) (x : V) (T : Addr) (σ : L2.St) (H : Hp), xs[i]? = some x → Pv i σ H → H T = none → g (.ref T) σ (upd H T (.tup [.int (i : Nat), x])) fun σ2 H2 => tb { D with nx := Pv (i + 1), ct := Pv (i + 1), bk := D.nx } σ2 H2) (hd : ∀ σ H, Pv xs.length σ H → D.nx σ H) :
    ∃ W : Nat → Nat → L2.St → Hp → Prop, (∃ m, W 0 m σ H) ∧ ∀ i m σ H, W i m σ H →
      ((Iek k K a).stop i H ∧ D.nx σ H) ∨ ((Iek k K a).go i H ∧ ∃ N : L2.St → Hp → Prop, (∀ σ' H', N σ' H' → ∃ m', m' < m ∧ W (i + 1) m' σ' H') ∧ ∀ v H', (Iek k K a).yld i H v H' → g v σ H' fun σ2 H2 => tb { D with nx := N, ct := N, bk := D.nx } σ2 H2) := by
  refine ⟨fun i m σ H => m = xs.length - i ∧ i ≤ xs.length ∧ Pv i σ H, ⟨_, rfl, Nat.zero_le _, h0⟩, fun i m σ H ⟨em, hi, p⟩ => ?_⟩
  have qx := hq i σ H p
  by_cases e : i = xs.length
  · subst e
    exact .inl ⟨⟨xs, qx, rfl⟩, hd σ H p⟩
  · have hlt : i < xs.length := by omega
    refine .inr ⟨⟨xs, xs[i], qx, List.getElem?_eq_getElem _⟩, Pv (i + 1), fun σ' H' p' => ⟨_, by omega, rfl, hlt, p'⟩, ?_⟩
    rintro v H' ⟨T, x', rfl, hT, rfl, f1⟩
    exact hs i x' T σ H (f1 xs qx) p hT

/-! ### {key: value}, the key a tuple -/
def tDisT (tk tv : TE) : TE := fun σ H Q => ∀ p, H p = none → tk σ (upd H p (.dT [])) fun x H1 => tv σ H1 fun y H2 => H2 p = some (.dT []) ∧ ∃ (b : Addr) (k : List Key), x = .ref b ∧ H2 b = some (.tup (k.map kV)) ∧ Q (.ref p) (upd H2 p (.dT [(k, y)]))
theorem pe_disT {pos : Pos} {k v : Expr} {tk tv : TE} (hu : X.A.units + 1 < cLine) (hk : PE X k tk) (hv : PE X v tv) : PE X (.Dict [some k] [v] pos) (tDisT tk tv) := by
  refine ⟨fun pins s σ H Q I q => ?_⟩
  have hn := I.hok.fresh (Nat.le_refl s.heap.objs.size)
  have I1 := I.laid (a := s.heap.objs.size) (o := .dT []) (h' := s.heap.push { cls := .type "dict", data := .dict #[] }) (t' := s.toks) (fun _ _ q => Heap.get?_push_of_some _ q) (Nat.le_refl _) (dt_empty s.heap I.big)
  rw [arm_eval_Dict, zip_pairTrees [some k] [v] X.env pos rfl rfl, dictDisplay_pairs _ (by intro e; cases e) (by show 1 < 17; decide)]
  refine wpAny_bind (wpAny_standAt (wpAny_bind (wpAny_subDictH (knd := tupleKind (mixKind X.prog X.w)) (Q := fun d s' => wpAny (model X.prog X.w) X.A (pure (Value.ref d)) (EP X pins σ Q) X.xe s') (show X.A.units < cLine by omega) (by show 1 ≤ 15; decide) ?_)))
  refine pairTrees_cons_walk (thn (hk.run pins _ σ _ _ I1 (q _ hn)) fun u s1 ⟨x, H1, I2, rx, q1⟩ => thn (hv.run pins s1 σ H1 _ I2 q1) fun w2 s2 ⟨y, H2, I3, ry, e, b, ks, ex, eb, q2⟩ => pairTrees_nil_walk ?_)
  subst ex
  cases rx
  obtain ⟨z, hd, xs, rel, dd⟩ := dt_of I3.hok e
  cases rel
  refine ⟨[(ks, b, w2)], ⟨rfl, rfl, key_of I3.hok eb, trivial⟩, dd, fun h' tk dd' hs => wpAny_pure ⟨.ref s.heap.objs.size, _, ?_, rfl, q2⟩⟩
  obtain ⟨o, es, ep, ho, h2, h3, h4, _, h5⟩ := dd'
  refine d_write I3 (by rw [e]; exact True.intro) hs ⟨o, ho⟩ ⟨by show 1 ≤ sizeLine; decide, hd, [(ks, b, w2)], .cons ⟨rfl, ?_, ry⟩ .nil, o, es, ep, ho, h2, h3, ?_, ?_⟩
  · rw [upd_ne (ne_of eb e (fun z => (nomatch z)))]
    exact eb
  · rw [h4]; rfl
  · simp
end
end Rw
set_option Elab.async false
set_option linter.all false
set_option maxRecDepth 100000
/-! len(set(texts)), the texts all different (adapted from the library's walk of set(xs) for at most one text) -/
namespace RwSet
open PySem PySem.Spec PyProof.Rows
section
variable {prog : Program} {w : World} {A : Around} {R : Result → Shared → Prop} {I : Addr} {fp wr : List Addr} {G : Array GenState → Array GenState → Prop} {n : Nat} {P : Nat → Value → Prop} {St : Nat → Shared → Prop}
/-- the set of the first i texts -/
abbrev Had (xs : List Str) (i : Nat) : Str → Bool := fun k => decide (k ∈ xs.take i)
theorem had_next {xs : List Str} {i : Nat} (hi : i < xs.length) (k : Str) : (Had xs i k || decide (k = xs.getD i Str.empty)) = Had xs (i + 1) k := by
  have e : xs.getD i Str.empty = xs[i] := by rw [List.getD_eq_getElem?_getD, List.getElem?_eq_getElem hi]; rfl
  have e2 : xs.take (i + 1) = xs.take i ++ [xs[i]] := by rw [List.take_add_one, List.getElem?_eq_getElem hi]; rfl
  show (decide (k ∈ xs.take i) || decide (k = xs.getD i Str.empty)) = decide (k ∈ xs.take (i + 1))
  rw [e, e2, Bool.eq_iff_iff]
  simp only [Bool.or_eq_true, decide_eq_true_eq, List.mem_append, List.mem_singleton]
theorem had_not {xs : List Str} (nd : xs.Nodup) {i : Nat} (hi : i < xs.length) : Had xs i (xs.getD i Str.empty) = false := by
  have e : xs.getD i Str.empty = xs[i] := by rw [List.getD_eq_getElem?_getD, List.getElem?_eq_getElem hi]; rfl
  show decide (_ ∈ xs.take i) = false
  rw [e]
  refine decide_eq_false fun hm => ?_
  obtain ⟨j, hj, ej⟩ := List.mem_iff_getElem.mp hm
  rw [List.length_take] at hj
  rw [List.getElem_take] at ej
  exact List.pairwise_iff_getElem.mp nd j i (by omega) hi (by omega) ej
theorem loop_nd (W : WalksS prog w A.in1 I fp wr G n P St) (S : Addr) (hSf : S ∉ fp) (xs : List Str) (hsz : xs.length = n) (nd : xs.Nodup) (hbig : n + 1 < scanBound)
    (hval : ∀ i v, P i v → ∃ t, v = .str (xs.getD i Str.empty) t) :
    ∀ (k i : Nat) (s : Shared), n - i = k → i ≤ n → St i s → s.heap.SetOf (PySem.strKind prog w) S (Had xs i) i →
      (∀ s', Moved (S :: wr) G s s' → s'.heap.SetOf (PySem.strKind prog w) S (Had xs n) n → R (.ok (.ret .none)) s') →
      codeAny (model prog w) A (.builtin "set.update.loop" ⟨[.ref S, .ref I], []⟩) R s := by
  have notW : S ∉ wr := fun h => hSf (W.sub _ h)
  have sub1 : ∀ b ∈ wr, b ∈ S :: wr := fun b hb => List.mem_cons_of_mem _ hb
  intro k
  induction k with
  | zero =>
    intro i s hk hi hst hS hR
    obtain rfl : i = n := by omega
    refine codeAny_builtin PyProof.Rows.F.entry_set_update_loop ?_
    rw [Around.under_plainId PyProof.Rows.F.plain_set_update_loop _]
    show wpAny _ A.in1 (pyNext (.ref I) >>= _) _ _ s
    refine wpAny_bind (W.done s _ _ hst fun s' hm => ?_)
    show wpAny _ A.in1 (ret Value.none) _ _ s'
    obtain ⟨o, es, ep, t, ho, rest⟩ := hS
    exact wpAny_pure (hR s' (hm.mono sub1) ⟨o, es, ep, t, hm.heap S _ notW ho, rest⟩)
  | succ k ih =>
    intro i s hk hi hst hS hR
    have hlt : i < n := by omega
    have hix : i < xs.length := by omega
    refine codeAny_builtin PyProof.Rows.F.entry_set_update_loop ?_
    rw [Around.under_plainId PyProof.Rows.F.plain_set_update_loop _]
    show wpAny _ A.in1 (pyNext (.ref I) >>= _) _ _ s
    refine wpAny_bind (W.item i s _ _ hlt hst fun v s' hP hst' hm => ?_)
    obtain ⟨t, rfl⟩ := hval i v hP
    obtain ⟨o, es, ep, tb, ho, rest⟩ := hS
    have hS' : s'.heap.SetOf (PySem.strKind prog w) S (Had xs i) i := ⟨o, es, ep, tb, hm.heap S _ notW ho, rest⟩
    show wpAny _ A.in1 (holding [Value.str (xs.getD i Str.empty) t] (setAdd S (.str (xs.getD i Str.empty) t)) >>= _) _ _ s'
    refine wpAny_bind (wpAny_holding ?_)
    unfold setAdd
    refine wpAny_holding (wpAny_bind ((PySem.strKind prog w).pyHash (k := xs.getD i Str.empty) (strKind_is _ _ _ _) ?_))
    refine wpAny_setAddHashed_of (knd := PySem.strKind prog w) (s := { s' with toks := s'.toks + 1 }) (strKind_is _ _ _ _) rfl hS' (by omega) fun h' hsb hS2 => ?_
    rw [had_not nd hix, if_neg (by simp)] at hS2
    have hSi : h'.SetOf (PySem.strKind prog w) S (Had xs (i + 1)) (i + 1) := SetOf_congr hS2 (fun k' => had_next hix k') rfl
    refine wpAny_pure ⟨plainId_quiet PyProof.Rows.F.plain_set_update_loop _, ih (i + 1) _ (by omega) hlt (W.frame _ s' _ _ hst' (Nat.le_succ _) fun b hb o e => ?_) hSi fun s'' hm'' hS'' => ?_⟩
    · exact (hsb.2 b (fun h : b = S => hSf (h ▸ hb))).trans e
    · refine hR s'' (Moved.trans W.gtrans ((hm.mono sub1).then_heap (Nat.le_succ _) fun b o hb e => ?_) hm'') hS''
      exact (hsb.2 b (fun h : b = S => hb (h ▸ List.mem_cons_self))).trans e
end
section
variable {prog : Program} {w : World} {A : Around} {E : Value → Shared → Prop} {s : Shared}
set_option maxHeartbeats 3200000 in
theorem call_set_nd {l : Addr} {items : Array Value} {xs : List Str} {Q : Value → Shared → Prop}
    (hh : A.handled = none) (hl : s.heap.IsList l items) (hi : PyProof.Rows.StrsAre items.toList xs) (nd : xs.Nodup) (hbig : xs.length + 1 < scanBound)
    (h : ∀ (h' : Heap) (tk : Nat), h'.SetOf (PySem.strKind prog w) s.heap.objs.size (Had xs xs.length) xs.length → (∀ b o, b < s.heap.objs.size → s.heap.get? b = some o → h'.get? b = some o) → Q (.ref s.heap.objs.size) { s with heap := h', toks := tk }) :
    wpAny (model prog w) A (call (.type "set") [.ref l]) Q E s := by
  have hsz : xs.length = items.size := by rw [← StrsAre.len_eq hi, Array.length_toList]
  obtain ⟨c, tl, hmro⟩ := PySem.F.called_set.mro
  have hmade := PySem.F.called_set.made
  have hsub := PySem.F.called_set.sub
  refine wpAny_call (codeAny_of_tree ?_)
  show wpAny _ _ (callAny (.type "set") _) _ _ _
  refine wpAny_pure ⟨Code.quiet_builtin _ (by decide +kernel), codeAny_builtin PySem.F.entry_type_call ?_⟩
  rw [Around.under_plain (weight_type_call_type "set" [.ref l] []) rfl]
  have h1 := PySem.F.called_set.notType
  have h2 := PySem.F.called_set.canCreate
  have hct := PySem.F.typeCall_set_1 (.ref l)
  repeat (any_goals (first | assumption | wp_step))
  refine codeAny_mono (code_set_new_1 (.ref l) (E := E) (Q₁ := fun obj s₁ => ∃ led : Bool, obj = .ref s.heap.objs.size ∧ s₁ = { s with heap := s.heap.push { cls := .type "set", dict := none, data := .set #[] 0 (.fresh 0 0 led) } }) fun led => ⟨led, rfl, rfl⟩) fun r s₁ hr => ?_
  cases r with
  | error e => exact hr
  | ok fl =>
    cases fl with
    | ret obj =>
      obtain ⟨led, rfl, rfl⟩ := hr
      have hS : (s.heap.push { cls := .type "set", dict := none, data := .set #[] 0 (.fresh 0 0 led) }).get? s.heap.objs.size = some { cls := .type "set", dict := none, data := .set #[] 0 (.fresh 0 0 led) } := Heap.get?_push_size _ rfl
      have hT : Shared.TypeIs { s with heap := s.heap.push { cls := .type "set", dict := none, data := .set #[] 0 (.fresh 0 0 led) } } (.ref s.heap.objs.size) "set" := ⟨_, hS, rfl⟩
      have hli := PySem.F.called_set.init.lookup
      have hbi := PySem.F.called_set.init.bind (.ref s.heap.objs.size)
      repeat (any_goals (first | assumption | wp_step))
      refine codeAny_mono (codeAny_call_builtin (R := wants (fun r s₂ => r = .none ∧ ∃ h' tk, s₂ = { s with heap := h', toks := tk } ∧ h'.SetOf (PySem.strKind prog w) s.heap.objs.size (Had xs xs.length) xs.length ∧
          (∀ b o, b < s.heap.objs.size → s.heap.get? b = some o → h'.get? b = some o)) E) PySem.F.called_set.init.plain PySem.F.entry_set_init (check_set_init_1 hT ?_)) fun r₂ s₂ hr₂ => ?_
      · obtain ⟨⟨ocls, odict, odata, oslots⟩, hol, hcl, nl, hdl⟩ := hl
        simp only at hcl hdl
        subst hcl hdl
        have hol' : (s.heap.push { cls := .type "set", dict := none, data := .set #[] 0 (.fresh 0 0 led) }).get? l = some { cls := .type "list", dict := odict, data := .seq items nl, slots := oslots } := Heap.get?_push_of_some _ hol
        have hsls := PySem.F.sub_list_set
        have hslf := PySem.F.sub_list_frozenset
        have hne : (Value.type "list" == Value.type "dict") = false := by decide
        have hl1 : (s.heap.push { cls := .type "set", dict := none, data := .set #[] 0 (.fresh 0 0 led) }).IsList l items := ⟨_, hol', rfl, nl, rfl⟩
        unfold Builtin.«set.__init__» noKeywords Builtin.Frozenset.updateFrom
        generalize hPI : pyIter = PI
        wp_walk
        subst hPI
        refine wpAny_pyIter_list hl1 ?_
        refine wpAny_bind (wpAny_runValue ?_)
        have hlS : l < s.heap.objs.size := Heap.lt_size hol
        have hh3 : A.in1.in1.in1.handled = none := by simp [hh]
        have z1 : (s.heap.push { cls := .type "set", dict := none, data := .set #[] 0 (.fresh 0 0 led) }).objs.size = s.heap.objs.size + 1 := Heap.size_push ..
        have hneI : l ≠ (s.heap.push { cls := .type "set", dict := none, data := .set #[] 0 (.fresh 0 0 led) }).objs.size := by rw [z1]; exact Nat.ne_of_lt (Nat.lt_succ_of_lt hlS)
        have hSf : s.heap.objs.size ∉ [(s.heap.push { cls := .type "set", dict := none, data := .set #[] 0 (.fresh 0 0 led) }).objs.size, l] := by
          rw [z1]; simp only [List.mem_cons, List.not_mem_nil, or_false, not_or]
          exact ⟨Nat.ne_of_lt (Nat.lt_succ_self _), Nat.ne_of_gt hlS⟩
        have hval : ∀ (i : Nat) (v : Value), items[i]? = some v → ∃ t, v = .str (xs.getD i Str.empty) t := fun i v hv => SS.strs_at hi i v (by rw [Array.getElem?_toList]; exact hv)
        refine loop_nd ((Walks.list hh3 _ l hneI items).toS) s.heap.objs.size hSf xs hsz nd (by omega) hval (items.size - 0) 0 _ (by omega) (Nat.zero_le _) ⟨⟨_, Heap.get?_push_size _ rfl, rfl, rfl⟩, (hl1.push _)⟩ ?hS0 ?hR
        case hS0 =>
          have hget : ((s.heap.push { cls := .type "set", dict := none, data := .set #[] 0 (.fresh 0 0 led) }).push { cls := .type "list_iterator", data := .fields #[.ref l, .int 0 0] }).get? s.heap.objs.size = some { cls := .type "set", dict := none, data := .set #[] 0 (.fresh 0 0 led) } := Heap.get?_push_of_some _ hS
          exact PyProof.Rows.SetOf_congr ((PyProof.Rows.setObjOf_fresh (knd := PySem.strKind prog w) led).setOf hget (by unfold scanBound; omega)) (fun _ => by simp [Had]) rfl
        case hR =>
          intro s' hm hS'
          obtain ⟨h', g', d', tk', os'⟩ := s'
          have eg : g' = s.gens := hm.gens
          have ed : d' = s.drawn := hm.drawn
          have eo : os' = s.os := hm.os
          subst eg ed eo
          show wpAny _ _ _ _ _ _
          refine wpAny_pure ?_
          show wpAny _ _ (ret Value.none) _ _ _
          rw [← hsz] at hS'
          refine wpAny_pure ⟨rfl, h', tk', rfl, hS', fun b o hb e => hm.heap b o ?_ (Heap.get?_push_of_some _ (Heap.get?_push_of_some _ e))⟩
          simp only [List.mem_cons, List.not_mem_nil, or_false, not_or]
          exact ⟨Nat.ne_of_lt hb, by rw [z1]; exact Nat.ne_of_lt (Nat.lt_succ_of_lt hb)⟩
      · cases r₂ with
        | error e => exact hr₂
        | ok fl₂ =>
          cases fl₂ with
          | ret r =>
            obtain ⟨rfl, h', tk, rfl, hS', hk'⟩ := hr₂
            repeat (any_goals (first | assumption | wp_step))
            exact h _ _ hS' hk'
          | _ => exact hr₂.elim
    | _ => exact hr.elim
end
end RwSet
namespace Rw
open PySem PySem.Spec PyProof.Rows L2
section
variable {X : Cx}
def tSetLen (K : PySem.W.Frag) (ta : TE) : TE := fun σ H Q => ta σ H fun x H1 => ∃ (l : Addr) (xs : List Str), x = .ref l ∧ SqL K H1 l (xs.map V.str) ∧ xs.Nodup ∧ xs.length ≤ 4000 ∧ Q (.int (xs.length : Nat)) H1
theorem pe_setLen {a : Expr} {ta : TE} {p p2 q pos : Pos} (hc : X.calm = true) (hg : Gl X "len") (hm : X.mg "len" = none) (hg2 : Gl X "set") (hm2 : X.mg "set" = none) (ha : PE X a ta)
    (na : starEach [a] X.env = (false, eval a X.env) :: starEach [] X.env := by rfl) : PE X (.Call (.Name "len" p) [.Call (.Name "set" p2) [a] [] q] [] pos) (tSetLen X.K ta) := by
  refine ⟨fun pins s σ H Q I h => Call_ (ld_blt I hg hm boot_len ?_)⟩
  refine PyProof.Rows.callWith_builtin1 (PyProof.Rows.args_cons ?_ rfl) rfl rfl
  refine Call_ (ld_blt I hg2 hm2 boot_set ?_)
  refine PyProof.Rows.callWith_type1 (PyProof.Rows.args_cons (thn (ha.run pins s σ H _ I h) fun v s1 ⟨x, H1, I1, r1, q1⟩ => PyProof.Rows.args_nil ?_) na) na rfl
  obtain ⟨l, xs, rfl, hq, nd, hl, q1⟩ := q1
  obtain rfl : v = Value.ref l := r1
  obtain ⟨its, r, pl, hz⟩ := I1.list hq
  have hb : scanBound = 4096 := rfl
  refine RwSet.call_set_nd (I1.ok.hd hc) pl.isList (by simpa using strsAre_of r) nd (by omega) fun h' tk hS hk => PyProof.Rows.args_nil ?_
  obtain ⟨o, es, ep, t, ho, hex, hd, _, _, _, hf, hn⟩ := hS
  have I2 : L2.Inv X pins σ H1 { s1 with heap := h', toks := tk } := I1.kept fun b o e => hk b o (Heap.lt_size e) e
  exact call_len_set ho hex hd hf (by rw [hn] <;> omega) ⟨.int xs.length, H1, I2.tok _, ⟨_, by rw [hn]⟩, q1⟩
end
end Rw
set_option Elab.async false
set_option linter.all false
set_option maxRecDepth 100000
set_option maxHeartbeats 2000000
/-! data in the heap; ints that are naturals; the smallest defs -/
namespace Rw
open PySem PySem.Spec PyProof.Rows L2
open Raised (Sk at0 meetL meetO splitB splitS withoutS Deed setAll fullAll andAll beforeS pack packF)
abbrev vn (n : Nat) : V := .int (n : Int)
def vns (ms : List Nat) : List V := ms.map vn
theorem vns_len (ms : List Nat) : (vns ms).length = ms.length := List.length_map _
theorem vns_at {ms : List Nat} {i : Nat} {x : V} (h : (vns ms)[i]? = some x) : ∃ m, ms[i]? = some m ∧ x = vn m := by
  unfold vns at h
  rw [List.getElem?_map] at h
  cases e : ms[i]? with
  | none => rw [e] at h; cases h
  | some m => rw [e] at h; exact ⟨m, rfl, (Option.some.inj h).symm⟩
theorem vns_get {ms : List Nat} {i m : Nat} (h : ms[i]? = some m) : (vns ms)[i]? = some (vn m) := by unfold vns; rw [List.getElem?_map, h]; rfl
theorem vns_app (a b : List Nat) : vns (a ++ b) = vns a ++ vns b := List.map_append
theorem at0_of {s : Sk} {i m : Nat} (h : s[i]? = some m) : at0 s i = m := by unfold at0; rw [List.getD_eq_getElem?_getD, h]; rfl
theorem of_at0 {s : Sk} {i : Nat} (h : i < s.length) : s[i]? = some (at0 s i) := by
  unfold at0; rw [List.getD_eq_getElem?_getD, List.getElem?_eq_getElem h]; rfl
/-! ### heaps -/
/-- the tuples stay -/
def TK (H H' : Hp) : Prop := ∀ b xs, H b = some (.tup xs) → H' b = some (.tup xs)
theorem TK.refl (H : Hp) : TK H H := fun _ _ h => h
theorem TK.trans {H H1 H2 : Hp} (a : TK H H1) (b : TK H1 H2) : TK H H2 := fun c xs h => b c xs (a c xs h)
theorem same_tk {H H' : Hp} (s : Same H H') : TK H H' := fun b xs h => s b _ h
theorem same_new {H : Hp} {p : Addr} {o : HO} (h : H p = none) : Same H (upd H p o) := fun b x e => by rw [upd_ne (ne_of_none e h)]; exact e
theorem same_mut {H H' : Hp} {p : Addr} {o : HO} (s : Same H H') (h : H p = none) : Same H (upd H' p o) := fun b x e => by rw [upd_ne (ne_of_none e h)]; exact s b x e
theorem tk_new {H : Hp} {p : Addr} {o : HO} (h : H p = none) : TK H (upd H p o) := same_tk (same_new h)
theorem tk_lst {H : Hp} {p : Addr} {xs : List V} {o : HO} (h : H p = some (.lst xs)) : TK H (upd H p o) := fun b ys e => by
  rw [upd_ne (ne_of e h (fun z => (nomatch z)))]; exact e
theorem tk_ins {H : Hp} {p C dx : Addr} {fs : List (Str × V)} {o : HO} (h : H p = some (.ins C dx fs)) : TK H (upd H p o) := fun b ys e => by
  rw [upd_ne (ne_of e h (fun z => (nomatch z)))]; exact e
/-- what is not among the places stays -/
def Kp (ps : List Addr) (H H' : Hp) : Prop := ∀ b o, H b = some o → b ∉ ps → H' b = some o
theorem Kp.refl (ps : List Addr) (H : Hp) : Kp ps H H := fun _ _ h _ => h
theorem Kp.trans {ps : List Addr} {H H1 H2 : Hp} (a : Kp ps H H1) (b : Kp ps H1 H2) : Kp ps H H2 := fun c o h n => b c o (a c o h n) n
theorem Kp.of {ps : List Addr} {H H' : Hp} (s : Same H H') : Kp ps H H' := fun b o h _ => s b o h
theorem Kp.set {ps : List Addr} {H H1 : Hp} (a : Kp ps H H1) {p : Addr} {o : HO} (hp : p ∈ ps) : Kp ps H (upd H1 p o) := fun b x h n => by
  rw [upd_ne (fun e => n (by rw [e]; exact hp))]; exact a b x h n
/-- what stood and is new -/
theorem Kp.same {ps : List Addr} {H0 H H' : Hp} (a : Kp ps H H') (s : Same H0 H) (h : ∀ p ∈ ps, H0 p = none) : Same H0 H' := fun b o e => a b o (s b o e) (fun hm => by rw [h b hm] at e; cases e)
/-- a sketch (a disk) stands at a -/
abbrev SkAt (H : Hp) (a : Addr) (s : List Nat) : Prop := H a = some (.tup (vns s))
theorem SkAt.sq {K : PySem.W.Frag} {H : Hp} {a : Addr} {s : List Nat} (h : SkAt H a s) : SqT K H a (vns s) := SqT.of h
theorem sqk_tup {K : PySem.W.Frag} {H : Hp} {a : Addr} {xs : List V} (h : H a = some (.tup xs)) : SqK false K H a xs := SqT.of h
theorem sqk_lst {K : PySem.W.Frag} {H : Hp} {a : Addr} {xs : List V} (h : H a = some (.lst xs)) : SqK true K H a xs := SqL.of h
/-- two lists item by item -/
def All2 {α β : Type} (R : α → β → Prop) (l : List α) (m : List β) : Prop := l.length = m.length ∧ ∀ (i : Nat) (x : α) (y : β), l[i]? = some x → m[i]? = some y → R x y
theorem All2.mono {α β : Type} {R R' : α → β → Prop} {l : List α} {m : List β} (h : All2 R l m) (f : ∀ x y, R x y → R' x y) : All2 R' l m := ⟨h.1, fun i x y a b => f x y (h.2 i x y a b)⟩
theorem All2.nil {α β : Type} {R : α → β → Prop} : All2 R [] [] := ⟨rfl, fun i x y h => by simp at h⟩
theorem All2.snoc {α β : Type} {R : α → β → Prop} {l : List α} {m : List β} {x : α} {y : β} (h : All2 R l m) (r : R x y) : All2 R (l ++ [x]) (m ++ [y]) := by
  refine ⟨by simp [h.1], fun i a b ha hb => ?_⟩
  by_cases e : i < l.length
  · rw [List.getElem?_append_left e] at ha
    rw [List.getElem?_append_left (by rw [← h.1]; exact e)] at hb
    exact h.2 i a b ha hb
  · obtain ⟨hlt, _⟩ := List.getElem?_eq_some_iff.mp ha
    have hi : i = l.length := by simp at hlt; omega
    subst hi
    rw [List.getElem?_append_right (Nat.le_refl _)] at ha
    rw [h.1, List.getElem?_append_right (Nat.le_refl _)] at hb
    simp at ha hb
    rw [← ha, ← hb]
    exact r
theorem All2.at_ {α β : Type} {R : α → β → Prop} {l : List α} {m : List β} (h : All2 R l m) {i : Nat} {y : β} (hy : m[i]? = some y) : ∃ x, l[i]? = some x ∧ R x y := by
  have hi : i < l.length := by rw [h.1]; exact (List.getElem?_eq_some_iff.mp hy).1
  exact ⟨l[i], List.getElem?_eq_getElem hi, h.2 i _ y (List.getElem?_eq_getElem hi) hy⟩
theorem All2.at' {α β : Type} {R : α → β → Prop} {l : List α} {m : List β} (h : All2 R l m) {i : Nat} {x : α} (hx : l[i]? = some x) : ∃ y, m[i]? = some y ∧ R x y := by
  have hi : i < m.length := by rw [← h.1]; exact (List.getElem?_eq_some_iff.mp hx).1
  exact ⟨m[i], List.getElem?_eq_getElem hi, h.2 i x _ hx (List.getElem?_eq_getElem hi)⟩
theorem All2.cons {α β : Type} {R : α → β → Prop} {l : List α} {m : List β} {x : α} {y : β} (r : R x y) (h : All2 R l m) : All2 R (x :: l) (y :: m) := by
  refine ⟨by simp [h.1], fun i a b ha hb => ?_⟩
  cases i with
  | zero => cases ha; cases hb; exact r
  | succ i => exact h.2 i a b ha hb
theorem map_ref_at {as : List Addr} {i : Nat} {x : V} (h : (as.map V.ref)[i]? = some x) : ∃ a, as[i]? = some a ∧ x = .ref a := by
  rw [List.getElem?_map] at h
  cases e : as[i]? with
  | none => rw [e] at h; cases h
  | some m => rw [e] at h; exact ⟨m, rfl, (Option.some.inj h).symm⟩
theorem get_map {α : Type} {f : α → V} {l : List α} {i : Nat} {x : α} (h : l[i]? = some x) : (l.map f)[i]? = some (f x) := by rw [List.getElem?_map, h]; rfl
theorem ifT {c : Bool} {A B : Prop} (hc : c = true) (h : A) : if c = true then A else B := by rw [if_pos hc]; exact h
theorem ifF {c : Bool} {A B : Prop} (hc : c = false) (h : B) : if c = true then A else B := by rw [if_neg (by rw [hc]; exact Bool.false_ne_true)]; exact h
theorem yes_of {σ : L2.St} {H : Hp} {f : Bool → Hp → Prop} (h : f true H) : tYes σ H f := h
theorem small_line {n : Nat} (h : n ≤ 10000) : n < sizeLine := Nat.lt_of_le_of_lt h (by rw [sizeLine_eq]; decide)
/-! ### ints that are naturals -/
section
variable {X : Cx}
def rAndN : R2 := fun x y H Q => ∃ m n : Nat, x = vn m ∧ y = vn n ∧ Q (vn (m &&& n)) H
def rXorN : R2 := fun x y H Q => ∃ m n : Nat, x = vn m ∧ y = vn n ∧ Q (vn (m ^^^ n)) H
def rOrN : R2 := fun x y H Q => ∃ m n : Nat, x = vn m ∧ y = vn n ∧ Q (vn (m ||| n)) H
def rShrNN : R2 := fun x y H Q => ∃ m k : Nat, x = vn m ∧ y = vn k ∧ Q (vn (m >>> k)) H
def rShlNN : R2 := fun x y H Q => ∃ m k : Nat, x = vn m ∧ y = vn k ∧ k ≤ 1000 ∧ m < 2 ^ 60 ∧ Q (vn (m <<< k)) H
theorem bitAnd_nat (m n : Nat) : Builtin.bitAnd (m : Int) (n : Int) = ((m &&& n : Nat) : Int) := by
  unfold Builtin.bitAnd
  rw [decide_eq_true (Int.natCast_nonneg m), decide_eq_true (Int.natCast_nonneg n)]
  rfl
theorem op_andN : OpR X (binaryOp .BitAnd) rAndN := by
  intro pins s σ H x y v u Q I rx ry ⟨m, n, e1, e2, q⟩
  exact op_and pins s σ H x y v u Q I rx ry ⟨_, _, e1, e2, by show Q (V.int (Builtin.bitAnd (m : Int) (n : Int))) H; rw [bitAnd_nat]; exact q⟩
theorem iop_andN : OpR X (inplaceOp .BitAnd) rAndN := by
  intro pins s σ H x y v u Q I rx ry ⟨m, n, e1, e2, q⟩
  exact iop_and pins s σ H x y v u Q I rx ry ⟨_, _, e1, e2, by show Q (V.int (Builtin.bitAnd (m : Int) (n : Int))) H; rw [bitAnd_nat]; exact q⟩
theorem op_xorN : OpR X (binaryOp .BitXor) rXorN := by
  intro pins s σ H x y v u Q I rx ry ⟨m, n, e1, e2, q⟩
  refine op_xor pins s σ H x y v u Q I rx ry ⟨_, _, e1, e2, ?_⟩
  have e := Bits.bitXor_pp (Int.natCast_nonneg m) (Int.natCast_nonneg n)
  rw [Int.toNat_natCast, Int.toNat_natCast] at e
  show Q (V.int (Builtin.bitXor (m : Int) (n : Int))) H
  rw [e]; exact q
theorem op_orN : OpR X (binaryOp .BitOr) rOrN := by
  intro pins s σ H x y v u Q I rx ry ⟨m, n, e1, e2, q⟩
  refine op_or pins s σ H x y v u Q I rx ry ⟨_, _, e1, e2, ?_⟩
  have e := bitOr_nn (Int.natCast_nonneg m) (Int.natCast_nonneg n)
  rw [Int.toNat_natCast, Int.toNat_natCast] at e
  show Q (V.int (Builtin.bitOr (m : Int) (n : Int))) H
  rw [e]; exact q
theorem op_shrNN : OpR X (binaryOp .RShift) rShrNN := by
  intro pins s σ H x y v u Q I rx ry ⟨m, k, e1, e2, q⟩
  refine op_shr pins s σ H x y v u Q I rx ry ⟨_, _, e1, e2, Int.natCast_nonneg k, ?_⟩
  show Q (V.int ((m : Int) / 2 ^ (k : Int).toNat)) H
  rw [Int.toNat_natCast, show (2 : Int) ^ k = ((2 ^ k : Nat) : Int) by simp, ← Int.natCast_ediv, ← Nat.shiftRight_eq_div_pow]
  exact q
theorem op_shlNN : OpR X (binaryOp .LShift) rShlNN := by
  intro pins s σ H x y v u Q I rx ry ⟨m, k, e1, e2, hk, hm, q⟩
  refine op_shl pins s σ H x y v u Q I rx ry ⟨_, _, e1, e2, ⟨Int.natCast_nonneg k, by omega, ?_⟩, ?_⟩
  · rw [Int.natAbs_natCast]; exact Nat.lt_trans hm (by decide)
  · show Q (V.int ((m : Int) * 2 ^ (k : Int).toNat)) H
    rw [Int.toNat_natCast, show (2 : Int) ^ k = ((2 ^ k : Nat) : Int) by simp, ← Int.natCast_mul, ← Nat.shiftLeft_eq]
    exact q
theorem vn_eq {m n : Nat} : decide (V.int (m : Int) = V.int (n : Int)) = decide (m = n) := by
  rw [Bool.eq_iff_iff, decide_eq_true_eq, decide_eq_true_eq]
  exact ⟨fun h => by have := V.int.inj h; omega, fun h => by rw [h]⟩
theorem vn_eq0 {m : Nat} : decide (V.int (m : Int) = V.int 0) = decide (m = 0) := vn_eq (n := 0)
/-- a test on two ints that is decided -/
theorem shr1 (m v : Nat) : (m >>> v &&& 1) = if m.testBit v then 1 else 0 := by
  rw [Nat.and_one_is_mod, Nat.testBit, Nat.one_and_eq_mod_two]
  have : m >>> v % 2 < 2 := Nat.mod_lt _ (by decide)
  by_cases h : m >>> v % 2 = 0
  · rw [h]; rfl
  · have h1 : m >>> v % 2 = 1 := by omega
    rw [h1]; rfl
end
/-! ### the smallest defs -/
section
variable {P : Program} {w : World} {K : PySem.W.Frag} {mg : Str → Option Value} {base : Heap} {A : Ad}
def OptSk (H : Hp) (v : V) : Option (List Nat) → Prop
  | none => v = .non
  | some r => ∃ p, v = .ref p ∧ SkAt H p r
/-- meet -/
def spMeet : Sp := fun vs H Q _ => ∃ (a b : Addr) (s t : Sk), vs = [.ref a, .ref b] ∧ SkAt H a s ∧ SkAt H b t ∧ s.length = t.length ∧ s.length ≤ 1000 ∧ ∀ H' v, Same H H' → OptSk H' v (meetO s t) → Q v H'
theorem ok_meet (T : Txt K mg A) : FnOk P w K mg base CX0 1 A.a_meet A.d_meet ["a", "b"] spMeet := by
  refine T.F_meet.ok sc_meet (fun vs H Q E h => ?_) (fun cdv Ar outer s H vs Q E hr h => ?_)
  · obtain ⟨a, b, s, t, rfl, _⟩ := h
    rfl
  · obtain ⟨a, b, s, t, rfl, ha, hb, hl, hs, q⟩ := h
    refine ⟨_, pss_cons (ps_set (i := 2) sc_meet.nd rfl (.inl rfl) (pe_lst pa_nil))
      (pss_cons (ps_for PassesOwn.never rfl (pi_zk false false (by rfl) T.z_zip (pa_cons (pv 0) (pa_cons (pv 1) pa_nil)))
          (pg_tup rfl (pgs_cons (pg_name (i := 3) sc_meet.nd rfl (.inl rfl)) (pgs_cons (pg_name (i := 4) sc_meet.nd rfl (.inl rfl)) pgs_nil)))
        (pss_cons (ps_if (pt_cmpR op_eq (pe_op op_andN (pv 3) (pv 4)) pe_int (nomark _)) (pss_one (ps_ret pe_non)) pss_nil)
        (pss_one (ps_expr (pe_bm PySem.F.plainAttrs_list PySem.F.slot_list_append PySem.F.type_list_append mt_append (pv 2) (pa_cons (pe_op op_andN (pv 3) (pv 4)) pa_nil))))))
      (pss_one (ps_ret (pe_callTy call_tuple_of (by rfl) T.z_tuple (by decide +kernel) (pa_cons (pv 2) pa_nil))))), ?_⟩
    refine ⟨Nat.zero_le _, fun l nl => ?_⟩
    have hml : (meetL s t).length = s.length := Raised.meetL_len hl
    refine ⟨.ref a, rfl, .ref b, rfl, a, b, vns s, vns t, rfl, sqk_tup (same_new nl _ _ ha), sqk_tup (same_new nl _ _ hb), ?_⟩
    refine for_zk (by rw [vns_len, vns_len, hl]) (fun i σ H2 => ∃ y3 y4, σ = [some (.ref a), some (.ref b), some (.ref l), y3, y4] ∧ Same H H2 ∧ H2 l = some (.lst (vns ((meetL s t).take i))) ∧ ¬ 0 ∈ (meetL s t).take i)
      ⟨none, none, rfl, same_new nl, by rw [upd_same]; rfl, by simp⟩ (fun i σ H2 ⟨_, _, _, sm, _⟩ => ⟨sqk_tup (sm _ _ ha), sqk_tup (sm _ _ hb)⟩) ?_ ?_
    · rintro i x y T' σ H2 hx hy ⟨y3, y4, rfl, sm, el, nz⟩ nT
      obtain ⟨m, hm, rfl⟩ := vns_at hx
      obtain ⟨n, hn, rfl⟩ := vns_at hy
      have hmn : (meetL s t)[i]? = some (m &&& n) := by unfold meetL; rw [List.getElem?_zipWith, hm, hn]
      have etk : (meetL s t).take (i + 1) = (meetL s t).take i ++ [m &&& n] := by rw [List.take_add_one, hmn]; rfl
      refine ⟨T', [vn m, vn n], rfl, SqT.of upd_same, rfl, _, _, rfl, _, _, rfl, rfl, ?_⟩
      refine ⟨_, rfl, _, rfl, m, n, rfl, rfl, rfl, _, rfl, ?_⟩
      rw [vn_eq0]
      refine ite2 (fun e => ?_) (fun e => ?_)
      · have e := of_decide_eq_true e
        refine q _ _ (sm.trans (same_new nT)) ?_
        have hz : meetO s t = none := if_pos (by rw [← e]; exact List.mem_of_getElem? hmn)
        rw [hz]
        rfl
      · have e : ¬ (m &&& n) = 0 := fun z => e (decide_eq_true z)
        have elT : (upd H2 T' (.tup [vn m, vn n])) l = some (.lst (vns ((meetL s t).take i))) := same_new nT _ _ el
        refine ⟨.ref l, rfl, .inl ⟨rfl, _, SqL.of elT⟩, _, rfl, _, rfl, m, n, rfl, rfl, l, _, _, rfl, rfl, elT, ?_, ?_⟩
        · rw [vns_len, List.length_take]
          exact small_line (by omega)
        · refine ⟨_, _, rfl, same_mut (sm.trans (same_new nT)) nl, ?_, ?_⟩
          · rw [upd_same, etk, vns_app]; rfl
          · rw [etk, List.mem_append]
            rintro (z | z)
            · exact nz z
            · rw [List.mem_singleton] at z; exact e z.symm
    · rintro σ H2 ⟨y3, y4, rfl, sm, el, nz⟩
      have ef : (meetL s t).take (vns s).length = meetL s t := List.take_of_length_le (by rw [vns_len, hml]; exact Nat.le_refl _)
      rw [ef] at el nz
      refine ⟨.ref l, rfl, l, _, rfl, .inl ⟨SqL.of el, fun p np => ?_⟩⟩
      refine q _ _ (sm.trans (same_new np)) ?_
      have hz : meetO s t = some (meetL s t) := if_neg nz
      rw [hz]
      exact ⟨p, rfl, upd_same⟩
end
end Rw
set_option Elab.async false
set_option linter.all false
set_option maxRecDepth 100000
set_option maxHeartbeats 4000000
/-! defs over masks and sketches -/
namespace Rw
open PySem PySem.Spec PyProof.Rows L2
open Raised (Sk at0 meetL meetO splitB splitS withoutS Deed setAll fullAll andAll beforeS pack packF)
/-- a value's truth as a test -/
def tTru (K : PySem.W.Frag) (ta : TE) : TT := fun σ H Q => ta σ H fun x H' => ∃ k, TruV K x H' k ∧ Q k H'
section
variable {X : Cx}
/-- tuple[lo:hi], a new tuple or the same -/
theorem sl_tupX : SlR X (fun x lo hi H Q => ∃ (a : Addr) (xs : List V), x = .ref a ∧ H a = some (.tup xs) ∧ ∀ p H', Same H H' → H' p = some (.tup (cutV xs lo hi)) → Q (.ref p) H') := by
  intro pins s σ H x v vl vu lo hi sl Q I rx hs pl pu ⟨a, xs, ex, ha, q⟩
  refine sl_tupA pins s σ H x v vl vu lo hi sl Q I rx hs pl pu ⟨a, xs, ex, SqT.of ha, fun ⟨e1, e2⟩ => q a H (Same.refl H) ?_, fun _ p np => q p _ (same_new np) upd_same⟩
  unfold cutV
  rw [e1, e2, List.drop_zero, Nat.sub_zero, List.take_length]
  exact ha
/-- t + u, tuples -/
theorem op_catX : OpR X (binaryOp .Add) (fun x y H Q => ∃ (a b : Addr) (xs ys : List V), x = .ref a ∧ y = .ref b ∧ H a = some (.tup xs) ∧ H b = some (.tup ys) ∧ xs.length + ys.length ≤ sizeLine ∧
    ∀ p H', Same H H' → H' p = some (.tup (xs ++ ys)) → Q (.ref p) H') := by
  intro pins s σ H x y v u Q I rx ry ⟨a, b, xs, ys, e1, e2, ha, hb, hz, q⟩
  refine op_catA pins s σ H x y v u Q I rx ry ⟨a, b, xs, ys, e1, e2, SqT.of ha, SqT.of hb, hz, fun z => q b H (Same.refl H) ?_, fun _ z => q a H (Same.refl H) ?_, fun _ _ p np => q p _ (same_new np) upd_same⟩
  · rw [z]; exact hb
  · rw [z, List.append_nil]; exact ha
theorem cut_to (xs : List V) (i : Nat) : cutV xs none (some (i : Int)) = xs.take i := by
  unfold cutV
  rw [HT.sIx_none, HT.sIx_nat, List.drop_zero, Nat.sub_zero]
  by_cases h : i ≤ xs.length
  · rw [Nat.min_eq_left h]
  · rw [Nat.min_eq_right (by omega), List.take_length, List.take_of_length_le (by omega)]
theorem cut_from (xs : List V) (i : Nat) : cutV xs (some (i : Int)) none = xs.drop i := by
  unfold cutV
  rw [HT.sIx_none, HT.sIx_nat]
  by_cases h : i ≤ xs.length
  · rw [Nat.min_eq_left h, List.take_of_length_le (by rw [List.length_drop]; exact Nat.le_refl _)]
  · rw [Nat.min_eq_right (by omega), List.drop_length, List.drop_eq_nil_of_le (by omega), List.take_nil]
end
/-! ### a machine -/
def PairsAt (H : Hp) (a : Addr) (ps : List (Nat × Nat)) : Prop := ∃ as : List Addr, H a = some (.tup (as.map V.ref)) ∧ All2 (fun x (p : Nat × Nat) => H x = some (.tup [vn p.1, vn p.2])) as ps
def ChAt (H : Hp) (a : Addr) (ps : List (Nat × Nat)) : Prop :=
  ∃ as : List Addr, H a = some (.tup (as.map V.ref)) ∧ All2 (fun x (p : Nat × Nat) => ∃ q : Addr, H x = some (.tup [vn p.1, .ref q]) ∧ H q = some (.tup [.str (Str.ofString "set"), vn p.2])) as ps
def DeedAt (H : Hp) (x : Addr) (nm : Str) (D : Deed) : Prop := ∃ g c : Addr, H x = some (.tup [.str nm, .ref g, .ref c]) ∧ PairsAt H g D.guard ∧ ChAt H c D.changes
def CellsAt (H : Hp) (a : Addr) (sizes : List Nat) : Prop := ∃ as : List Addr, H a = some (.tup (as.map V.ref)) ∧ All2 (fun x (z : Nat) => ∃ nm : Str, H x = some (.tup [.str nm, vn z])) as sizes
theorem PairsAt.tk {H H' : Hp} {a : Addr} {ps : List (Nat × Nat)} (t : TK H H') (h : PairsAt H a ps) : PairsAt H' a ps := by
  obtain ⟨as, h1, h2⟩ := h
  exact ⟨as, t _ _ h1, h2.mono fun x p e => t _ _ e⟩
theorem ChAt.tk {H H' : Hp} {a : Addr} {ps : List (Nat × Nat)} (t : TK H H') (h : ChAt H a ps) : ChAt H' a ps := by
  obtain ⟨as, h1, h2⟩ := h
  exact ⟨as, t _ _ h1, h2.mono fun x p ⟨q, e1, e2⟩ => ⟨q, t _ _ e1, t _ _ e2⟩⟩
theorem DeedAt.tk {H H' : Hp} {x : Addr} {nm : Str} {D : Deed} (t : TK H H') (h : DeedAt H x nm D) : DeedAt H' x nm D := by
  obtain ⟨g, c, h1, h2, h3⟩ := h
  exact ⟨g, c, t _ _ h1, h2.tk t, h3.tk t⟩
theorem CellsAt.tk {H H' : Hp} {a : Addr} {sizes : List Nat} (t : TK H H') (h : CellsAt H a sizes) : CellsAt H' a sizes := by
  obtain ⟨as, h1, h2⟩ := h
  exact ⟨as, t _ _ h1, h2.mono fun x z ⟨nm, e⟩ => ⟨nm, t _ _ e⟩⟩
def mfs (cc dd ff : Addr) : List (Str × V) := [(Str.ofString "cells", .ref cc), (Str.ofString "deeds", .ref dd), (Str.ofString "first", .ref ff)]
structure MachAt (C : Addr) (H : Hp) (m cc dd ff : Addr) (sizes : List Nat) (M : Raised.Mach) : Prop where
  ob : ∃ dx, H m = some (.ins C dx (mfs cc dd ff))
  cells : CellsAt H cc sizes
  deeds : ∃ as : List Addr, H dd = some (.tup (as.map V.ref)) ∧ All2 (fun x D => ∃ nm, DeedAt H x nm D) as M.deeds
  first : SkAt H ff M.first
  full : M.full = sizes.map fun z => 2 ^ z - 1
  small : ∀ z ∈ sizes, z ≤ 16
theorem MachAt.keep {C : Addr} {H H' : Hp} {m cc dd ff : Addr} {sizes : List Nat} {M : Raised.Mach} (h : MachAt C H m cc dd ff sizes M) (t : TK H H') (k : H' m = H m) : MachAt C H' m cc dd ff sizes M := by
  obtain ⟨as, e1, e2⟩ := h.deeds
  exact ⟨by rw [k]; exact h.ob, h.cells.tk t, ⟨as, t _ _ e1, e2.mono fun x D ⟨nm, z⟩ => ⟨nm, z.tk t⟩⟩, t _ _ h.first, h.full, h.small⟩
theorem MachAt.same {C : Addr} {H H' : Hp} {m cc dd ff : Addr} {sizes : List Nat} {M : Raised.Mach} (h : MachAt C H m cc dd ff sizes M) (s : Same H H') : MachAt C H' m cc dd ff sizes M := by
  obtain ⟨dx, e⟩ := h.ob
  exact h.keep (same_tk s) (by rw [e]; exact s _ _ e)
section
variable {P : Program} {w : World} {K : PySem.W.Frag} {mg : Str → Option Value} {base : Heap} {A : Ad}
/-! ### is_mask -/
def spIsMask : Sp := fun vs H Q _ => ∃ m z : Nat, vs = [vn m, vn z] ∧ 0 < m ∧ m < 2 ^ z ∧ z ≤ 1000 ∧ Q (.bl true) H
theorem ok_is_mask (T : Txt K mg A) : FnOk P w K mg base CX0 1 A.a_is_mask A.d_is_mask ["mask", "size"] spIsMask := by
  refine T.F_is_mask.ok sc_is_mask (fun vs H Q E h => ?_) (fun cdv Ar outer s H vs Q E hr h => ?_)
  · obtain ⟨m, z, rfl, _⟩ := h
    rfl
  · obtain ⟨m, z, rfl, h0, h1, hz, q⟩ := h
    refine ⟨_, pss_one (ps_ret (pe_chain op_lt op_lt pe_int (pv 0) (pe_op op_shlNN pe_int (pv 1)))), ?_⟩
    refine ⟨_, rfl, _, _, rfl, rfl, _, rfl, ?_⟩
    rw [if_pos (by rw [decide_eq_true_eq]; omega)]
    refine ⟨_, rfl, 1, z, rfl, rfl, hz, by decide, _, _, rfl, rfl, ?_⟩
    rw [Nat.one_shiftLeft]
    show Q (V.bl (decide ((m : Int) < ((2 ^ z : Nat) : Int)))) H
    rw [decide_eq_true (Int.ofNat_lt.mpr h1)]
    exact q
/-! ### packed_sketch -/
def spPacked : Sp := fun vs H Q _ => ∃ (a : Addr) (s : Sk), vs = [.ref a] ∧ SkAt H a s ∧ s.length ≤ 4 ∧ Raised.small s ∧ Q (vn (pack s)) H
theorem packF_lt : ∀ (s : Sk) (p k : Nat), Raised.small s → p < 2 ^ (16 * k) → packF p s < 2 ^ (16 * (k + s.length))
  | [], p, k, _, h => h
  | m :: s, p, k, hs, h => by
    have hm : m < 2 ^ 16 := hs m List.mem_cons_self
    have e : packF p (m :: s) = packF (p <<< 16 ||| m) s := rfl
    have h1 : p <<< 16 ||| m < 2 ^ (16 * (k + 1)) := by
      rw [Nat.shiftLeft_eq, Nat.mul_comm, ← Nat.two_pow_add_eq_or_of_lt hm, show 16 * (k + 1) = 16 + 16 * k by omega, Nat.pow_add]
      have h2 : p + 1 ≤ 2 ^ (16 * k) := h
      have h3 := Nat.mul_le_mul_left (2 ^ 16) h2
      rw [Nat.mul_add] at h3
      omega
    have := packF_lt s (p <<< 16 ||| m) (k + 1) (fun x hx => hs x (List.mem_cons_of_mem _ hx)) h1
    rw [e, List.length_cons, show k + (s.length + 1) = k + 1 + s.length by omega]
    exact this
theorem pack_lt {s : Sk} (hs : Raised.small s) {n : Nat} (h : s.length ≤ n) : pack s < 2 ^ (16 * n) := by
  have := packF_lt s 0 0 hs (by decide)
  rw [Nat.zero_add] at this
  exact Nat.lt_of_lt_of_le this (Nat.pow_le_pow_right (by decide) (by omega))
theorem ok_packed (T : Txt K mg A) : FnOk P w K mg base CX0 1 A.a_packed_sketch A.d_packed_sketch ["sketch"] spPacked := by
  obtain ⟨t16, h16⟩ := T.i_MOST_VALUES
  refine T.F_packed_sketch.ok sc_packed_sketch (fun vs H Q E h => ?_) (fun cdv Ar outer s H vs Q E hr h => ?_)
  · obtain ⟨a, sk, rfl, _⟩ := h
    rfl
  · obtain ⟨a, sk, rfl, ha, hl, hs, q⟩ := h
    refine ⟨_, pss_cons (ps_set (i := 1) sc_packed_sketch.nd rfl (.inl rfl) pe_int)
      (pss_cons (ps_for PassesOwn.never rfl (pi_tup (pv 0)) (pg_name (i := 2) sc_packed_sketch.nd rfl (.inl rfl))
        (pss_one (ps_set (i := 1) sc_packed_sketch.nd rfl (.inl rfl) (pe_op op_orN (pe_op op_shlNN (pv 1) (pe_glob (v := .int 16) rfl h16 ⟨_, rfl⟩)) (pv 2)))))
      (pss_one (ps_ret (pv 1)))), ?_⟩
    refine ⟨_, rfl, a, rfl, ⟨_, ha.sq⟩, for_tup (K := K) (a := a) (xs := vns sk) (fun i σ H2 => ∃ y, σ = [some (.ref a), some (vn (pack (sk.take i))), y] ∧ H2 = H) ⟨none, rfl, rfl⟩ (fun i σ H2 _ ⟨_, _, e⟩ => by rw [e]; exact ha.sq) ?_ ?_⟩
    · rintro i x σ H2 hx ⟨y, rfl, rfl⟩
      obtain ⟨m, hm, rfl⟩ := vns_at hx
      have hi : i < sk.length := (List.getElem?_eq_some_iff.mp hm).1
      have hb : pack (sk.take i) < 2 ^ 60 := Nat.lt_of_lt_of_le (pack_lt (n := 3) (fun x hx => hs x (List.mem_of_mem_take hx)) (by rw [List.length_take]; omega)) (by decide)
      refine ⟨_, rfl, pack (sk.take i), 16, rfl, rfl, by decide, hb, vn m, rfl, _, m, rfl, rfl, some (vn m), ?_, rfl⟩
      rw [show sk.take (i + 1) = sk.take i ++ [m] by rw [List.take_add_one, hm]; rfl]
      unfold pack packF
      rw [List.foldl_append]
      rfl
    · rintro σ H2 ⟨y, rfl, rfl⟩
      rw [vns_len, List.take_length]
      exact ⟨_, rfl, q⟩
/-! ### values_of, least_disk -/
def spValues : Sp := fun vs H Q _ => ∃ m : Nat, vs = [vn m] ∧ m ≠ 0 ∧ m < 2 ^ 16 ∧ ∀ H' l ns, Same H H' → H' l = some (.lst (vns ns)) → ns ≠ [] → Q (.ref l) H'
theorem bits_eq {m : Nat} (h : m ≠ 0) : Builtin.Int.intBits (m : Int) = m.log2 + 1 := by
  unfold Builtin.Int.intBits
  rw [if_neg (by simpa using h), Int.natAbs_natCast]
theorem ok_values (T : Txt K mg A) : FnOk P w K mg base CX0 1 A.a_values_of A.d_values_of ["mask"] spValues := by
  refine T.F_values_of.ok sc_values_of (fun vs H Q E h => ?_) (fun cdv Ar outer s H vs Q E hr h => ?_)
  · obtain ⟨m, rfl, _⟩ := h
    rfl
  · obtain ⟨m, rfl, h0, hm, q⟩ := h
    have hlog : m.log2 < 16 := (Nat.log2_lt h0).mpr hm
    refine ⟨_, pss_one (ps_ret (pe_lc (own := [("value", 1)]) (g := gName 1) (tt := tTru K (tOp rAndN (tOp rShrNN (tVar 0) (tVar 1)) (tC (.int 1)))) rfl sc_values_of.nd (pi_range1 rfl T.z_range (pa_cons (pe_bits (pv 0)) pa_nil)) (blkOk_by (N := ["mask", "value"]) (sc := defScope s_values_of) (by decide +kernel))
      (fun _ _ _ _ _ => pg_name (i := 1) sc_values_of.nd rfl (Or.inl rfl)) (fun _ _ _ _ _ => pts_one (pt_truth (pe_op op_andN (pe_op op_shrNN (pv 0) (pv 1)) pe_int) (by intro _; rfl))) (fun _ _ _ _ _ => pv 1))), ?_⟩
    refine ⟨_, rfl, (m : Int), rfl, _, rfl, by omega, ?_, fun D nD => ?_⟩
    · rw [bits_eq h0]; omega
    rw [Int.toNat_natCast, bits_eq h0]
    refine lc_range (lo := 0) (n := m.log2 + 1) (fun i H2 => Same H H2 ∧ H2 D = some (.lst (vns ((List.range i).filter fun v => m.testBit v)))) ⟨same_new nD, upd_same⟩ ?_ ?_
    · rintro i H2 hi ⟨sm, eD⟩
      refine ⟨rfl, _, rfl, _, rfl, m, i, rfl, by rw [Int.zero_add], _, 1, rfl, rfl, _, rfl, ?_⟩
      rw [shr1]
      by_cases hb : m.testBit i = true
      · rw [if_pos hb]
        refine ifT (by decide) ⟨_, rfl, _, eD, small_line (by
          rw [vns_len]
          exact Nat.le_trans (List.length_filter_le _ _) (by rw [List.length_range]; omega)), same_mut sm nD, ?_⟩
        rw [upd_same, List.range_succ, List.filter_append, vns_app, Int.zero_add]
        simp [hb, vns]
      · rw [if_neg hb]
        refine ifF (by decide) ⟨sm, ?_⟩
        rw [eD, List.range_succ, List.filter_append]
        simp [hb]
    · rintro H2 ⟨sm, eD⟩
      refine q H2 D _ sm eD fun z => ?_
      have : m.log2 ∈ (List.range (m.log2 + 1)).filter fun v => m.testBit v := by
        rw [List.mem_filter, List.mem_range]
        exact ⟨Nat.lt_succ_self _, Nat.testBit_log2 h0⟩
      rw [z] at this
      exact nomatch this
def spLeast : Sp := fun vs H Q _ => ∃ (a : Addr) (s : Sk), vs = [.ref a] ∧ SkAt H a s ∧ ¬ 0 ∈ s ∧ Raised.small s ∧ s.length ≤ 1000 ∧ ∀ H' p ds, Same H H' → SkAt H' p ds → Q (.ref p) H'
theorem ok_least (T : Txt K mg A) : FnOk P w K mg base CX0 2 A.a_least_disk A.d_least_disk ["sketch"] spLeast := by
  have G : FnOk P w K mg base CX0 1 _ _ _ _ := ok_values T
  refine T.F_least_disk.ok sc_least_disk (fun vs H Q E h => ?_) (fun cdv Ar outer s H vs Q E hr h => ?_)
  · obtain ⟨a, sk, rfl, _⟩ := h
    rfl
  · obtain ⟨a, sk, rfl, ha, nz, hs, hl, q⟩ := h
    refine ⟨_, pss_one (ps_ret (pe_callTy call_tuple_of (by rfl) T.z_tuple (by decide +kernel) (pa_cons
      (pe_lc (own := [("mask", 1)]) (g := gName 1) (tt := tYes) (te := tOp (rIxL K) (tCall spValues [] E0 (tCons (tVar 1) tNil)) (tC (.int 0))) rfl sc_least_disk.nd (pi_tup (pv 0)) (blkOk_by (N := ["sketch", "mask"]) (sc := defScope s_least_disk) (by decide +kernel)) (fun _ _ _ _ _ => pg_name (i := 1) sc_least_disk.nd rfl (Or.inl rfl)) (fun _ _ _ _ _ => pts_nil)
        (fun _ _ _ _ _ => pe_ix ix_list (pe_call G hr (by rfl) T.g_values_of T.F_values_of.kp T.b_values_of .nil pass0 (pa_cons (pv 1) pa_nil)) pe_int (fun _ _ => rfl))) pa_nil))), ?_⟩
    refine ⟨_, rfl, a, rfl, ⟨_, ha.sq⟩, fun D nD => ?_⟩
    refine lc_tup (K := K) (a := a) (xs := vns sk) (fun i H2 => Same H H2 ∧ ∃ ds, H2 D = some (.lst (vns ds)) ∧ ds.length = i) ⟨same_new nD, [], upd_same, rfl⟩ (fun i H2 _ ⟨sm, _⟩ => SkAt.sq (s := sk) (sm _ _ ha)) ?_ ?_
    · rintro i x H2 hx ⟨sm, ds, eD, hd⟩
      obtain ⟨m, hm, rfl⟩ := vns_at hx
      have hmem := List.mem_of_getElem? hm
      have hi : i < sk.length := (List.getElem?_eq_some_iff.mp hm).1
      refine ⟨rfl, ?_⟩
      refine yes_of (iteT ?_)
      refine ⟨_, rfl, m, rfl, fun z => nz (z ▸ hmem), hs m hmem, fun H3 l ns s3 el ne => ?_⟩
      obtain ⟨n, r, rfl⟩ : ∃ n r, ns = n :: r := by
        cases ns with
        | nil => exact absurd rfl ne
        | cons n r => exact ⟨n, r, rfl⟩
      refine ⟨l, _, 0, vn n, rfl, rfl, SqL.of el, atI_nat (j := 0) rfl, _, s3 _ _ eD, small_line (by rw [vns_len]; omega), same_mut (sm.trans s3) nD, ds ++ [n], ?_, by simp [hd]⟩
      rw [upd_same, vns_app]; rfl
    · rintro H2 ⟨sm, ds, eD, _⟩
      exact ⟨D, _, rfl, .inl ⟨SqL.of eD, fun p np => q _ p ds (sm.trans (same_new np)) upd_same⟩⟩
end
end Rw
set_option Elab.async false
set_option linter.all false
set_option maxRecDepth 100000
set_option maxHeartbeats 4000000
namespace Rw
open PySem PySem.Spec PyProof.Rows L2
open Raised (Sk at0 meetL meetO splitB splitS withoutS Deed setAll fullAll andAll beforeS pack packF)
section
variable {P : Program} {w : World} {K : PySem.W.Frag} {mg : Str → Option Value} {base : Heap} {A : Ad}
/-! ### machine.full -/
def spFull (A : Ad) : Sp := fun vs H Q _ => ∃ (m cc dd ff : Addr) (sizes : List Nat) (M : Raised.Mach), vs = [.ref m] ∧ MachAt A.c_Machine H m cc dd ff sizes M ∧ sizes.length ≤ 1000 ∧ ∀ H' p, Same H H' → SkAt H' p M.full → Q (.ref p) H'
theorem ok_full (T : Txt K mg A) : FnOk P w K mg base CX0 1 A.a_Machine_full A.d_Machine_full ["self"] (spFull A) := by
  refine T.F_Machine_full.ok sc_Machine_full (fun vs H Q E h => ?_) (fun cdv Ar outer s H vs Q E hr h => ?_)
  · obtain ⟨m, cc, dd, ff, sizes, M, rfl, _⟩ := h
    rfl
  · obtain ⟨m, cc, dd, ff, sizes, M, rfl, hM, hlen, q⟩ := h
    obtain ⟨dx, ob⟩ := hM.ob
    obtain ⟨as, ecc, eas⟩ := hM.cells
    refine ⟨_, pss_one (ps_ret (pe_callTy call_tuple_of (by rfl) T.z_tuple (by decide +kernel) (pa_cons
      (pe_lc (own := [("_", 1), ("size", 2)]) (tt := tYes) (g := gTup K 2 (gCons (gName 1) (gCons (gName 2) gNil))) (te := tOp (rI0 fun i j => .int (i - j)) (tOp rShlNN (tC (.int 1)) (tVar 2)) (tC (.int 1))) rfl sc_Machine_full.nd (pi_tup (pe_fld (pv 0) rfl))
        (blkOk_by (N := ["self", "_", "size"]) (sc := defScope s_Machine_full) (by decide +kernel))
        (fun _ _ _ _ _ => pg_tup rfl (pgs_cons (pg_name (i := 1) sc_Machine_full.nd rfl (Or.inl rfl)) (pgs_cons (pg_name (i := 2) sc_Machine_full.nd rfl (Or.inl rfl)) pgs_nil))) (fun _ _ _ _ _ => pts_nil)
        (fun _ _ _ _ _ => pe_op op_sub (pe_op op_shlNN pe_int (pv 2)) pe_int)) pa_nil))), ?_⟩
    refine ⟨_, rfl, m, A.c_Machine, dx, _, _, rfl, ob, T.cl_Machine, T.n_Machine_cells, rfl, cc, rfl, ⟨_, SqT.of ecc⟩, fun D nD => ?_⟩
    refine lc_tup (K := K) (a := cc) (xs := as.map V.ref) (fun i H2 => Same H H2 ∧ H2 D = some (.lst (vns (M.full.take i)))) ⟨same_new nD, by rw [upd_same]; rfl⟩ (fun i H2 _ ⟨sm, _⟩ => SqT.of (sm _ _ ecc)) ?_ ?_
    · rintro i x H2 hx ⟨sm, eD⟩
      obtain ⟨a, ha, rfl⟩ := map_ref_at hx
      obtain ⟨z, hz, nm, ea⟩ := eas.at' ha
      have hmem := List.mem_of_getElem? hz
      have hi : i < sizes.length := (List.getElem?_eq_some_iff.mp hz).1
      have hf : M.full[i]? = some (2 ^ z - 1) := by rw [hM.full, List.getElem?_map, hz]; rfl
      refine ⟨a, _, rfl, SqT.of (sm _ _ ea), rfl, _, _, rfl, _, _, rfl, rfl, rfl, yes_of (iteT ?_)⟩
      refine ⟨_, rfl, 1, z, rfl, rfl, Nat.le_trans (hM.small z hmem) (by decide), by decide, _, 1, rfl, rfl, _, eD, small_line (by
        rw [vns_len, List.length_take]; omega), same_mut sm nD, ?_⟩
      have e1 : ((1 <<< z : Nat) : Int) - 1 = ((2 ^ z - 1 : Nat) : Int) := by
        rw [Nat.one_shiftLeft]
        have := Nat.two_pow_pos z
        omega
      rw [upd_same]
      show some (HO.lst (vns (M.full.take i) ++ [V.int (((1 <<< z : Nat) : Int) - 1)])) = some (HO.lst (vns (M.full.take (i + 1))))
      rw [e1, List.take_add_one, hf, vns_app]
      rfl
    · rintro H2 ⟨sm, eD⟩
      have ef : M.full.take (as.map V.ref).length = M.full := List.take_of_length_le (by rw [List.length_map, eas.1, hM.full, List.length_map]; exact Nat.le_refl _)
      rw [ef] at eD
      exact ⟨D, _, rfl, .inl ⟨SqL.of eD, fun p np => q _ p (sm.trans (same_new np)) upd_same⟩⟩
/-! ### check_sketch, check_question -/
def OkSk (sizes : List Nat) (s : Sk) : Prop := s.length = sizes.length ∧ ∀ (i m z : Nat), s[i]? = some m → sizes[i]? = some z → 0 < m ∧ m < 2 ^ z
def spCheck (A : Ad) : Sp := fun vs H Q _ => ∃ (m cc dd ff a : Addr) (sizes : List Nat) (M : Raised.Mach) (s : Sk), vs = [.ref m, .ref a] ∧ MachAt A.c_Machine H m cc dd ff sizes M ∧ SkAt H a s ∧ OkSk sizes s ∧ ∀ H', Same H H' → Q .non H'
theorem ok_check_sketch (T : Txt K mg A) : FnOk P w K mg base CX0 2 A.a_check_sketch A.d_check_sketch ["machine", "sketch"] (spCheck A) := by
  have G : FnOk P w K mg base CX0 1 _ _ _ _ := ok_is_mask T
  refine T.F_check_sketch.ok sc_check_sketch (fun vs H Q E h => ?_) (fun cdv Ar outer s H vs Q E hr h => ?_)
  · obtain ⟨m, cc, dd, ff, a, sizes, M, sk, rfl, _⟩ := h
    rfl
  · obtain ⟨m, cc, dd, ff, a, sizes, M, sk, rfl, hM, ha, ⟨hl, hok⟩, q⟩ := h
    obtain ⟨dx, ob⟩ := hM.ob
    obtain ⟨as, ecc, eas⟩ := hM.cells
    refine ⟨_, pss_cons (ps_if (pt_cmpR op_ne (pe_callB call_len_seq (by rfl) T.z_len PySem.boot_len (pa_cons (pv 1) pa_nil)) (pe_callB call_len_seq (by rfl) T.z_len PySem.boot_len (pa_cons (pe_fld (pv 0) rfl) pa_nil)) (nomark _)) pss_never pss_nil)
      (pss_one (ps_for PassesOwn.never rfl (pi_zk false false (by rfl) T.z_zip (pa_cons (pv 1) (pa_cons (pe_fld (pv 0) rfl) pa_nil)))
        (pg_tup rfl (pgs_cons (pg_name (i := 2) sc_check_sketch.nd rfl (.inl rfl)) (pgs_cons (pg_tup rfl (pgs_cons (pg_name (i := 3) sc_check_sketch.nd rfl (.inl rfl)) (pgs_cons (pg_name (i := 4) sc_check_sketch.nd rfl (.inl rfl)) pgs_nil))) pgs_nil)))
        (pss_one (ps_if (pt_not (pt_val (pe_call G hr (by rfl) T.g_is_mask T.F_is_mask.kp T.b_is_mask .nil pass0 (pa_cons (pv 2) (pa_cons (pv 4) pa_nil))))) pss_never pss_nil)))), ?_⟩
    refine ⟨_, rfl, a, _, rfl, .inr ha.sq, _, rfl, m, A.c_Machine, dx, _, _, rfl, ob, T.cl_Machine, T.n_Machine_cells, rfl, cc, _, rfl, .inr (SqT.of ecc), rfl, _, rfl, ?_⟩
    refine iteNS (by rw [vns_len, List.length_map, hl, eas.1]) ?_
    refine ⟨_, rfl, _, rfl, m, A.c_Machine, dx, _, _, rfl, ob, T.cl_Machine, T.n_Machine_cells, rfl, a, cc, vns sk, as.map V.ref, rfl, sqk_tup ha, sqk_tup ecc, ?_⟩
    refine for_zk (by rw [vns_len, List.length_map, hl, eas.1]) (fun i σ H2 => ∃ y2 y3 y4, σ = [some (.ref m), some (.ref a), y2, y3, y4] ∧ Same H H2) ⟨none, none, none, rfl, Same.refl H⟩ (fun i σ H2 ⟨_, _, _, _, sm⟩ => ⟨sqk_tup (sm _ _ ha), sqk_tup (sm _ _ ecc)⟩) ?_ ?_
    · rintro i x y T' σ H2 hx hy ⟨y2, y3, y4, rfl, sm⟩ nT
      obtain ⟨k, hk, rfl⟩ := vns_at hx
      obtain ⟨c, hc, rfl⟩ := map_ref_at hy
      obtain ⟨z, hz, nm, ec⟩ := eas.at' hc
      have ec' := same_new (o := .tup [vn k, .ref c]) nT _ _ (sm _ _ ec)
      obtain ⟨h0, h1⟩ := hok i k z hk hz
      refine ⟨T', _, rfl, SqT.of upd_same, rfl, _, _, rfl, _, _, rfl, ⟨c, _, rfl, SqT.of ec', rfl, _, _, rfl, _, _, rfl, rfl, rfl, ?_⟩⟩
      refine ⟨_, rfl, _, rfl, k, z, rfl, h0, h1, Nat.le_trans (hM.small z (List.mem_of_getElem? hz)) (by decide), _, rfl, iteF ?_⟩
      exact ⟨_, _, _, rfl, sm.trans (same_new nT)⟩
    · rintro σ H2 ⟨y2, y3, y4, rfl, sm⟩
      exact q _ sm
def SkL (H : Hp) (l : Addr) (ss : List Sk) : Prop := ∃ as : List Addr, H l = some (.lst (as.map V.ref)) ∧ All2 (fun a s => SkAt H a s) as ss
theorem SkL.keep {H H' : Hp} {l : Addr} {ss : List Sk} (h : SkL H l ss) (t : TK H H') (k : H' l = H l) : SkL H' l ss := by
  obtain ⟨as, e1, e2⟩ := h
  exact ⟨as, by rw [k]; exact e1, e2.mono fun a s e => t _ _ e⟩
theorem SkL.same {H H' : Hp} {l : Addr} {ss : List Sk} (h : SkL H l ss) (s : Same H H') : SkL H' l ss := by
  obtain ⟨as, e1, e2⟩ := h
  exact ⟨as, s _ _ e1, e2.mono fun a x e => s _ _ e⟩
/-- a list of sketches grows -/
theorem SkL.snoc {H H' : Hp} {l a : Addr} {ss : List Sk} {s : Sk} {as : List Addr} (h1 : All2 (fun a s => SkAt H a s) as ss) (t : TK H H') (e : H' l = some (.lst (as.map V.ref ++ [.ref a]))) (ha : SkAt H' a s) : SkL H' l (ss ++ [s]) :=
  ⟨as ++ [a], by rw [e, List.map_append]; rfl, (h1.mono fun a s x => t _ _ x).snoc ha⟩
def spQuest (A : Ad) : Sp := fun vs H Q _ => ∃ (m cc dd ff a l : Addr) (sizes : List Nat) (M : Raised.Mach) (s : Sk) (ss : List Sk), vs = [.ref m, .ref a, .ref l] ∧ MachAt A.c_Machine H m cc dd ff sizes M ∧ SkAt H a s ∧ OkSk sizes s ∧ SkL H l ss ∧ (∀ s ∈ ss, OkSk sizes s) ∧
  ∀ H', Same H H' → Q .non H'
theorem ok_check_question (T : Txt K mg A) : FnOk P w K mg base CX0 3 A.a_check_question A.d_check_question ["machine", "image", "piece"] (spQuest A) := by
  have G : FnOk P w K mg base CX0 2 _ _ _ _ := ok_check_sketch T
  refine T.F_check_question.ok sc_check_question (fun vs H Q E h => ?_) (fun cdv Ar outer s H vs Q E hr h => ?_)
  · obtain ⟨m, cc, dd, ff, a, l, sizes, M, sk, ss, rfl, _⟩ := h
    rfl
  · obtain ⟨m, cc, dd, ff, a, l, sizes, M, sk, ss, rfl, hM, ha, hok, ⟨as, el, eas⟩, hoks, q⟩ := h
    refine ⟨_, pss_cons (ps_expr (pe_call G hr (by rfl) T.g_check_sketch T.F_check_sketch.kp T.b_check_sketch .nil pass0 (pa_cons (pv 0) (pa_cons (pv 1) pa_nil))))
      (pss_one (ps_for PassesOwn.never rfl (pi_list (pv 2)) (pg_name (i := 3) sc_check_question.nd rfl (.inl rfl)) (pss_one (ps_expr (pe_call G hr (by rfl) T.g_check_sketch T.F_check_sketch.kp T.b_check_sketch .nil pass0 (pa_cons (pv 0) (pa_cons (pv 3) pa_nil))))))), ?_⟩
    refine ⟨_, rfl, _, rfl, m, cc, dd, ff, a, sizes, M, sk, rfl, hM, ha, hok, fun H1 s1 => ?_⟩
    refine ⟨_, rfl, l, rfl, ⟨_, SqL.of (s1 _ _ el)⟩, for_list (K := K) (a := l) (xs := as.map V.ref) (fun i σ H2 => ∃ y, σ = [some (.ref m), some (.ref a), some (.ref l), y] ∧ Same H H2) ⟨none, rfl, s1⟩ (fun i σ H2 _ ⟨_, _, sm⟩ => SqL.of (sm _ _ el)) ?_ ?_⟩
    · rintro i x σ H2 hx ⟨y, rfl, sm⟩
      obtain ⟨b, hb, rfl⟩ := map_ref_at hx
      obtain ⟨t, ht, eb⟩ := eas.at' hb
      refine ⟨_, rfl, _, rfl, m, cc, dd, ff, b, sizes, M, t, rfl, hM.same sm, sm _ _ eb, hoks t (List.mem_of_getElem? ht), fun H3 s3 => ⟨_, rfl, sm.trans s3⟩⟩
    · rintro σ H2 ⟨y, rfl, sm⟩
      exact q _ sm
/-! ### _split -/
def spSplit : Sp := fun vs H Q _ => ∃ (a b : Addr) (s t : Sk), vs = [.ref a, .ref b] ∧ SkAt H a s ∧ SkAt H b t ∧ s.length = t.length ∧ s.length ≤ 1000 ∧ ∀ H' l, Same H H' → H l = none → SkL H' l (splitS s t) → Q (.ref l) H'
theorem splitS_len {s t r : Sk} (h : s.length = t.length) (hr : r ∈ splitS s t) : r.length = s.length := by
  unfold splitS at hr
  split at hr
  · rw [List.mem_singleton] at hr; rw [hr]
  · rename_i both hb
    obtain ⟨i, hi, e⟩ := List.mem_filterMap.mp hr
    rw [List.mem_range] at hi
    have hl : both.length = s.length := by
      unfold meetO at hb
      split at hb
      · cases hb
      · cases hb; exact Raised.meetL_len h
    unfold splitB at e
    split at e
    · cases e
    · cases e
      simp only [List.length_append, List.length_take, List.length_drop, List.length_cons, List.length_nil]
      omega
theorem ok_split (T : Txt K mg A) : FnOk P w K mg base CX0 2 A.a_split A.d_split ["a", "b"] spSplit := by
  have G : FnOk P w K mg base CX0 1 _ _ _ _ := ok_meet T
  refine T.F_split.ok sc_split (fun vs H Q E h => ?_) (fun cdv Ar outer s H vs Q E hr h => ?_)
  · obtain ⟨a, b, s, t, rfl, _⟩ := h
    rfl
  · obtain ⟨a, b, s, t, rfl, ha, hb, hl, hs, q⟩ := h
    refine ⟨_, pss_cons (ps_set (i := 2) sc_split.nd rfl (.inl rfl) (pe_call G hr (by rfl) T.g_meet T.F_meet.kp T.b_meet .nil pass0 (pa_cons (pv 0) (pa_cons (pv 1) pa_nil))))
      (pss_cons (ps_if (pt_cmpR op_isN (pv 2) pe_non (nomark _)) (pss_one (ps_ret (pe_lst (pa_cons (pv 0) pa_nil)))) pss_nil)
      (pss_cons (ps_set (i := 3) sc_split.nd rfl (.inl rfl) (pe_lst pa_nil))
      (pss_cons (ps_for PassesOwn.never rfl (pi_ek false (by rfl) T.z_enumerate (pa_cons (pv 0) pa_nil))
          (pg_tup rfl (pgs_cons (pg_name (i := 4) sc_split.nd rfl (.inl rfl)) (pgs_cons (pg_name (i := 5) sc_split.nd rfl (.inl rfl)) pgs_nil)))
        (pss_cons (ps_set (i := 6) sc_split.nd rfl (.inl rfl) (pe_op op_xorN (pv 5) (pe_ix ix_tup (pv 2) (pv 4) (fun _ _ => rfl))))
        (pss_one (ps_if (pt_cmpR op_ne (pv 6) pe_int (nomark _))
          (pss_one (ps_expr (pe_bm PySem.F.plainAttrs_list PySem.F.slot_list_append PySem.F.type_list_append mt_append (pv 3) (pa_cons
            (pe_op op_catX (pe_op op_catX (pe_slice sl_tupX (pv 2) po_none (po_some (pv 4))) (pe_tup (pa_cons (pv 6) pa_nil))) (pe_slice sl_tupX (pv 0) (po_some (pe_op op_add (pv 4) pe_int)) po_none)) pa_nil)))) pss_nil))))
      (pss_one (ps_ret (pv 3)))))), ?_⟩
    refine ⟨_, rfl, _, rfl, a, b, s, t, rfl, ha, hb, hl, hs, fun H1 v s1 ov => ?_⟩
    cases hm : meetO s t with
    | none =>
      rw [hm] at ov
      cases ov
      refine ⟨_, rfl, rfl, _, rfl, iteT ?_⟩
      refine ⟨_, rfl, by show 1 ≤ sizeLine; rw [sizeLine_eq]; decide, fun l nl => ?_⟩
      refine q _ l (s1.trans (same_new nl)) (s1.free nl) ⟨[a], upd_same, ?_⟩
      unfold splitS
      rw [hm]
      exact All2.cons (same_new nl _ _ (s1 _ _ ha)) All2.nil
    | some both =>
      rw [hm] at ov
      obtain ⟨p, rfl, ep⟩ := ov
      have hbl : both.length = s.length := by
        unfold meetO at hm
        split at hm
        · cases hm
        · cases hm; exact Raised.meetL_len hl
      have hsp : splitS s t = (List.range s.length).filterMap (splitB s both) := by unfold splitS; rw [hm]
      refine ⟨_, rfl, rfl, _, rfl, iteF ?_⟩
      refine ⟨Nat.zero_le _, fun l nl => ?_⟩
      refine ⟨.ref a, rfl, a, vns s, rfl, sqk_tup (same_new nl _ _ (s1 _ _ ha)), ?_⟩
      refine for_ek (fun i σ H2 => ∃ y4 y5 y6, σ = [some (.ref a), some (.ref b), some (.ref p), some (.ref l), y4, y5, y6] ∧ Same H1 H2 ∧ SkL H2 l ((List.range i).filterMap (splitB s both)))
        ⟨none, none, none, rfl, same_new nl, [], upd_same, All2.nil⟩ (fun i σ H2 ⟨_, _, _, _, sm, _⟩ => sqk_tup (sm _ _ (s1 _ _ ha))) ?_ ?_
      · rintro i x T' σ H2 hx ⟨y4, y5, y6, rfl, sm, as, el, eas⟩ nT
        obtain ⟨m, hmi, rfl⟩ := vns_at hx
        have hi : i < s.length := (List.getElem?_eq_some_iff.mp hmi).1
        have e0 : at0 s i = m := at0_of hmi
        have hbi : both[i]? = some (at0 both i) := of_at0 (by omega)
        have sT : Same H2 (upd H2 T' (.tup [vn i, vn m])) := same_new nT
        have epT := sT _ _ (sm _ _ ep)
        have elT := sT _ _ el
        refine ⟨T', [vn i, vn m], rfl, SqT.of upd_same, rfl, _, _, rfl, _, _, rfl, rfl, ?_⟩
        refine ⟨_, rfl, _, rfl, _, rfl, p, _, (i : Int), vn (at0 both i), rfl, rfl, SqT.of epT, atI_nat (vns_get hbi), m, at0 both i, rfl, rfl, ?_⟩
        refine ⟨_, rfl, rfl, _, rfl, ?_⟩
        rw [vn_eq0]
        refine ite2 (fun e => ?_) (fun e => ?_)
        · have e : ¬ (m ^^^ at0 both i) = 0 := by simpa using e
          have enx : (List.range (i + 1)).filterMap (splitB s both) = (List.range i).filterMap (splitB s both) ++ [both.take i ++ [m ^^^ at0 both i] ++ s.drop (i + 1)] := by
            rw [List.range_succ, List.filterMap_append]
            simp only [List.filterMap_cons, List.filterMap_nil, splitB, e0, if_neg e]
          refine ⟨_, rfl, .inl ⟨rfl, _, SqL.of elT⟩, _, rfl, _, rfl, (i : Int), rfl, p, _, rfl, epT, fun p1 H3 s3 ep1 => ?_⟩
          refine ⟨_, rfl, by show 1 ≤ sizeLine; rw [sizeLine_eq]; decide, fun p2 np2 => ?_⟩
          rw [cut_to] at ep1
          have s4 := same_new (o := .tup [vn (m ^^^ at0 both i)]) np2
          refine ⟨p1, p2, _, _, rfl, rfl, s4 _ _ ep1, upd_same, ?_, fun p3 H5 s5 ep3 => ?_⟩
          · rw [List.length_take, vns_len]
            exact Nat.le_of_lt (small_line (by show min i both.length + 1 ≤ 10000; omega))
          have ea5 := s5 _ _ (s4 _ _ (s3 _ _ (sT _ _ (sm _ _ (s1 _ _ ha)))))
          refine ⟨_, rfl, _, rfl, (i : Int), 1, rfl, rfl, _, rfl, a, _, rfl, ea5, fun p4 H6 s6 ep4 => ?_⟩
          have ei : ((i : Int) + 1) = ((i + 1 : Nat) : Int) := by omega
          rw [ei, cut_from] at ep4
          refine ⟨p3, p4, _, _, rfl, rfl, s6 _ _ ep3, ep4, ?_, fun p5 H7 s7 ep5 => ?_⟩
          · rw [List.length_append, List.length_take, List.length_drop, vns_len, vns_len]
            exact Nat.le_of_lt (small_line (by show min i both.length + 1 + (s.length - (i + 1)) ≤ 10000; omega))
          have s27 : Same (upd H2 T' (.tup [vn i, vn m])) H7 := ((s3.trans s4).trans s5).trans (s6.trans s7)
          have el7 := s27 _ _ elT
          refine ⟨l, _, _, rfl, rfl, el7, ?_, _, _, _, rfl, same_mut (sm.trans (sT.trans s27)) nl, ?_⟩
          · rw [List.length_map, eas.1]
            have h1 := List.length_filterMap_le (splitB s both) (List.range i)
            rw [List.length_range] at h1
            exact small_line (by omega)
          · rw [enx]
            have ne5 : p5 ≠ l := ne_of ep5 el7 (fun z => (nomatch z))
            refine SkL.snoc (H := H2) eas ((same_tk (sT.trans s27)).trans (tk_lst el7)) upd_same ?_
            show upd H7 l _ p5 = _
            rw [upd_ne ne5, ep5]
            unfold vns
            rw [List.map_append, List.map_append, List.map_take, List.map_drop]
            rfl
        · have e : (m ^^^ at0 both i) = 0 := by simpa using e
          have enx : (List.range (i + 1)).filterMap (splitB s both) = (List.range i).filterMap (splitB s both) := by
            rw [List.range_succ, List.filterMap_append]
            simp only [List.filterMap_cons, List.filterMap_nil, splitB, e0, if_pos e, List.append_nil]
          exact ⟨_, _, _, rfl, sm.trans sT, by rw [enx]; exact SkL.same ⟨as, el, eas⟩ sT⟩
      · rintro σ H2 ⟨y4, y5, y6, rfl, sm, hsk⟩
        rw [vns_len] at hsk
        exact ⟨_, rfl, q _ l (s1.trans sm) (s1.free nl) (by rw [hsp]; exact hsk)⟩
end
end Rw
set_option Elab.async false
set_option linter.all false
set_option maxRecDepth 100000
set_option maxHeartbeats 4000000
namespace Rw
open PySem PySem.Spec PyProof.Rows L2
open Raised (Sk at0 meetL meetO splitB splitS withoutS Deed setAll fullAll andAll beforeS pack packF DeedOk)
section
variable {P : Program} {w : World} {K : PySem.W.Frag} {mg : Str → Option Value} {base : Heap} {A : Ad}
/-! ### without -/
def spWithout : Sp := fun vs H Q _ => ∃ (a l : Addr) (s : Sk) (ss : List Sk), vs = [.ref a, .ref l] ∧ SkAt H a s ∧ SkL H l ss ∧ (∀ t ∈ ss, t.length = s.length) ∧ s.length ≤ 1000 ∧ (∀ i, i ≤ ss.length → (withoutS s (ss.take i)).length ≤ 10000) ∧
  ∀ H' r, Same H H' → H r = none → SkL H' r (withoutS s ss) → Q (.ref r) H'
theorem withoutS_snoc (s t : Sk) (ss : List Sk) : withoutS s (ss ++ [t]) = (withoutS s ss).flatMap fun o => splitS o t := by
  unfold withoutS
  rw [List.foldl_append]
  rfl
theorem without_fold {n : Nat} : ∀ (ss parts : List Sk), (∀ t ∈ ss, t.length = n) → (∀ p ∈ parts, p.length = n) → ∀ r ∈ ss.foldl (fun parts s => parts.flatMap fun o => splitS o s) parts, r.length = n
  | [], parts, _, hp, r, hr => hp r hr
  | t :: ss, parts, h, hp, r, hr => without_fold ss _ (fun x hx => h x (List.mem_cons_of_mem _ hx)) (fun p hpm => by
      obtain ⟨o, ho, hro⟩ := List.mem_flatMap.mp hpm
      rw [splitS_len (by rw [hp o ho]; exact (h t List.mem_cons_self).symm) hro, hp o ho]) r hr
theorem withoutS_len {s : Sk} {ss : List Sk} {r : Sk} (h : ∀ t ∈ ss, t.length = s.length) (hr : r ∈ withoutS s ss) : r.length = s.length :=
  without_fold ss [s] h (fun p hp => by rw [List.mem_singleton] at hp; rw [hp]) r hr
theorem ok_without (T : Txt K mg A) : FnOk P w K mg base CX0 3 A.a_without A.d_without ["a", "piece"] spWithout := by
  have G : FnOk P w K mg base CX0 2 _ _ _ _ := ok_split T
  refine T.F_without.ok sc_without (fun vs H Q E h => ?_) (fun cdv Ar outer s H vs Q E hr h => ?_)
  · obtain ⟨a, l, s, ss, rfl, _⟩ := h
    rfl
  · obtain ⟨a, l, s, ss, rfl, ha, ⟨las, el, elas⟩, hlen, hs, hb, q⟩ := h
    refine ⟨_, pss_cons (ps_set (i := 2) sc_without.nd rfl (.inl rfl) (pe_lst (pa_cons (pv 0) pa_nil)))
      (pss_cons (ps_for PassesOwn.never rfl (pi_list (pv 1)) (pg_name (i := 3) sc_without.nd rfl (.inr rfl))
        (pss_one (ps_setLc2 (i := 2) (own := [("other", 4), ("part", 5)]) (vs1 := [5]) (g := gName 4) (g1 := gName 5) (tt := tYes) (tt1 := tYes) (te := tVar 5) (wi1 := iList K (tCall spSplit [] E0 (tCons (tVar 4) (tCons (tVar 3) tNil))))
          rfl sc_without.nd rfl rfl (sw_true rfl rfl rfl (by decide +kernel)) (pi_list (pv 2)) (blkOk_by (N := ["a", "piece", "parts", "sketch", "other", "part"]) (sc := defScope s_without) (by decide +kernel)) (by decide)
          (fun _ _ _ _ _ => pg_name (i := 4) sc_without.nd rfl (Or.inl rfl)) (fun _ _ _ _ _ => pts_nil)
          (fun _ _ _ _ _ => pi_list (pe_call G hr (by rfl) T.g_split T.F_split.kp T.b_split .nil pass0 (pa_cons (pv 4) (pa_cons (pv 3) pa_nil))))
          (fun _ _ _ _ _ => pg_name (i := 5) sc_without.nd rfl (Or.inl rfl)) (fun _ _ _ _ _ => pts_nil) (fun _ _ _ _ _ => pv 5))))
      (pss_one (ps_ret (pv 2)))), ?_⟩
    refine ⟨_, rfl, by show 1 ≤ sizeLine; rw [sizeLine_eq]; decide, fun r nr => ?_⟩
    refine ⟨_, rfl, l, rfl, ⟨_, SqL.of (same_new nr _ _ el)⟩, for_list (K := K) (a := l) (xs := las.map V.ref) (fun i σ H2 => ∃ (r : Addr) (y3 : Option V), σ = [some (.ref a), some (.ref l), some (.ref r), y3, none, none] ∧ H r = none ∧ Same H H2 ∧ SkL H2 r (withoutS s (ss.take i)))
      ⟨r, none, rfl, nr, same_new nr, [a], upd_same, All2.cons (same_new nr _ _ ha) All2.nil⟩ (fun i σ H2 _ ⟨_, _, _, _, sm, _⟩ => SqL.of (sm _ _ el)) ?_ ?_⟩
    · rintro i x σ H2 hx ⟨r, y3, rfl, nr', sm, ras, er, eras⟩
      obtain ⟨b, hb', rfl⟩ := map_ref_at hx
      obtain ⟨t, ht, eb⟩ := elas.at' hb'
      have hi : i < ss.length := (List.getElem?_eq_some_iff.mp ht).1
      have htl : t.length = s.length := hlen t (List.mem_of_getElem? ht)
      have etk : ss.take (i + 1) = ss.take i ++ [t] := by rw [List.take_add_one, ht]; rfl
      have hb1 := hb (i + 1) hi
      rw [etk, withoutS_snoc] at hb1
      -- the outer list
      refine ⟨_, rfl, r, rfl, ⟨_, SqL.of er⟩, fun D nD => ?_⟩
      refine ⟨fun j n H3 => n = ras.length - j ∧ j ≤ ras.length ∧ Same H2 H3 ∧ SkL H3 D (((withoutS s (ss.take i)).take j).flatMap fun o => splitS o t), ⟨_, rfl, Nat.zero_le _, same_new nD, [], upd_same, All2.nil⟩, fun j n H3 ⟨en, hj, s3, das, eD, edas⟩ => ?_⟩
      by_cases hjl : j = ras.length
      · refine .inl ⟨⟨_, SqL.of (s3 _ _ er), by rw [List.length_map]; omega⟩, D, _, rfl, sm.free nD, sm.trans s3, ?_⟩
        rw [etk, withoutS_snoc]
        rw [show (withoutS s (ss.take i)).take j = withoutS s (ss.take i) from List.take_of_length_le (by rw [← eras.1]; omega)] at edas
        exact ⟨das, eD, edas⟩
      have hjlt : j < ras.length := by omega
      have hra : ras[j]? = some ras[j] := List.getElem?_eq_getElem hjlt
      obtain ⟨o, ho, eo⟩ := eras.at' hra
      have hol : o.length = s.length := withoutS_len (fun x hx => hlen x (List.mem_of_mem_take hx)) (List.mem_of_getElem? ho)
      have eto : (withoutS s (ss.take i)).take (j + 1) = (withoutS s (ss.take i)).take j ++ [o] := by rw [List.take_add_one, ho]; rfl
      refine .inr ⟨⟨_, _, SqL.of (s3 _ _ er), get_map hra⟩, fun H' => Same H2 H' ∧ SkL H' D (((withoutS s (ss.take i)).take (j + 1)).flatMap fun o => splitS o t), fun H' h' => ⟨_, by omega, rfl, hjlt, h'.1, h'.2⟩, ?_⟩
      rintro x H' ⟨rfl, fx⟩
      obtain rfl : x = .ref ras[j] := Option.some.inj ((fx _ (SqL.of (s3 _ _ er))).symm.trans (get_map hra))
      refine ⟨rfl, yes_of (iteT ?_)⟩
      -- the inner list
      refine ⟨_, rfl, _, rfl, ras[j], b, o, t, rfl, s3 _ _ eo, s3 _ _ (sm _ _ eb), by rw [hol, htl], by rw [hol]; exact hs, fun H4 r4 s4 n4 ⟨fas, e4, efas⟩ => ?_⟩
      have ne4 : D ≠ r4 := ne_of_none eD n4
      refine ⟨r4, rfl, ⟨_, SqL.of e4⟩, fun k n H5 => n = fas.length - k ∧ k ≤ fas.length ∧ Same H2 H5 ∧ TK H4 H5 ∧ H5 r4 = some (.lst (fas.map V.ref)) ∧ SkL H5 D ((((withoutS s (ss.take i)).take j).flatMap fun o => splitS o t) ++ (splitS o t).take k), ⟨_, rfl, Nat.zero_le _, s3.trans s4, TK.refl _, e4, ?_⟩, fun k n H5 ⟨en5, hk, s5, t5, e5, gas, eD5, egas⟩ => ?_⟩
      · exact ⟨das, s4 _ _ eD, by rw [List.take_zero, List.append_nil]; exact edas.mono fun a s x => s4 _ _ x⟩
      by_cases hkl : k = fas.length
      · refine .inl ⟨⟨_, SqL.of e5, by rw [List.length_map]; omega⟩, s5, gas, eD5, ?_⟩
        rw [show (splitS o t).take k = splitS o t from List.take_of_length_le (by rw [← efas.1]; omega)] at egas
        rw [eto, List.flatMap_append, List.flatMap_cons, List.flatMap_nil, List.append_nil]
        exact egas
      have hklt : k < fas.length := by omega
      have hfa : fas[k]? = some fas[k] := List.getElem?_eq_getElem hklt
      obtain ⟨z, hz, ez⟩ := efas.at' hfa
      refine .inr ⟨⟨_, _, SqL.of e5, get_map hfa⟩, fun H' => Same H2 H' ∧ TK H4 H' ∧ H' r4 = some (.lst (fas.map V.ref)) ∧ SkL H' D ((((withoutS s (ss.take i)).take j).flatMap fun o => splitS o t) ++ (splitS o t).take (k + 1)), fun H' h' => ⟨_, by omega, rfl, hklt, h'⟩, ?_⟩
      rintro x H' ⟨rfl, fx⟩
      obtain rfl : x = .ref fas[k] := Option.some.inj ((fx _ (SqL.of e5)).symm.trans (get_map hfa))
      refine ⟨rfl, yes_of (iteT ?_)⟩
      refine ⟨_, rfl, _, eD5, ?_, same_mut s5 nD, t5.trans (tk_lst eD5), by rw [upd_ne ne4.symm]; exact e5, ?_⟩
      · rw [List.length_map, egas.1, List.length_append, List.length_take]
        have h1 : (((withoutS s (ss.take i)).take j).flatMap fun o => splitS o t).length + (splitS o t).length ≤ 10000 := by
          refine Nat.le_trans ?_ hb1
          have hsub : ((withoutS s (ss.take i)).take (j + 1)).flatMap (fun o => splitS o t) ++ ((withoutS s (ss.take i)).drop (j + 1)).flatMap (fun o => splitS o t) = (withoutS s (ss.take i)).flatMap fun o => splitS o t := by
            rw [← List.flatMap_append, List.take_append_drop]
          rw [← hsub, eto, List.flatMap_append, List.flatMap_cons, List.flatMap_nil, List.append_nil, List.length_append, List.length_append]
          omega
        exact small_line (by omega)
      · rw [show (splitS o t).take (k + 1) = (splitS o t).take k ++ [z] by rw [List.take_add_one, hz]; rfl, ← List.append_assoc]
        refine SkL.snoc (H := H') egas (tk_lst eD5) upd_same ?_
        have ezk := t5 _ _ ez
        show upd H' D _ fas[k] = _
        rw [upd_ne (ne_of ezk eD5 (fun z => (nomatch z)))]
        exact ezk
    · rintro σ H2 ⟨r, y3, rfl, nr', sm, hsk⟩
      rw [List.take_of_length_le (by rw [List.length_map, elas.1]; exact Nat.le_refl _)] at hsk
      exact ⟨_, rfl, q _ r sm nr' hsk⟩
end
end Rw
set_option Elab.async false
set_option linter.all false
set_option maxRecDepth 100000
set_option maxHeartbeats 4000000
namespace Rw
open PySem PySem.Spec PyProof.Rows L2
open Raised (Sk at0 meetL meetO splitB splitS withoutS Deed setAll fullAll andAll beforeS pack packF DeedOk)
section
variable {P : Program} {w : World} {K : PySem.W.Frag} {mg : Str → Option Value} {base : Heap} {A : Ad}
/-! ### sketch_before -/
def spBefore (A : Ad) : Sp := fun vs H Q _ => ∃ (m cc dd ff a : Addr) (sizes : List Nat) (M : Raised.Mach) (s : Sk) (d : Nat) (D : Deed), vs = [.ref m, .ref a, vn d] ∧ MachAt A.c_Machine H m cc dd ff sizes M ∧ sizes.length ≤ 1000 ∧ SkAt H a s ∧ M.deeds[d]? = some D ∧ DeedOk s.length D ∧
  s.length = M.full.length ∧ ∀ H' v, Same H H' → OptSk H' v (beforeS M.full s D) → Q v H'
theorem fullAll_snoc (full s : Sk) (ps : List (Nat × Nat)) (p : Nat × Nat) : fullAll full (ps ++ [p]) s = (fullAll full ps s).set p.1 (at0 full p.1) := by unfold fullAll; rw [List.foldl_append]; rfl
theorem andAll_snoc (s : Sk) (ps : List (Nat × Nat)) (p : Nat × Nat) : andAll (ps ++ [p]) s = (andAll ps s).set p.1 (at0 (andAll ps s) p.1 &&& p.2) := by unfold andAll; rw [List.foldl_append]; rfl
theorem vns_set (s : List Nat) (i m : Nat) : (vns s).set i (vn m) = vns (s.set i m) := by unfold vns; rw [List.map_set]
theorem take_succ_of {α : Type} {l : List α} {i : Nat} {x : α} (h : l[i]? = some x) : l.take (i + 1) = l.take i ++ [x] := by rw [List.take_add_one, h]; rfl
theorem ixN_nat {n i : Nat} (h : i < n) : ixN n (i : Int) = some i := by
  unfold ixN
  rw [if_pos (by omega), if_pos (by omega), Int.toNat_natCast]
theorem ok_before (T : Txt K mg A) : FnOk P w K mg base CX0 3 A.a_sketch_before A.d_sketch_before ["machine", "sketch", "deed"] (spBefore A) := by
  have GF : FnOk P w K mg base CX0 1 _ _ _ _ := ok_full T
  refine T.F_sketch_before.ok sc_sketch_before (fun vs H Q E h => ?_) (fun cdv Ar outer s H vs Q E hr h => ?_)
  · obtain ⟨m, cc, dd, ff, a, sizes, M, sk, d, D, rfl, _⟩ := h
    rfl
  · obtain ⟨m, cc, dd, ff, a, sizes, M, sk, d, D, rfl, hM, hz, ha, hD, dok, hl, q⟩ := h
    obtain ⟨dx, ob⟩ := hM.ob
    obtain ⟨das, edd, edas⟩ := hM.deeds
    obtain ⟨da, hda, nm, g, c, eda, ⟨gas, eg, egas⟩, ⟨cas, ec, ecas⟩⟩ := edas.at_ hD
    refine ⟨_, pss_cons (ps_asg (pe_ix ix_tup (pe_fld (pv 0) rfl) (pv 2) (fun _ _ => rfl)) (pg_tup rfl (pgs_cons (pg_name (i := 3) sc_sketch_before.nd rfl (.inl rfl)) (pgs_cons (pg_name (i := 4) sc_sketch_before.nd rfl (.inl rfl)) (pgs_cons (pg_name (i := 5) sc_sketch_before.nd rfl (.inl rfl)) pgs_nil)))))
      (pss_cons (ps_set (i := 6) sc_sketch_before.nd rfl (.inl rfl) (pe_callTy call_list_of (by rfl) T.z_list (by decide +kernel) (pa_cons (pv 1) pa_nil)))
      (pss_cons (ps_set (i := 7) sc_sketch_before.nd rfl (.inl rfl) (pe_prop (pv 0) T.cl_Machine T.m_Machine_full GF (hr.mono (by decide)) T.b_Machine_full .nil pass0 rfl))
      (pss_cons (ps_for PassesOwn.never rfl (pi_tup (pv 5)) (pg_tup rfl (pgs_cons (pg_name (i := 8) sc_sketch_before.nd rfl (.inl rfl)) (pgs_cons (pg_name (i := 3) sc_sketch_before.nd rfl (.inl rfl)) pgs_nil)))
        (pss_one (ps_asg (pe_ix ix_tup (pv 7) (pv 8) (fun _ _ => rfl)) (pg_sub (pv 6) (pv 8) set_list))))
      (pss_cons (ps_for PassesOwn.never rfl (pi_tup (pv 5)) (pg_tup rfl (pgs_cons (pg_name (i := 8) sc_sketch_before.nd rfl (.inl rfl)) (pgs_cons (pg_tup rfl (pgs_cons (pg_name (i := 9) sc_sketch_before.nd rfl (.inl rfl)) (pgs_cons (pg_name (i := 10) sc_sketch_before.nd rfl (.inl rfl)) pgs_nil))) pgs_nil)))
        (pss_one (ps_if (pt_cmpR op_eq (pv 9) pe_str (nomark _))
          (pss_one (ps_if (pt_cmpR op_eq (pe_op op_andN (pe_op op_shrNN (pe_ix ix_tup (pv 1) (pv 8) (fun _ _ => rfl)) (pv 10)) pe_int) pe_int (nomark _)) (pss_one (ps_ret pe_non)) pss_nil)) pss_never)))
      (pss_cons (ps_for PassesOwn.never rfl (pi_tup (pv 4)) (pg_tup rfl (pgs_cons (pg_name (i := 8) sc_sketch_before.nd rfl (.inl rfl)) (pgs_cons (pg_name (i := 11) sc_sketch_before.nd rfl (.inl rfl)) pgs_nil)))
        (pss_one (ps_augS (pv 6) (pv 8) get_list (pv 11) iop_andN set_list)))
      (pss_one (ps_ret (pe_ifExp (pt_val (pe_callB (cr_all rfl) (by rfl) T.z_all (by decide +kernel) (pa_cons
          (pe_lc (own := [("mask", 11)]) (g := gName 11) (tt := tYes) (te := tOp rNe (tVar 11) (tC (.int 0))) rfl sc_sketch_before.nd (pi_list (pv 6))
            (blkOk_by (N := ["machine", "sketch", "deed", "_", "guard", "changes", "masks", "full", "cell", "kind", "number", "mask"]) (sc := defScope s_sketch_before) (by decide +kernel))
            (fun _ _ _ _ _ => pg_name (i := 11) sc_sketch_before.nd rfl (Or.inl rfl)) (fun _ _ _ _ _ => pts_nil) (fun _ _ _ _ _ => pe_cmpR op_ne (pv 11) pe_int (nomark _))) pa_nil)))
        (pe_callTy call_tuple_of (by rfl) T.z_tuple (by decide +kernel) (pa_cons (pv 6) pa_nil)) pe_non))))))))
      , ?_⟩
    -- _, guard, changes = machine.deeds[deed]
    refine ⟨_, rfl, m, A.c_Machine, dx, _, _, rfl, ob, T.cl_Machine, T.n_Machine_deeds, rfl, _, rfl, dd, _, (d : Int), .ref da, rfl, rfl, SqT.of edd, atI_nat (get_map hda), ?_⟩
    refine ⟨da, _, rfl, SqT.of eda, rfl, _, _, rfl, _, _, rfl, _, _, rfl, rfl, ?_⟩
    -- masks = list(sketch)
    refine ⟨_, rfl, a, vns sk, rfl, .inr ha.sq, fun l nl => ?_⟩
    have s1 : Same H (upd H l (.lst (vns sk))) := same_new nl
    -- full = machine.full
    refine ⟨_, rfl, m, dx, _, rfl, s1 _ _ ob, m, cc, dd, ff, sizes, M, rfl, hM.same s1, hz, fun H1 f s2 ef => ?_⟩
    have el1 := s2 _ _ (upd_same (H := H) (a := l) (o := .lst (vns sk)))
    have s12 := s1.trans s2
    -- masks[cell] = full[cell]
    refine ⟨_, rfl, c, rfl, ⟨_, SqT.of (s12 _ _ ec)⟩, for_tup (K := K) (a := c) (xs := cas.map V.ref)
      (fun i σ H2 => ∃ y3 y8, σ = [some (.ref m), some (.ref a), some (vn d), y3, some (.ref g), some (.ref c), some (.ref l), some (.ref f), y8, none, none, none] ∧ Same H H2 ∧ SkAt H2 f M.full ∧ H2 l = some (.lst (vns (fullAll M.full (D.changes.take i) sk))))
      ⟨_, none, rfl, s12, ef, el1⟩ (fun i σ H2 _ ⟨_, _, _, sm, _⟩ => SqT.of (sm _ _ ec)) ?_ ?_⟩
    · rintro i x σ H2 hx ⟨y3, y8, rfl, sm, ef2, el2⟩
      obtain ⟨ca, hca, rfl⟩ := map_ref_at hx
      obtain ⟨p, hp, qa, eca, eqa⟩ := ecas.at' hca
      have hpm := List.mem_of_getElem? hp
      have hc : p.1 < sk.length := dok.c p hpm
      refine ⟨ca, _, rfl, SqT.of (sm _ _ eca), rfl, _, _, rfl, _, _, rfl, rfl, ?_⟩
      refine ⟨_, rfl, _, rfl, f, _, (p.1 : Int), vn (at0 M.full p.1), rfl, rfl, SqT.of ef2, atI_nat (vns_get (of_at0 (by omega))), ?_⟩
      refine ⟨_, rfl, _, rfl, l, _, _, p.1, rfl, rfl, el2, ixN_nat (by rw [vns_len, Raised.fullAll_len]; exact hc), ?_⟩
      refine ⟨_, _, rfl, same_mut sm nl, (tk_lst el2) _ _ ef2, ?_⟩
      rw [upd_same, vns_set, take_succ_of hp, fullAll_snoc]
    · rintro σ H2 ⟨y3, y8, rfl, sm, ef2, el2⟩
      rw [List.take_of_length_le (by rw [List.length_map, ecas.1]; exact Nat.le_refl _)] at el2
      -- the sets
      refine ⟨_, rfl, c, rfl, ⟨_, SqT.of (sm _ _ ec)⟩, for_tup (K := K) (a := c) (xs := cas.map V.ref)
        (fun i σ H3 => ∃ y3 y8 y9 y10, σ = [some (.ref m), some (.ref a), some (vn d), y3, some (.ref g), some (.ref c), some (.ref l), some (.ref f), y8, y9, y10, none] ∧ H3 = H2 ∧ (D.changes.take i).all (fun p => (at0 sk p.1).testBit p.2) = true)
        ⟨y3, y8, none, none, rfl, rfl, rfl⟩ (fun i σ H3 _ ⟨_, _, _, _, _, e, _⟩ => by rw [e]; exact SqT.of (sm _ _ ec)) ?_ ?_⟩
      · rintro i x σ H3 hx ⟨z3, z8, z9, z10, rfl, rfl, hall⟩
        obtain ⟨ca, hca, rfl⟩ := map_ref_at hx
        obtain ⟨p, hp, qa, eca, eqa⟩ := ecas.at' hca
        have hpm := List.mem_of_getElem? hp
        have hc : p.1 < sk.length := dok.c p hpm
        refine ⟨ca, _, rfl, SqT.of (sm _ _ eca), rfl, _, _, rfl, _, _, rfl, ⟨qa, _, rfl, SqT.of (sm _ _ eqa), rfl, _, _, rfl, _, _, rfl, rfl, rfl, ?_⟩⟩
        refine ⟨_, rfl, rfl, _, rfl, ?_⟩
        refine ifT (decide_eq_true rfl) ?_
        refine ⟨_, rfl, _, rfl, a, _, (p.1 : Int), vn (at0 sk p.1), rfl, rfl, SqT.of (sm _ _ ha), atI_nat (vns_get (of_at0 hc)), _, rfl, at0 sk p.1, p.2, rfl, rfl, _, 1, rfl, rfl, rfl, _, rfl, ?_⟩
        rw [shr1, vn_eq0]
        by_cases hb : (at0 sk p.1).testBit p.2 = true
        · rw [if_pos hb]
          refine ifF (by decide) ⟨_, _, _, _, rfl, rfl, ?_⟩
          rw [take_succ_of hp, List.all_append, hall]
          simp [hb]
        · rw [if_neg hb]
          refine ifT (by decide) (q _ _ sm ?_)
          have hn : beforeS M.full sk D = none := by
            unfold beforeS
            rw [if_neg]
            intro z
            exact hb (List.all_eq_true.mp z p hpm)
          rw [hn]
          rfl
      · rintro σ H3 ⟨z3, z8, z9, z10, rfl, rfl, hall⟩
        rw [List.take_of_length_le (by rw [List.length_map, ecas.1]; exact Nat.le_refl _)] at hall
        -- the guard
        refine ⟨_, rfl, g, rfl, ⟨_, SqT.of (sm _ _ eg)⟩, for_tup (K := K) (a := g) (xs := gas.map V.ref)
          (fun i σ H4 => ∃ y8 y11, σ = [some (.ref m), some (.ref a), some (vn d), z3, some (.ref g), some (.ref c), some (.ref l), some (.ref f), y8, z9, z10, y11] ∧ Same H H4 ∧ H4 l = some (.lst (vns (andAll (D.guard.take i) (fullAll M.full D.changes sk)))))
          ⟨z8, none, rfl, sm, el2⟩ (fun i σ H4 _ ⟨_, _, _, s4, _⟩ => SqT.of (s4 _ _ eg)) ?_ ?_⟩
        · rintro i x σ H4 hx ⟨y8, y11, rfl, s4, el4⟩
          obtain ⟨ga, hga, rfl⟩ := map_ref_at hx
          obtain ⟨p, hp, ega⟩ := egas.at' hga
          have hg : p.1 < sk.length := dok.g p (List.mem_of_getElem? hp)
          have hlen : (andAll (D.guard.take i) (fullAll M.full D.changes sk)).length = sk.length := by rw [Raised.andAll_len, Raised.fullAll_len]
          refine ⟨ga, _, rfl, SqT.of (s4 _ _ ega), rfl, _, _, rfl, _, _, rfl, rfl, ?_⟩
          refine ⟨_, rfl, _, rfl, l, _, p.1, _, rfl, rfl, el4, vns_get (of_at0 (by rw [hlen]; exact hg)), _, rfl, _, p.2, rfl, rfl, l, _, _, p.1, rfl, rfl, el4, ixN_nat (by rw [vns_len, hlen]; exact hg), ?_⟩
          refine ⟨_, _, rfl, same_mut s4 nl, ?_⟩
          rw [upd_same, vns_set, take_succ_of hp, andAll_snoc]
        · rintro σ H4 ⟨y8, y11, rfl, s4, el4⟩
          rw [List.take_of_length_le (by rw [List.length_map, egas.1]; exact Nat.le_refl _)] at el4
          have hbf : beforeS M.full sk D = if 0 ∈ andAll D.guard (fullAll M.full D.changes sk) then none else some (andAll D.guard (fullAll M.full D.changes sk)) := by unfold beforeS; rw [if_pos hall]
          have hms : (andAll D.guard (fullAll M.full D.changes sk)).length ≤ 1000 := by rw [Raised.andAll_len, Raised.fullAll_len, hl, hM.full, List.length_map]; exact hz
          generalize andAll D.guard (fullAll M.full D.changes sk) = ms at el4 hbf hms
          -- the end
          refine ⟨_, rfl, l, rfl, ⟨_, SqL.of el4⟩, fun D2 nD => ?_⟩
          refine lc_list (K := K) (a := l) (xs := vns ms) (fun i H5 => Same H4 H5 ∧ H5 D2 = some (.lst (((ms.take i).map fun x => !decide (x = 0)).map V.bl))) ⟨same_new nD, upd_same⟩ (fun i H5 _ ⟨s5, _⟩ => SqL.of (s5 _ _ el4)) ?_ ?_
          · rintro i x H5 hx ⟨s5, e5⟩
            obtain ⟨k, hk, rfl⟩ := vns_at hx
            refine ⟨rfl, yes_of (iteT ?_)⟩
            have hi : i < ms.length := (List.getElem?_eq_some_iff.mp hk).1
            refine ⟨_, rfl, rfl, _, e5, ?_, same_mut s5 nD, ?_⟩
            · rw [List.length_map, List.length_map, List.length_take]
              exact small_line (by omega)
            · rw [upd_same, take_succ_of hk, List.map_append, List.map_append, vn_eq0]
              rfl
          · rintro H5 ⟨s5, e5⟩
            rw [vns_len, List.take_length] at e5
            refine ⟨D2, _, rfl, SqL.of e5, _, rfl, ?_⟩
            have ex : (ms.map fun x => !decide (x = 0)).all id = !decide (0 ∈ ms) := by
              rw [Bool.eq_iff_iff]
              simp only [List.all_map, List.all_eq_true, Bool.not_eq_true', decide_eq_false_iff_not, Function.comp_apply, id]
              exact ⟨fun h z => h 0 z rfl, fun h x hx e => h (e ▸ hx)⟩
            rw [ex]
            by_cases h0 : 0 ∈ ms
            · rw [if_pos h0] at hbf
              refine ifF (by simp [h0]) (q _ _ (s4.trans s5) ?_)
              rw [hbf]; rfl
            · rw [if_neg h0] at hbf
              refine ifT (by simp [h0]) ⟨_, rfl, l, _, rfl, .inl ⟨SqL.of (s5 _ _ el4), fun p np => q _ _ ((s4.trans s5).trans (same_new np)) ?_⟩⟩
              rw [hbf]
              exact ⟨p, rfl, upd_same⟩
end
end Rw
set_option Elab.async false
set_option linter.all false
set_option maxRecDepth 100000
set_option maxHeartbeats 4000000
/-! the search: its object, place, places -/
namespace Rw
open PySem PySem.Spec PyProof.Rows L2
open Raised (Sk at0 meetL meetO splitB splitS withoutS Deed setAll fullAll andAll beforeS pack packF DeedOk Srch Mach place placeAt placeIx SInv MachOk Good)
def fI : Option Nat → Int
  | none => -1
  | some k => (k : Int)
def sfs (m pc l1 l2 l3 : Addr) (f : Int) : List (Str × V) :=
  [(Str.ofString "_machine", .ref m), (Str.ofString "_piece", .ref pc), (Str.ofString "_packed", .ref l1), (Str.ofString "sketches", .ref l2), (Str.ofString "origins", .ref l3), (Str.ofString "found", .int f)]
def OrgAt (H : Hp) (v : V) : Option (Nat × Nat) → Prop
  | none => v = .non
  | some (d, n) => ∃ q : Addr, v = .ref q ∧ H q = some (.tup [vn d, vn n])
theorem OrgAt.tk {H H' : Hp} {v : V} {o : Option (Nat × Nat)} (t : TK H H') (h : OrgAt H v o) : OrgAt H' v o := by
  cases o with
  | none => exact h
  | some p => obtain ⟨q, e, h⟩ := h; exact ⟨q, e, t _ _ h⟩
/-- where a search stands -/
structure SAd where
  (p dx m pc l1 l2 l3 : Addr)
abbrev SAd.own (a : SAd) : List Addr := [a.p, a.l1, a.l2, a.l3]
structure SearchAt (C : Addr) (H : Hp) (a : SAd) (S : Srch) : Prop where
  ob : H a.p = some (.ins C a.dx (sfs a.m a.pc a.l1 a.l2 a.l3 (fI S.found)))
  pk : H a.l1 = some (.lst (vns (S.sk.map pack)))
  sk : SkL H a.l2 S.sk
  og : ∃ vs : List V, H a.l3 = some (.lst vs) ∧ All2 (OrgAt H) vs S.org
  n12 : a.l1 ≠ a.l2
  n13 : a.l1 ≠ a.l3
  n23 : a.l2 ≠ a.l3
theorem SearchAt.same {C : Addr} {H H' : Hp} {a : SAd} {S : Srch} (h : SearchAt C H a S) (s : Same H H') : SearchAt C H' a S := by
  obtain ⟨vs, e1, e2⟩ := h.og
  exact ⟨s _ _ h.ob, s _ _ h.pk, h.sk.same s, ⟨vs, s _ _ e1, e2.mono fun x o z => z.tk (same_tk s)⟩, h.n12, h.n13, h.n23⟩
theorem lst_ne_ins {H : Hp} {a b C dx : Addr} {xs : List V} {fs : List (Str × V)} (h : H a = some (.lst xs)) (h' : H b = some (.ins C dx fs)) : a ≠ b := ne_of h h' (fun z => (nomatch z))
theorem tup_ne_ins {H : Hp} {a b C dx : Addr} {xs : List V} {fs : List (Str × V)} (h : H a = some (.tup xs)) (h' : H b = some (.ins C dx fs)) : a ≠ b := ne_of h h' (fun z => (nomatch z))
theorem tup_ne_lst {H : Hp} {a b : Addr} {xs ys : List V} (h : H a = some (.tup xs)) (h' : H b = some (.lst ys)) : a ≠ b := ne_of h h' (fun z => (nomatch z))
/-- a thing that is no part of the search -/
def Off (a : SAd) (b : Addr) : Prop := b ∉ a.own
theorem SearchAt.tup_off {C : Addr} {H : Hp} {a : SAd} {S : Srch} (h : SearchAt C H a S) {b : Addr} {xs : List V} (hb : H b = some (.tup xs)) : b ∉ a.own := by
  obtain ⟨as, e2, _⟩ := h.sk
  obtain ⟨vs, e3, _⟩ := h.og
  simp only [SAd.own, List.mem_cons, List.not_mem_nil, or_false, not_or]
  exact ⟨tup_ne_ins hb h.ob, tup_ne_lst hb h.pk, tup_ne_lst hb e2, tup_ne_lst hb e3⟩
theorem SearchAt.new_off {C : Addr} {H : Hp} {a : SAd} {S : Srch} (h : SearchAt C H a S) {b : Addr} (hb : H b = none) : b ∉ a.own := by
  obtain ⟨as, e2, _⟩ := h.sk
  obtain ⟨vs, e3, _⟩ := h.og
  simp only [SAd.own, List.mem_cons, List.not_mem_nil, or_false, not_or]
  exact ⟨(ne_of_none h.ob hb).symm, (ne_of_none h.pk hb).symm, (ne_of_none e2 hb).symm, (ne_of_none e3 hb).symm⟩
theorem SearchAt.mach_off {C Cm : Addr} {H : Hp} {a : SAd} {S : Srch} {m cc dd ff : Addr} {sizes : List Nat} {M : Mach} (h : SearchAt C H a S) (hM : MachAt Cm H m cc dd ff sizes M) : m ∉ a.own := by
  obtain ⟨dx, ob⟩ := hM.ob
  obtain ⟨as, e2, _⟩ := h.sk
  obtain ⟨vs, e3, _⟩ := h.og
  simp only [SAd.own, List.mem_cons, List.not_mem_nil, or_false, not_or]
  refine ⟨ne_of ob h.ob fun z => ?_, (lst_ne_ins h.pk ob).symm, (lst_ne_ins e2 ob).symm, (lst_ne_ins e3 ob).symm⟩
  injection z with z1 z2 z3
  have := congrArg List.length z3
  exact absurd this (by show ¬ (3 = 6); decide)
theorem MachAt.kp {C : Addr} {H H' : Hp} {m cc dd ff : Addr} {sizes : List Nat} {M : Mach} {ps : List Addr} (h : MachAt C H m cc dd ff sizes M) (t : TK H H') (k : Kp ps H H') (hm : m ∉ ps) : MachAt C H' m cc dd ff sizes M := by
  obtain ⟨dx, e⟩ := h.ob
  exact h.keep t (by rw [e]; exact k _ _ e hm)
section
variable {P : Program} {w : World} {K : PySem.W.Frag} {mg : Str → Option Value} {base : Heap} {A : Ad}
/-! ### Search(machine, piece) -/
def spSInit (A : Ad) : Sp := fun vs H Q _ => ∃ (p dx m pc : Addr), vs = [.ref p, .ref m, .ref pc] ∧ H p = some (.ins A.c_Search dx []) ∧
  ∀ (l1 l2 l3 : Addr) H', SearchAt A.c_Search H' ⟨p, dx, m, pc, l1, l2, l3⟩ ⟨[], [], none⟩ → H l1 = none → H l2 = none → H l3 = none → Kp [p] H H' → TK H H' → Q .non H'
theorem ok_sinit (T : Txt K mg A) : FnOk P w K mg base CX0 1 A.a_Search_init A.d_Search_init ["self", "machine", "piece"] (spSInit A) := by
  refine T.F_Search_init.ok sc_Search_init (fun vs H Q E h => ?_) (fun cdv Ar outer s H vs Q E hr h => ?_)
  · obtain ⟨p, dx, m, pc, rfl, _⟩ := h
    rfl
  · obtain ⟨p, dx, m, pc, rfl, hp, q⟩ := h
    refine ⟨_, pss_cons (ps_fld (pv 0) (pv 1) rfl) (pss_cons (ps_fld (pv 0) (pv 2) rfl) (pss_cons (ps_fld (pv 0) (pe_lst pa_nil) rfl) (pss_cons (ps_fld (pv 0) (pe_lst pa_nil) rfl) (pss_cons (ps_fld (pv 0) (pe_lst pa_nil) rfl)
      (pss_one (ps_fld (pv 0) (pe_un un_neg pe_int) rfl)))))), ?_⟩
    refine ⟨_, rfl, _, rfl, p, A.c_Search, dx, _, rfl, hp, T.cl_Search, T.n_Search__machine, by show 0 < 1000; decide, ?_⟩
    refine ⟨_, rfl, _, rfl, p, A.c_Search, dx, _, rfl, upd_same, T.cl_Search, T.n_Search__piece, by show 1 < 1000; decide, ?_⟩
    refine ⟨Nat.zero_le _, fun l1 n1 => ⟨_, rfl, p, A.c_Search, dx, _, rfl, same_new n1 _ _ upd_same, T.cl_Search, T.n_Search__packed, by show 2 < 1000; decide, ?_⟩⟩
    rw [upd_upd] at n1 ⊢
    have np1 : p ≠ l1 := fun e => by rw [← e, upd_same] at n1; cases n1
    rw [upd_ne np1.symm] at n1
    refine ⟨Nat.zero_le _, fun l2 n2 => ⟨_, rfl, p, A.c_Search, dx, _, rfl, same_new n2 _ _ upd_same, T.cl_Search, T.n_Search_sketches, by show 3 < 1000; decide, ?_⟩⟩
    have np2 : p ≠ l2 := fun e => by rw [← e, upd_same] at n2; cases n2
    rw [upd_ne np2.symm] at n2
    have n12 : l1 ≠ l2 := fun e => by rw [← e, upd_same] at n2; cases n2
    rw [upd_ne n12.symm, upd_ne np2.symm] at n2
    refine ⟨Nat.zero_le _, fun l3 n3 => ⟨_, rfl, p, A.c_Search, dx, _, rfl, same_new n3 _ _ upd_same, T.cl_Search, T.n_Search_origins, by show 4 < 1000; decide, ?_⟩⟩
    have np3 : p ≠ l3 := fun e => by rw [← e, upd_same] at n3; cases n3
    rw [upd_ne np3.symm] at n3
    have n23 : l2 ≠ l3 := fun e => by rw [← e, upd_same] at n3; cases n3
    rw [upd_ne n23.symm, upd_ne np3.symm] at n3
    have n13 : l1 ≠ l3 := fun e => by rw [← e, upd_same] at n3; cases n3
    rw [upd_ne n13.symm, upd_ne np3.symm] at n3
    refine ⟨1, rfl, _, rfl, p, A.c_Search, dx, _, rfl, upd_same, T.cl_Search, T.n_Search_found, by show 5 < 1000; decide, ?_⟩
    have hH : ∀ b, b ≠ p → b ≠ l1 → b ≠ l2 → b ≠ l3 → ∀ o1 o2 o3 o4 o5 o6 o7 o8 : HO, upd (upd (upd (upd (upd (upd (upd (upd H p o1) l1 o2) p o3) l2 o4) p o5) l3 o6) p o7) p o8 b = H b := by
      intro b h0 h1 h2 h3 o1 o2 o3 o4 o5 o6 o7 o8
      rw [upd_ne h0, upd_ne h0, upd_ne h3, upd_ne h0, upd_ne h2, upd_ne h0, upd_ne h1, upd_ne h0]
    refine q l1 l2 l3 _ ⟨upd_same, ?_, ⟨[], ?_, All2.nil⟩, ⟨[], ?_, All2.nil⟩, n12, n13, n23⟩ n1 n2 n3 (fun b o e hb => ?_) fun b xs e => ?_
    · show upd _ p _ l1 = _
      rw [upd_ne np1.symm, upd_ne np1.symm, upd_ne n13, upd_ne np1.symm, upd_ne n12, upd_ne np1.symm, upd_same]; rfl
    · show upd _ p _ l2 = _
      rw [upd_ne np2.symm, upd_ne np2.symm, upd_ne n23, upd_ne np2.symm, upd_same]; rfl
    · show upd _ p _ l3 = _
      rw [upd_ne np3.symm, upd_ne np3.symm, upd_same]
    · rw [hH b (fun z => hb (by rw [z]; exact List.mem_singleton_self _)) (ne_of_none e n1) (ne_of_none e n2) (ne_of_none e n3)]; exact e
    · rw [hH b (tup_ne_ins e hp) (ne_of_none e n1) (ne_of_none e n2) (ne_of_none e n3)]; exact e
/-! ### place -/
def spPlace (A : Ad) : Sp := fun vs H Q _ => ∃ (a : SAd) (S : Srch) (cc dd ff b : Addr) (sizes : List Nat) (M : Mach) (s : Sk) (ov : V) (o : Option (Nat × Nat)), vs = [.ref a.p, .ref b, ov] ∧ SearchAt A.c_Search H a S ∧ MachAt A.c_Machine H a.m cc dd ff sizes M ∧ SkAt H b s ∧ OrgAt H ov o ∧
  s.length ≤ 4 ∧ Raised.small s ∧ s.length = M.first.length ∧ S.sk.length ≤ 5000 ∧ S.org.length = S.sk.length ∧ ∀ H', SearchAt A.c_Search H' a (place M.first S s o) → Kp a.own H H' → TK H H' → Q (vn (placeIx S s)) H'
theorem fI_lt (f : Option Nat) : decide (fI f < 0) = decide (f = none) := by
  cases f with
  | none => rfl
  | some k => show decide ((k : Int) < 0) = decide (some k = none); rw [decide_eq_false (by omega), decide_eq_false (by simp)]
theorem ok_place (T : Txt K mg A) : FnOk P w K mg base CX0 2 A.a_Search_place A.d_Search_place ["self", "sketch", "origin"] (spPlace A) := by
  have GP : FnOk P w K mg base CX0 1 _ _ _ _ := ok_packed T
  have GM : FnOk P w K mg base CX0 1 _ _ _ _ := ok_meet T
  refine T.F_Search_place.ok sc_Search_place (fun vs H Q E h => ?_) (fun cdv Ar outer s H vs Q E hr h => ?_)
  · obtain ⟨a, S, cc, dd, ff, b, sizes, M, sk, ov, o, rfl, _⟩ := h
    rfl
  · obtain ⟨a, S, cc, dd, ff, b, sizes, M, sk, ov, o, rfl, hS, hM, hb, hov, hl4, hsm, hlf, hbig, hlo, q⟩ := h
    obtain ⟨mdx, mob⟩ := hM.ob
    refine ⟨_, pss_cons (ps_set (i := 3) sc_Search_place.nd rfl (.inl rfl) (pe_call GP hr (by rfl) T.g_packed_sketch T.F_packed_sketch.kp T.b_packed_sketch .nil pass0 (pa_cons (pv 1) pa_nil)))
      (pss_cons (ps_for PassesOwn.never rfl (pi_ek true (by rfl) T.z_enumerate (pa_cons (pe_fld (pv 0) rfl) pa_nil)) (pg_tup rfl (pgs_cons (pg_name (i := 4) sc_Search_place.nd rfl (.inl rfl)) (pgs_cons (pg_name (i := 5) sc_Search_place.nd rfl (.inl rfl)) pgs_nil)))
        (pss_one (ps_if (pt_cmpR op_eq (pe_op op_andN (pv 3) (pv 5)) (pv 3) (nomark _)) (pss_one (ps_ret (pv 4))) pss_nil)))
      (pss_cons (ps_expr (pe_bm PySem.F.plainAttrs_list PySem.F.slot_list_append PySem.F.type_list_append mt_append (pe_fld (pv 0) rfl) (pa_cons (pv 3) pa_nil)))
      (pss_cons (ps_expr (pe_bm PySem.F.plainAttrs_list PySem.F.slot_list_append PySem.F.type_list_append mt_append (pe_fld (pv 0) rfl) (pa_cons (pv 1) pa_nil)))
      (pss_cons (ps_expr (pe_bm PySem.F.plainAttrs_list PySem.F.slot_list_append PySem.F.type_list_append mt_append (pe_fld (pv 0) rfl) (pa_cons (pv 2) pa_nil)))
      (pss_cons (ps_if (PW.pt (pw_and (pt_cmpR op_lt (pe_fld (pv 0) rfl) pe_int (nomark _)) (pw_and1 (pt_cmpR op_notN (pe_call GM hr (by rfl) T.g_meet T.F_meet.kp T.b_meet .nil pass0 (pa_cons (pv 1) (pa_cons (pe_fld (pe_fld (pv 0) rfl) rfl) pa_nil))) pe_non (nomark _)))))
          (pss_one (ps_fld (pv 0) (pe_op op_sub (pe_callB call_len_seq (by rfl) T.z_len PySem.boot_len (pa_cons (pe_fld (pv 0) rfl) pa_nil)) pe_int) rfl)) pss_nil)
      (pss_one (ps_ret (pe_op op_sub (pe_callB call_len_seq (by rfl) T.z_len PySem.boot_len (pa_cons (pe_fld (pv 0) rfl) pa_nil)) pe_int)))))))), ?_⟩
    -- packed
    refine ⟨_, rfl, b, sk, rfl, hb, hl4, hsm, ?_⟩
    -- the look
    refine ⟨_, rfl, a.p, A.c_Search, a.dx, _, _, rfl, hS.ob, T.cl_Search, T.n_Search__packed, rfl, a.l1, _, rfl, sqk_lst hS.pk, ?_⟩
    refine for_ek (fun i σ H2 => ∃ y4 y5, σ = [some (.ref a.p), some (.ref b), some ov, some (vn (pack sk)), y4, y5] ∧ Same H H2 ∧ ∀ (j : Nat) (t : Sk), j < i → S.sk[j]? = some t → ¬ pack sk &&& pack t = pack sk)
      ⟨none, none, rfl, Same.refl H, fun j t h => absurd h (Nat.not_lt_zero j)⟩ (fun i σ H2 ⟨_, _, _, sm, _⟩ => sqk_lst (sm _ _ hS.pk)) ?_ ?_
    · rintro i x T' σ H2 hx ⟨y4, y5, rfl, sm, hno⟩ nT
      obtain ⟨k, hk, rfl⟩ := vns_at hx
      rw [List.getElem?_map] at hk
      obtain ⟨t, ht, rfl⟩ : ∃ t, S.sk[i]? = some t ∧ k = pack t := by
        cases e : S.sk[i]? with
        | none => rw [e] at hk; cases hk
        | some t => rw [e] at hk; exact ⟨t, rfl, (Option.some.inj hk).symm⟩
      have hi : i < S.sk.length := (List.getElem?_eq_some_iff.mp ht).1
      have sT := same_new (o := .tup [vn i, vn (pack t)]) nT
      refine ⟨T', _, rfl, SqT.of upd_same, rfl, _, _, rfl, _, _, rfl, rfl, ?_⟩
      refine ⟨_, rfl, _, rfl, pack sk, pack t, rfl, rfl, _, rfl, rfl, _, rfl, ?_⟩
      rw [vn_eq]
      refine ite2 (fun e => ?_) (fun e => ?_)
      · have e := of_decide_eq_true e
        have hp : placeAt S sk = some i := by
          unfold placeAt
          rw [List.findIdx?_eq_some_iff_getElem]
          refine ⟨by rw [List.length_map]; exact hi, ?_, fun j hj => ?_⟩
          · rw [List.getElem_map, (List.getElem?_eq_some_iff.mp ht).2]; exact decide_eq_true e
          · rw [List.getElem_map]
            have := hno j S.sk[j] hj (List.getElem?_eq_getElem _)
            simpa using this
        refine ⟨_, rfl, ?_⟩
        have ei : placeIx S sk = i := by unfold placeIx; rw [hp]; rfl
        have es : place M.first S sk o = S := by unfold place; rw [hp]
        have := q _ (by rw [es]; exact hS.same (sm.trans sT)) (Kp.of (sm.trans sT)) (same_tk (sm.trans sT))
        rw [ei] at this
        exact this
      · refine ⟨_, _, rfl, sm.trans sT, fun j t' hj ht' => ?_⟩
        by_cases ej : j = i
        · subst ej
          rw [ht] at ht'
          cases ht'
          exact fun z => e (decide_eq_true z)
        · exact hno j t' (by omega) ht'
    · rintro σ H2 ⟨y4, y5, rfl, sm, hno⟩
      rw [vns_len, List.length_map] at hno
      have hp : placeAt S sk = none := by
        unfold placeAt
        rw [List.findIdx?_eq_none_iff]
        intro x hx
        obtain ⟨t, ht, rfl⟩ := List.mem_map.mp hx
        obtain ⟨j, hj, e⟩ := List.mem_iff_getElem.mp ht
        exact decide_eq_false (hno j t hj (by rw [List.getElem?_eq_getElem hj, e]))
      have ei : placeIx S sk = S.sk.length := by unfold placeIx; rw [hp]; rfl
      have es : place M.first S sk o = ⟨S.sk ++ [sk], S.org ++ [o], if S.found = none ∧ meetO sk M.first ≠ none then some S.sk.length else S.found⟩ := by unfold place; rw [hp]
      have h2 := hS.same sm
      obtain ⟨as, e2, eas⟩ := h2.sk
      obtain ⟨vs, e3, evs⟩ := h2.og
      have hb2 : SkAt H2 b sk := sm _ _ hb
      have q12 : a.p ≠ a.l1 := (lst_ne_ins h2.pk h2.ob).symm
      have q22 : a.p ≠ a.l2 := (lst_ne_ins e2 h2.ob).symm
      have q32 : a.p ≠ a.l3 := (lst_ne_ins e3 h2.ob).symm
      -- the three appends
      refine ⟨_, rfl, a.p, A.c_Search, a.dx, _, _, rfl, h2.ob, T.cl_Search, T.n_Search__packed, rfl, .inl ⟨rfl, _, SqL.of h2.pk⟩, _, rfl, a.l1, _, _, rfl, rfl, h2.pk, small_line (by rw [vns_len, List.length_map]; omega), ?_⟩
      have t1 := tk_lst (o := .lst (vns (S.sk.map pack) ++ [vn (pack sk)])) h2.pk
      have ob1 : upd H2 a.l1 (.lst (vns (S.sk.map pack) ++ [vn (pack sk)])) a.p = _ := (upd_ne q12).trans h2.ob
      have e21 : upd H2 a.l1 (.lst (vns (S.sk.map pack) ++ [vn (pack sk)])) a.l2 = _ := (upd_ne h2.n12.symm).trans e2
      refine ⟨_, rfl, a.p, A.c_Search, a.dx, _, _, rfl, ob1, T.cl_Search, T.n_Search_sketches, rfl, .inl ⟨rfl, _, SqL.of e21⟩, _, rfl, a.l2, _, _, rfl, rfl, e21, small_line (by rw [List.length_map, eas.1]; omega), ?_⟩
      have t2 := t1.trans (tk_lst (o := .lst (as.map V.ref ++ [.ref b])) e21)
      have ob2 : upd (upd H2 a.l1 (.lst (vns (S.sk.map pack) ++ [vn (pack sk)]))) a.l2 (.lst (as.map V.ref ++ [.ref b])) a.p = _ := (upd_ne q22).trans ob1
      have e32 : upd (upd H2 a.l1 (.lst (vns (S.sk.map pack) ++ [vn (pack sk)]))) a.l2 (.lst (as.map V.ref ++ [.ref b])) a.l3 = _ := (upd_ne h2.n23.symm).trans ((upd_ne h2.n13.symm).trans e3)
      refine ⟨_, rfl, a.p, A.c_Search, a.dx, _, _, rfl, ob2, T.cl_Search, T.n_Search_origins, rfl, .inl ⟨rfl, _, SqL.of e32⟩, _, rfl, a.l3, _, _, rfl, rfl, e32, small_line (by rw [evs.1]; omega), ?_⟩
      have t3 := t2.trans (tk_lst (o := .lst (vs ++ [ov])) e32)
      generalize hH3 : upd (upd (upd H2 a.l1 (.lst (vns (S.sk.map pack) ++ [vn (pack sk)]))) a.l2 (.lst (as.map V.ref ++ [.ref b]))) a.l3 (.lst (vs ++ [ov])) = H3 at t3
      have ob3 : H3 a.p = some (.ins A.c_Search a.dx (sfs a.m a.pc a.l1 a.l2 a.l3 (fI S.found))) := by rw [← hH3]; exact (upd_ne q32).trans ob2
      have e13 : H3 a.l1 = some (.lst (vns (S.sk.map pack) ++ [vn (pack sk)])) := by rw [← hH3, upd_ne h2.n13, upd_ne h2.n12, upd_same]
      have e23 : H3 a.l2 = some (.lst (as.map V.ref ++ [.ref b])) := by rw [← hH3, upd_ne h2.n23, upd_same]
      have e33 : H3 a.l3 = some (.lst (vs ++ [ov])) := by rw [← hH3, upd_same]
      have k3 : Kp a.own H2 H3 := by
        rw [← hH3]
        exact (((Kp.refl a.own H2).set (by simp)).set (by simp)).set (by simp)
      have hM3 : MachAt A.c_Machine H3 a.m cc dd ff sizes M := (hM.same sm).kp t3 k3 (h2.mach_off (hM.same sm))
      obtain ⟨mdx3, mob3⟩ := hM3.ob
      have hb3 : SkAt H3 b sk := t3 _ _ hb2
      have eSk3 : SkL H3 a.l2 (S.sk ++ [sk]) := SkL.snoc (H := H2) eas t3 e23 hb3
      have eOg3 : ∃ ws : List V, H3 a.l3 = some (.lst ws) ∧ All2 (OrgAt H3) ws (S.org ++ [o]) := ⟨_, e33, (evs.mono fun x o z => z.tk t3).snoc ((hov.tk (same_tk sm)).tk t3)⟩
      have ePk3 : H3 a.l1 = some (.lst (vns ((S.sk ++ [sk]).map pack))) := by rw [e13, List.map_append, vns_app]; rfl
      have fin : ∀ H4 (f : Option Nat), Same H3 H4 → H4 a.p = some (.ins A.c_Search a.dx (sfs a.m a.pc a.l1 a.l2 a.l3 (fI f))) → SearchAt A.c_Search H4 a ⟨S.sk ++ [sk], S.org ++ [o], f⟩ := fun H4 f s4 e4 => by
        obtain ⟨ws, w1, w2⟩ := eOg3
        exact ⟨e4, s4 _ _ ePk3, eSk3.same s4, ⟨ws, s4 _ _ w1, w2.mono fun x o z => z.tk (same_tk s4)⟩, h2.n12, h2.n13, h2.n23⟩
      have hlen3 : ((as.map V.ref ++ [V.ref b]).length : Int) - 1 = (S.sk.length : Int) := by
        rw [List.length_append, List.length_map, eas.1]; simp
      -- the test
      refine ⟨_, rfl, a.p, A.c_Search, a.dx, _, _, rfl, ob3, T.cl_Search, T.n_Search_found, rfl, _, _, rfl, rfl, _, rfl, ?_⟩
      rw [fI_lt]
      by_cases hf : S.found = none
      · refine ifT (decide_eq_true hf) ?_
        refine ⟨_, rfl, _, rfl, a.p, A.c_Search, a.dx, _, _, rfl, ob3, T.cl_Search, T.n_Search__machine, rfl, a.m, A.c_Machine, mdx3, _, _, rfl, mob3, T.cl_Machine, T.n_Machine_first, rfl, b, ff, sk, M.first, rfl, hb3, hM3.first, hlf, by omega, fun H4 v s4 ov4 => ⟨rfl, _, rfl, ?_⟩⟩
        cases hm : meetO sk M.first with
        | none =>
          rw [hm] at ov4
          cases ov4
          refine ifF rfl ?_
          refine ⟨_, rfl, a.p, A.c_Search, a.dx, _, _, rfl, s4 _ _ ob3, T.cl_Search, T.n_Search_sketches, rfl, a.l2, _, rfl, .inl (SqL.of (s4 _ _ e23)), _, _, rfl, rfl, ?_⟩
          have := q H4 (by rw [es, if_neg (by rw [hm]; simp)]; exact fin H4 S.found s4 (s4 _ _ ob3)) ((Kp.of sm).trans (k3.trans (Kp.of s4))) ((same_tk sm).trans (t3.trans (same_tk s4)))
          rw [ei] at this
          show Q (V.int (((as.map V.ref ++ [V.ref b]).length : Int) - 1)) _
          rw [hlen3]
          exact this
        | some r =>
          rw [hm] at ov4
          obtain ⟨p4, rfl, _⟩ := ov4
          refine ifT rfl ?_
          refine ⟨_, rfl, a.p, A.c_Search, a.dx, _, _, rfl, s4 _ _ ob3, T.cl_Search, T.n_Search_sketches, rfl, a.l2, _, rfl, .inl (SqL.of (s4 _ _ e23)), _, _, rfl, rfl, ?_⟩
          refine ⟨_, rfl, a.p, A.c_Search, a.dx, _, rfl, s4 _ _ ob3, T.cl_Search, T.n_Search_found, by show 6 < 1000; decide, ?_⟩
          have t5 := tk_ins (o := .ins A.c_Search a.dx (putF (Str.ofString "found") (V.int (((as.map V.ref ++ [V.ref b]).length : Int) - 1)) (sfs a.m a.pc a.l1 a.l2 a.l3 (fI S.found)))) (s4 _ _ ob3)
          have eo : putF (Str.ofString "found") (V.int (((as.map V.ref ++ [V.ref b]).length : Int) - 1)) (sfs a.m a.pc a.l1 a.l2 a.l3 (fI S.found)) = sfs a.m a.pc a.l1 a.l2 a.l3 (fI (some S.sk.length)) := by
            rw [hlen3]; rfl
          refine ⟨_, rfl, a.p, A.c_Search, a.dx, _, _, rfl, upd_same, T.cl_Search, T.n_Search_sketches, rfl, a.l2, _, rfl, .inl (SqL.of ((upd_ne q22.symm).trans (s4 _ _ e23))), _, _, rfl, rfl, ?_⟩
          have f4 := fin H4 S.found s4 (s4 _ _ ob3)
          obtain ⟨ws, w1, w2⟩ := f4.og
          have := q (upd H4 a.p (.ins A.c_Search a.dx (putF (Str.ofString "found") (V.int (((as.map V.ref ++ [V.ref b]).length : Int) - 1)) (sfs a.m a.pc a.l1 a.l2 a.l3 (fI S.found))))) (by
            rw [es, if_pos ⟨hf, by rw [hm]; simp⟩]
            exact ⟨by rw [upd_same, eo], (upd_ne q12.symm).trans f4.pk, f4.sk.keep t5 (upd_ne q22.symm), ⟨ws, (upd_ne q32.symm).trans w1, w2.mono fun x o z => z.tk t5⟩, h2.n12, h2.n13, h2.n23⟩)
            (((Kp.of sm).trans (k3.trans (Kp.of s4))).set (by simp)) ((same_tk sm).trans (t3.trans ((same_tk s4).trans t5)))
          rw [ei] at this
          exact Eq.mpr (congrArg (fun v => Q v _) (congrArg V.int hlen3)) this
      · refine ifF (decide_eq_false hf) ?_
        refine iteF ?_
        refine ⟨_, rfl, a.p, A.c_Search, a.dx, _, _, rfl, ob3, T.cl_Search, T.n_Search_sketches, rfl, a.l2, _, rfl, .inl (SqL.of e23), _, _, rfl, rfl, ?_⟩
        have := q H3 (by rw [es, if_neg (by simp [hf])]; exact fin H3 S.found (Same.refl H3) ob3) ((Kp.of sm).trans k3) ((same_tk sm).trans t3)
        rw [ei] at this
        show Q (V.int (((as.map V.ref ++ [V.ref b]).length : Int) - 1)) _
        rw [hlen3]
        exact this
end
end Rw
set_option Elab.async false
set_option linter.all false
set_option maxRecDepth 100000
set_option maxHeartbeats 4000000
/-! places, row, history -/
namespace Rw
open PySem PySem.Spec PyProof.Rows L2
open Raised (Sk at0 meetL meetO splitB splitS withoutS Deed setAll fullAll andAll beforeS pack packF DeedOk Srch Mach place placeAt placeIx SInv MachOk Good stepTo rowTo)
section
variable {P : Program} {w : World} {K : PySem.W.Frag} {mg : Str → Option Value} {base : Heap} {A : Ad}
/-! ### places, where the piece is empty -/
def spPlaces (A : Ad) : Sp := fun vs H Q _ => ∃ (a : SAd) (S : Srch) (cc dd ff b : Addr) (sizes : List Nat) (M : Mach) (s : Sk) (ov : V) (o : Option (Nat × Nat)), vs = [.ref a.p, .ref b, ov] ∧ SearchAt A.c_Search H a S ∧ MachAt A.c_Machine H a.m cc dd ff sizes M ∧ SkAt H b s ∧ OrgAt H ov o ∧ H a.pc = some (.lst []) ∧
  s.length ≤ 4 ∧ Raised.small s ∧ s.length = M.first.length ∧ S.sk.length ≤ 5000 ∧ S.org.length = S.sk.length ∧ ∀ H' r, SearchAt A.c_Search H' a (place M.first S s o) → H r = none → H' r = some (.lst [vn (placeIx S s)]) → Kp a.own H H' → TK H H' → Q (.ref r) H'
theorem ok_places (T : Txt K mg A) : FnOk P w K mg base CX0 4 A.a_Search_places A.d_Search_places ["self", "sketch", "origin"] (spPlaces A) := by
  have GP : FnOk P w K mg base CX0 2 _ _ _ _ := ok_place T
  have GW : FnOk P w K mg base CX0 3 _ _ _ _ := ok_without T
  refine T.F_Search_places.ok sc_Search_places (fun vs H Q E h => ?_) (fun cdv Ar outer s H vs Q E hr h => ?_)
  · obtain ⟨a, S, cc, dd, ff, b, sizes, M, sk, ov, o, rfl, _⟩ := h
    rfl
  · obtain ⟨a, S, cc, dd, ff, b, sizes, M, sk, ov, o, rfl, hS, hM, hb, hov, hpc, hl4, hsm, hlf, hbig, hlo, q⟩ := h
    refine ⟨_, pss_one (ps_ret (pe_lc (own := [("part", 3)]) (g := gName 3) (tt := tYes) (te := tMeth A.c_Search "place" (spPlace A) [] E0 (tVar 0) (tCons (tVar 3) (tCons (tVar 2) tNil))) rfl sc_Search_places.nd
      (pi_list (pe_call GW hr (by rfl) T.g_without T.F_without.kp T.b_without .nil pass0 (pa_cons (pv 1) (pa_cons (pe_fld (pv 0) rfl) pa_nil))))
      (blkOk_by (N := ["self", "sketch", "origin", "part"]) (sc := defScope s_Search_places) (by decide +kernel)) (fun _ _ _ _ _ => pg_name (i := 3) sc_Search_places.nd rfl (Or.inl rfl)) (fun _ _ _ _ _ => pts_nil)
      (fun _ _ _ _ _ => pe_meth (pv 0) T.cl_Search T.m_Search_place GP (hr.mono (by decide)) T.b_Search_place .nil pass0 (pa_cons (pv 3) (pa_cons (pv 2) pa_nil))))), ?_⟩
    refine ⟨_, rfl, _, rfl, a.p, A.c_Search, a.dx, _, _, rfl, hS.ob, T.cl_Search, T.n_Search__piece, rfl, b, a.pc, sk, [], rfl, hb, ⟨[], hpc, All2.nil⟩, fun t ht => (nomatch ht), by omega, ?_, fun H1 r0 s1 n0 ⟨ras, er, eras⟩ => ?_⟩
    · intro i _
      rw [List.take_nil]
      show 1 ≤ 10000
      decide
    obtain ⟨ra, rfl, era⟩ : ∃ ra, ras = [ra] ∧ SkAt H1 ra sk := by
      have e1 : ras.length = 1 := eras.1
      match ras, e1, eras with
      | [ra], _, eras => exact ⟨ra, rfl, eras.2 0 ra sk rfl rfl⟩
    have hS1 := hS.same s1
    have ro := hS.new_off n0
    refine ⟨r0, rfl, ⟨_, SqL.of er⟩, fun D nD => ?_⟩
    have nD' : H D = none := s1.free nD
    have Do := hS.new_off nD'
    refine lc_list (K := K) (a := r0) (xs := [.ref ra]) (fun i H2 => Kp a.own H H2 ∧ TK H1 H2 ∧ H2 r0 = some (.lst [.ref ra]) ∧ (i = 0 → SearchAt A.c_Search H2 a S ∧ MachAt A.c_Machine H2 a.m cc dd ff sizes M ∧ H2 D = some (.lst [])) ∧ (i = 1 → SearchAt A.c_Search H2 a (place M.first S sk o) ∧ H2 D = some (.lst [vn (placeIx S sk)])))
      ⟨Kp.of (s1.trans (same_new nD)), tk_new nD, same_new nD _ _ er, fun _ => ⟨hS1.same (same_new nD), (hM.same s1).same (same_new nD), upd_same⟩, fun z => by cases z⟩ (fun i H2 _ ⟨_, _, e, _⟩ => SqL.of e) ?_ ?_
    · rintro i x H2 hx ⟨k2, t2, e2, h0, _⟩
      obtain rfl : i = 0 := by
        have := (List.getElem?_eq_some_iff.mp hx).1
        simp at this
        exact this
      obtain rfl : V.ref ra = x := Option.some.inj hx
      obtain ⟨hS2, hM2, eD2⟩ := h0 rfl
      refine ⟨rfl, yes_of (iteT ?_)⟩
      refine ⟨_, rfl, a.p, a.dx, _, rfl, hS2.ob, rfl, _, rfl, _, rfl, a, S, cc, dd, ff, ra, sizes, M, sk, ov, o, rfl, hS2, hM2, t2 _ _ era, (hov.tk (same_tk s1)).tk t2, hl4, hsm, hlf, hbig, hlo, fun H3 hS3 k3 t3 => ?_⟩
      have eD3 := k3 _ _ eD2 Do
      have off : ∀ x ∈ a.own, x ≠ D := fun x hx e => Do (e ▸ hx)
      have nr0D : r0 ≠ D := ne_of_none er nD
      refine ⟨[], eD3, Nat.lt_of_lt_of_le (by decide) (Nat.le_of_lt (small_line (Nat.le_refl _))), ?_, (t2.trans t3).trans (tk_lst eD3), ?_, fun z => absurd z (Nat.succ_ne_zero 0), fun _ => ⟨?_, ?_⟩⟩
      · exact fun c u e hc => by
          have : c ≠ D := ne_of_none e nD'
          rw [upd_ne this]
          exact k3 _ _ (k2 _ _ e hc) hc
      · rw [upd_ne nr0D]; exact k3 _ _ e2 ro
      · have t4 := tk_lst (o := .lst ([] ++ [vn (placeIx S sk)])) eD3
        obtain ⟨ws, w1, w2⟩ := hS3.og
        exact ⟨(upd_ne (off _ (by simp))).trans hS3.ob, (upd_ne (off _ (by simp))).trans hS3.pk, hS3.sk.keep t4 (upd_ne (off _ (by simp))), ⟨ws, (upd_ne (off _ (by simp))).trans w1, w2.mono fun x o z => z.tk t4⟩, hS3.n12, hS3.n13, hS3.n23⟩
      · exact upd_same
    · rintro H2 ⟨k2, t2, e2, _, h1⟩
      obtain ⟨hS2, eD2⟩ := h1 rfl
      exact q H2 D hS2 nD' eD2 k2 ((same_tk s1).trans t2)
/-! ### row -/
/-- a row of the table: a list of lists, all off ps -/
def RowL (ps : List Addr) (H : Hp) (e : Addr) : Prop := e ∉ ps ∧ ∃ es : List Addr, H e = some (.lst (es.map V.ref)) ∧ es.length ≤ 5000 ∧ ∀ x ∈ es, x ∉ ps ∧ ∃ vs, H x = some (.lst vs)
theorem RowL.kp {ps : List Addr} {H H' : Hp} {e : Addr} (h : RowL ps H e) (k : Kp ps H H') : RowL ps H' e := by
  obtain ⟨n, es, e1, hl, e2⟩ := h
  exact ⟨n, es, k _ _ e1 n, hl, fun x hx => let ⟨nx, vs, ev⟩ := e2 x hx; ⟨nx, vs, k _ _ ev nx⟩⟩
/-- .. just made -/
def RowN (H H' : Hp) (e : Addr) : Prop := H e = none ∧ ∃ es : List Addr, H' e = some (.lst (es.map V.ref)) ∧ es.length ≤ 5000 ∧ ∀ x ∈ es, H x = none ∧ ∃ vs, H' x = some (.lst vs)
theorem Kp.back {ps : List Addr} {H H' : Hp} (k : Kp ps H H') {c : Addr} (h : H' c = none) (n : c ∉ ps) : H c = none := by
  cases e : H c with
  | none => rfl
  | some o => rw [k _ _ e n] at h; cases h
def spRow (A : Ad) : Sp := fun vs H Q _ => ∃ (a : SAd) (S : Srch) (cc dd ff : Addr) (sizes : List Nat) (M : Mach) (part : Sk) (n : Nat), vs = [.ref a.p, vn n] ∧ SearchAt A.c_Search H a S ∧ MachAt A.c_Machine H a.m cc dd ff sizes M ∧ H a.pc = some (.lst []) ∧ a.pc ∉ a.own ∧
  MachOk M ∧ SInv M part S ∧ n < S.sk.length ∧ M.full.length = 4 ∧ M.deeds.length ≤ 400 ∧ (Raised.allSk M.full).length ≤ 4096 ∧
  ∀ H' e, SearchAt A.c_Search H' a (rowTo M S n M.deeds.length) → RowN H H' e → Kp a.own H H' → TK H H' → Q (.ref e) H'
theorem ok_row (T : Txt K mg A) : FnOk P w K mg base CX0 5 A.a_Search_row A.d_Search_row ["self", "number"] (spRow A) := by
  have GP : FnOk P w K mg base CX0 4 _ _ _ _ := ok_places T
  have GB : FnOk P w K mg base CX0 3 _ _ _ _ := ok_before T
  refine T.F_Search_row.ok sc_Search_row (fun vs H Q E h => ?_) (fun cdv Ar outer s H vs Q E hr h => ?_)
  · obtain ⟨a, S, cc, dd, ff, sizes, M, part, n, rfl, _⟩ := h
    rfl
  · obtain ⟨a, S, cc, dd, ff, sizes, M, part, n, rfl, hS, hM, hpc, pco, mok, I, hn, hf4, hd400, hall, q⟩ := h
    have mo := hS.mach_off hM
    obtain ⟨mdx, mob⟩ := hM.ob
    obtain ⟨das, edd, edas⟩ := hM.deeds
    have hz : sizes.length = 4 := by rw [← hf4, hM.full, List.length_map]
    refine ⟨_, pss_cons (ps_set (i := 2) sc_Search_row.nd rfl (.inl rfl) (pe_lst pa_nil))
      (pss_cons (ps_for PassesOwn.never rfl (pi_range1 rfl T.z_range (pa_cons (pe_callB call_len_seq (by rfl) T.z_len PySem.boot_len (pa_cons (pe_fld (pe_fld (pv 0) rfl) rfl) pa_nil)) pa_nil)) (pg_name (i := 3) sc_Search_row.nd rfl (.inl rfl))
        (pss_cons (ps_set (i := 4) sc_Search_row.nd rfl (.inl rfl) (pe_call GB (hr.mono (by decide)) (by rfl) T.g_sketch_before T.F_sketch_before.kp T.b_sketch_before .nil pass0 (pa_cons (pe_fld (pv 0) rfl) (pa_cons (pe_ix ix_list (pe_fld (pv 0) rfl) (pv 1) (fun _ _ => rfl)) (pa_cons (pv 3) pa_nil)))))
        (pss_one (ps_expr (pe_bm PySem.F.plainAttrs_list PySem.F.slot_list_append PySem.F.type_list_append mt_append (pv 2) (pa_cons
          (pe_ifExp (pt_cmpR op_isN (pv 4) pe_non (nomark _)) (pe_lst pa_nil)
            (pe_meth (pv 0) T.cl_Search T.m_Search_places GP hr T.b_Search_places .nil pass0 (pa_cons (pv 4) (pa_cons (pe_tup (pa_cons (pv 3) (pa_cons (pv 1) pa_nil))) pa_nil)))) pa_nil))))))
      (pss_one (ps_ret (pv 2)))), ?_⟩
    -- entries = []
    refine ⟨Nat.zero_le _, fun D nD => ?_⟩
    have Do := hS.new_off nD
    have s0 := same_new (o := .lst []) nD
    refine ⟨_, rfl, a.p, A.c_Search, a.dx, _, _, rfl, s0 _ _ hS.ob, T.cl_Search, T.n_Search__machine, rfl, a.m, A.c_Machine, mdx, _, _, rfl, s0 _ _ mob, T.cl_Machine, T.n_Machine_deeds, rfl, dd, _, rfl, .inr (SqT.of (s0 _ _ edd)), _, rfl, by omega, ?_, ?_⟩
    · rw [List.length_map, edas.1]; omega
    rw [Int.toNat_natCast, List.length_map, edas.1]
    refine for_range (lo := 0) (n := M.deeds.length) (fun k σ H2 => ∃ y3 y4, σ = [some (.ref a.p), some (vn n), some (.ref D), y3, y4] ∧ SearchAt A.c_Search H2 a (rowTo M S n k) ∧ Kp a.own H H2 ∧ TK H H2 ∧
        ∃ es : List Addr, H2 D = some (.lst (es.map V.ref)) ∧ es.length = k ∧ ∀ x ∈ es, H x = none ∧ x ≠ D ∧ ∃ vs, H2 x = some (.lst vs))
      ⟨none, none, rfl, hS.same s0, Kp.of s0, same_tk s0, [], upd_same, rfl, fun x hx => (nomatch hx)⟩ ?_ ?_
    · rintro k σ H2 hk ⟨y3, y4, rfl, hS2, k2, t2, es, eD, hes, hel⟩
      obtain ⟨I2, x2⟩ := Raised.row_inv mok I hn k (Nat.le_of_lt hk)
      have hM2 := hM.kp t2 k2 mo
      obtain ⟨mdx2, mob2⟩ := hM2.ob
      have hn2 : n < (rowTo M S n k).sk.length := Nat.lt_of_lt_of_le hn x2.len
      obtain ⟨as, e2, eas⟩ := hS2.sk
      have hsk : (rowTo M S n k).sk[n]? = some ((rowTo M S n k).sk.getD n []) := by rw [Raised.getD_at hn2, List.getElem?_eq_getElem hn2]
      obtain ⟨b, hb, eb⟩ := eas.at_ hsk
      have hD : M.deeds[k]? = some (M.deeds.getD k ⟨[], []⟩) := by rw [Raised.getD_at hk, List.getElem?_eq_getElem hk]
      have g := I2.ok _ (Raised.getD_mem (x := []) hn2)
      have dk : DeedOk ((rowTo M S n k).sk.getD n []).length (M.deeds.getD k ⟨[], []⟩) := by rw [g.len]; exact mok.deeds _ (Raised.deed_mem hk)
      rw [Int.zero_add]
      refine ⟨_, rfl, a.p, A.c_Search, a.dx, _, _, rfl, hS2.ob, T.cl_Search, T.n_Search__machine, rfl, _, rfl, a.p, A.c_Search, a.dx, _, _, rfl, hS2.ob, T.cl_Search, T.n_Search_sketches, rfl, _, rfl, a.l2, _, (n : Int), .ref b, rfl, rfl, SqL.of e2, atI_nat (get_map hb), _, rfl,
        a.m, cc, dd, ff, b, sizes, M, _, k, _, rfl, hM2, by omega, eb, hD, dk, g.len, fun H3 v s3 ov3 => ?_⟩
      have eD3 := s3 _ _ eD
      have hS3 := hS2.same s3
      have estep : rowTo M S n (k + 1) = stepTo M (rowTo M S n k) n k := rfl
      refine ⟨_, rfl, .inl ⟨rfl, _, SqL.of eD3⟩, _, rfl, rfl, _, rfl, ?_⟩
      have hDk : (es.map V.ref).length < sizeLine := small_line (by rw [List.length_map]; omega)
      have elD : ∀ x ∈ es, x ≠ D := fun x hx => (hel x hx).2.1
      cases hbf : beforeS M.full ((rowTo M S n k).sk.getD n []) (M.deeds.getD k ⟨[], []⟩) with
      | none =>
        rw [hbf] at ov3
        cases ov3
        refine ifT rfl ⟨Nat.zero_le _, fun c nc => ?_⟩
        have s4 := same_new (o := .lst []) nc
        have eD4 := s4 _ _ eD3
        have cD : c ≠ D := (ne_of_none eD3 nc).symm
        have est : rowTo M S n (k + 1) = rowTo M S n k := by rw [estep]; unfold stepTo; rw [hbf]
        refine ⟨D, _, _, rfl, rfl, eD4, hDk, _, _, rfl, ?_, ?_, ?_, es ++ [c], ?_, by simp [hes], ?_⟩
        · rw [est]
          have t5 := tk_lst (o := .lst (es.map V.ref ++ [.ref c])) eD4
          have hS4 := hS3.same s4
          obtain ⟨ws, w1, w2⟩ := hS4.og
          have off : ∀ x ∈ a.own, x ≠ D := fun x hx e => Do (e ▸ hx)
          exact ⟨(upd_ne (off _ (by simp))).trans hS4.ob, (upd_ne (off _ (by simp))).trans hS4.pk, hS4.sk.keep t5 (upd_ne (off _ (by simp))), ⟨ws, (upd_ne (off _ (by simp))).trans w1, w2.mono fun x o z => z.tk t5⟩, hS4.n12, hS4.n13, hS4.n23⟩
        · exact fun u o e hu => by rw [upd_ne (ne_of_none e nD)]; exact s4 _ _ (s3 _ _ (k2 _ _ e hu))
        · exact ((t2.trans (same_tk s3)).trans (same_tk s4)).trans (tk_lst eD4)
        · rw [upd_same, List.map_append]; rfl
        · intro x hx
          rcases List.mem_append.mp hx with hx | hx
          · obtain ⟨h1, h2, vs, h3⟩ := hel x hx
            exact ⟨h1, h2, vs, by rw [upd_ne h2]; exact s4 _ _ (s3 _ _ h3)⟩
          · rw [List.mem_singleton] at hx
            subst hx
            exact ⟨k2.back (s3.free nc) (hS3.new_off nc), cD, [], by rw [upd_ne cD, upd_same]⟩
      | some e =>
        rw [hbf] at ov3
        obtain ⟨pe, rfl, epe⟩ := ov3
        have ge : Good M e := Raised.before_good mok g (Raised.deed_mem hk) hbf
        refine ifF rfl ⟨_, rfl, a.p, a.dx, _, rfl, hS3.ob, rfl, _, rfl, _, rfl, _, rfl, by show 2 ≤ sizeLine; rw [sizeLine_eq]; decide, fun c nc => ?_⟩
        have s4 := same_new (o := .tup [vn k, vn n]) nc
        have hS4 := hS3.same s4
        have hM4 := (hM2.same s3).same s4
        have hpc4 := s4 _ _ (s3 _ _ (k2 _ _ hpc pco))
        refine ⟨a, rowTo M S n k, cc, dd, ff, pe, sizes, M, e, .ref c, some (k, n), rfl, hS4, hM4, s4 _ _ epe, ⟨c, rfl, upd_same⟩, hpc4, by rw [ge.len]; omega, ge.small mok, by rw [ge.len, mok.first.len], Nat.le_trans I2.bound (by omega), I2.lo, fun H5 r hS5 nr er k5 t5 => ?_⟩
        have est : rowTo M S n (k + 1) = place M.first (rowTo M S n k) e (some (k, n)) := by rw [estep]; unfold stepTo; rw [hbf]
        have eD4 := s4 _ _ eD3
        have eD5 := k5 _ _ eD4 Do
        have rD : r ≠ D := (ne_of_none eD4 nr).symm
        refine ⟨D, _, _, rfl, rfl, eD5, hDk, _, _, rfl, ?_, ?_, ?_, es ++ [r], ?_, by simp [hes], ?_⟩
        · rw [est]
          have t6 := tk_lst (o := .lst (es.map V.ref ++ [.ref r])) eD5
          obtain ⟨ws, w1, w2⟩ := hS5.og
          have off : ∀ x ∈ a.own, x ≠ D := fun x hx e => Do (e ▸ hx)
          exact ⟨(upd_ne (off _ (by simp))).trans hS5.ob, (upd_ne (off _ (by simp))).trans hS5.pk, hS5.sk.keep t6 (upd_ne (off _ (by simp))), ⟨ws, (upd_ne (off _ (by simp))).trans w1, w2.mono fun x o z => z.tk t6⟩, hS5.n12, hS5.n13, hS5.n23⟩
        · exact fun u o e hu => by rw [upd_ne (ne_of_none e nD)]; exact k5 _ _ (s4 _ _ (s3 _ _ (k2 _ _ e hu))) hu
        · exact (((t2.trans (same_tk s3)).trans (same_tk s4)).trans t5).trans (tk_lst eD5)
        · rw [upd_same, List.map_append]; rfl
        · intro x hx
          rcases List.mem_append.mp hx with hx | hx
          · obtain ⟨h1, h2, vs, h3⟩ := hel x hx
            exact ⟨h1, h2, vs, by rw [upd_ne h2]; exact k5 _ _ (s4 _ _ (s3 _ _ h3)) (hS.new_off h1)⟩
          · rw [List.mem_singleton] at hx
            subst hx
            exact ⟨k2.back (s3.free (s4.free nr)) (hS4.new_off nr), rD, _, by rw [upd_ne rD]; exact er⟩
    · rintro σ H2 ⟨y3, y4, rfl, hS2, k2, t2, es, eD, hes, hel⟩
      exact ⟨_, rfl, q H2 D hS2 ⟨nD, es, eD, by omega, fun x hx => ⟨(hel x hx).1, (hel x hx).2.2⟩⟩ k2 t2⟩
end
end Rw
set_option Elab.async false
set_option linter.all false
set_option maxRecDepth 100000
set_option maxHeartbeats 4000000
/-! history, Paper, Answer, tell, told_at_end -/
namespace Rw
open PySem PySem.Spec PyProof.Rows L2
open Raised (Sk at0 meetL meetO splitB splitS withoutS Deed setAll fullAll andAll beforeS pack packF DeedOk Srch Mach place placeAt placeIx SInv MachOk Good stepTo rowTo runTo RInv has Reach)
section
variable {P : Program} {w : World} {K : PySem.W.Frag} {mg : Str → Option Value} {base : Heap} {A : Ad}
/-! ### history -/
def spHist (A : Ad) : Sp := fun vs H Q _ => ∃ (a : SAd) (S : Srch) (cc dd ff : Addr) (sizes : List Nat) (M : Mach) (part : Sk) (k : Nat), vs = [.ref a.p] ∧ SearchAt A.c_Search H a S ∧ MachAt A.c_Machine H a.m cc dd ff sizes M ∧ MachOk M ∧ SInv M part S ∧ S.found = some k ∧ M.full.length = 4 ∧ S.sk.length ≤ 5000 ∧
  ∀ H' t (v : V) l ds, Same H H' → H' t = some (.tup [v, .ref l]) → H' l = some (.lst ds) → Q (.ref t) H'
theorem good_len4 {M : Mach} {s : Sk} (g : Good M s) (h : M.full.length = 4) : s.length = 4 := g.len.trans h
theorem ok_history (T : Txt K mg A) : FnOk P w K mg base CX0 3 A.a_Search_history A.d_Search_history ["self"] (spHist A) := by
  have GL : FnOk P w K mg base CX0 2 _ _ _ _ := ok_least T
  have GM : FnOk P w K mg base CX0 1 _ _ _ _ := ok_meet T
  refine T.F_Search_history.ok sc_Search_history (fun vs H Q E h => ?_) (fun cdv Ar outer s H vs Q E hr h => ?_)
  · obtain ⟨a, S, cc, dd, ff, sizes, M, part, k, rfl, _⟩ := h
    rfl
  · obtain ⟨a, S, cc, dd, ff, sizes, M, part, k, rfl, hS, hM, mok, I, hf, h4, hbig, q⟩ := h
    obtain ⟨mdx, mob⟩ := hM.ob
    obtain ⟨as, e2, eas⟩ := hS.sk
    obtain ⟨ws, e3, ews⟩ := hS.og
    obtain ⟨hk, hmk⟩ := I.fndS k hf
    have hsk : S.sk[k]? = some (S.sk.getD k []) := by rw [Raised.getD_at hk, List.getElem?_eq_getElem hk]
    obtain ⟨b, hb, eb⟩ := eas.at_ hsk
    have g := I.ok _ (Raised.getD_mem (x := []) hk)
    have hlf : (S.sk.getD k []).length = M.first.length := by rw [g.len, mok.first.len]
    refine ⟨_, pss_cons (ps_set (i := 1) sc_Search_history.nd rfl (.inl rfl) (pe_fld (pv 0) rfl))
      (pss_cons (ps_set (i := 2) sc_Search_history.nd rfl (.inl rfl) (pe_call GL hr (by rfl) T.g_least_disk T.F_least_disk.kp T.b_least_disk .nil pass0 (pa_cons
        (pe_call GM (hr.mono (by decide)) (by rfl) T.g_meet T.F_meet.kp T.b_meet .nil pass0 (pa_cons (pe_ix ix_list (pe_fld (pv 0) rfl) (pv 1) (fun _ _ => rfl)) (pa_cons (pe_fld (pe_fld (pv 0) rfl) rfl) pa_nil))) pa_nil)))
      (pss_cons (ps_set (i := 3) sc_Search_history.nd rfl (.inl rfl) (pe_lst pa_nil))
      (pss_cons (ps_while PassesOwn.never (pt_cmpR op_notN (pe_ix ix_list (pe_fld (pv 0) rfl) (pv 1) (fun _ _ => rfl)) pe_non (nomark _))
        (pss_cons (ps_asg (pe_ix ix_list (pe_fld (pv 0) rfl) (pv 1) (fun _ _ => rfl)) (pg_tup rfl (pgs_cons (pg_name (i := 4) sc_Search_history.nd rfl (.inl rfl)) (pgs_cons (pg_name (i := 1) sc_Search_history.nd rfl (.inl rfl)) pgs_nil))))
        (pss_one (ps_expr (pe_bm PySem.F.plainAttrs_list PySem.F.slot_list_append PySem.F.type_list_append mt_append (pv 3) (pa_cons (pv 4) pa_nil))))))
      (pss_one (ps_ret (pe_tup (pa_cons (pv 2) (pa_cons (pv 3) pa_nil)))))))), ?_⟩
    -- number = self.found
    refine ⟨_, rfl, a.p, A.c_Search, a.dx, _, _, rfl, hS.ob, T.cl_Search, T.n_Search_found, rfl, ?_⟩
    -- disk
    refine ⟨_, rfl, a.p, A.c_Search, a.dx, _, _, rfl, hS.ob, T.cl_Search, T.n_Search_sketches, rfl, _, rfl, a.l2, _, fI S.found, .ref b, rfl, rfl, SqL.of e2, ?_, _, rfl, a.p, A.c_Search, a.dx, _, _, rfl, hS.ob, T.cl_Search, T.n_Search__machine, rfl, a.m, A.c_Machine, mdx, _, _, rfl, mob, T.cl_Machine, T.n_Machine_first, rfl,
      b, ff, _, M.first, rfl, eb, hM.first, hlf, by rw [good_len4 g h4]; decide, fun H1 v s1 ov => ?_⟩
    · rw [hf]; exact atI_nat (get_map hb)
    cases hm : meetO (S.sk.getD k []) M.first with
    | none => exact absurd hm hmk
    | some ms =>
      rw [hm] at ov
      obtain ⟨pm, rfl, epm⟩ := ov
      have hms : ms = meetL (S.sk.getD k []) M.first ∧ ¬ 0 ∈ ms := by
        unfold meetO at hm
        split at hm
        · cases hm
        · rename_i hz
          cases hm
          exact ⟨rfl, hz⟩
      refine ⟨pm, ms, rfl, epm, hms.2, by rw [hms.1]; exact Raised.small_meet (g.small mok), by rw [hms.1, Raised.meetL_len hlf, good_len4 g h4]; decide, fun H2 dk ds s2 edk => ?_⟩
      refine ⟨Nat.zero_le _, fun D nD => ?_⟩
      have s12 := s1.trans s2
      have nD0 : H D = none := s12.free nD
      refine ⟨fun n σ H3 => ∃ (k : Nat) (y4 : Option V) (xs : List V), σ = [some (.ref a.p), some (vn k), some (.ref dk), some (.ref D), y4] ∧ n = k ∧ k < S.sk.length ∧ Same H H3 ∧ H3 D = some (.lst xs) ∧ xs.length + k ≤ S.sk.length,
        ⟨k, k, none, [], by rw [hf]; rfl, rfl, hk, s12.trans (same_new nD), upd_same, by simp; omega⟩, ?_⟩
      rintro n σ H3 ⟨k, y4, xs, rfl, rfl, hk, s3, eD, hxs⟩
      have ho : n < S.org.length := by rw [I.lo]; exact hk
      obtain ⟨ov, hov, hor⟩ := ews.at_ (List.getElem?_eq_getElem ho)
      refine ⟨_, rfl, a.p, A.c_Search, a.dx, _, _, rfl, s3 _ _ hS.ob, T.cl_Search, T.n_Search_origins, rfl, _, rfl, a.l3, _, (n : Int), ov, rfl, rfl, SqL.of (s3 _ _ e3), atI_nat hov, rfl, _, rfl, ?_⟩
      cases eo : S.org[n] with
      | none =>
        rw [eo] at hor
        cases hor
        refine ifF rfl ⟨_, rfl, _, rfl, by show 2 ≤ sizeLine; rw [sizeLine_eq]; decide, fun t nt => ?_⟩
        exact q _ t _ D xs (s3.trans (same_new nt)) upd_same (same_new nt _ _ eD)
      | some p =>
        obtain ⟨dd', n'⟩ := p
        rw [eo] at hor
        obtain ⟨qa, rfl, eqa⟩ := hor
        obtain ⟨h1, _, _⟩ := I.orgS n dd' n' (by rw [List.getElem?_eq_getElem ho, eo])
        refine ifT rfl ⟨fun σ' H' => ∃ (y4 : Option V) (ys : List V), σ' = [some (.ref a.p), some (vn n'), some (.ref dk), some (.ref D), y4] ∧ Same H H' ∧ H' D = some (.lst ys) ∧ ys.length + n' ≤ S.sk.length, fun σ' H' ⟨z4, ys, e1, e2, e3, e4⟩ => ⟨n', h1, n', z4, ys, e1, rfl, Nat.lt_trans h1 hk, e2, e3, e4⟩, ?_⟩
        refine ⟨_, rfl, a.p, A.c_Search, a.dx, _, _, rfl, s3 _ _ hS.ob, T.cl_Search, T.n_Search_origins, rfl, _, rfl, a.l3, _, (n : Int), .ref qa, rfl, rfl, SqL.of (s3 _ _ e3), atI_nat hov, qa, _, rfl, SqT.of (s3 _ _ eqa), rfl, _, _, rfl, _, _, rfl, rfl, ?_⟩
        refine ⟨_, rfl, .inl ⟨rfl, _, SqL.of eD⟩, _, rfl, D, _, _, rfl, rfl, eD, small_line (by omega), ?_⟩
        exact ⟨_, _, rfl, same_mut s3 nD0, upd_same, by rw [List.length_append]; simp; omega⟩
/-! ### Paper, Answer -/
def rTupOf (K : PySem.W.Frag) : List V → Hp → VK → Prop := fun xs H Q => ∃ p ys, xs = [.ref p] ∧ ((SqL K H p ys ∧ ∀ l, H l = none → Q (.ref l) (upd H l (.tup ys))) ∨ (SqT K H p ys ∧ Q (.ref p) H))
theorem blkOk_any {N : List Str} {sc scope : Scope} {own : List (Str × Nat)} (h : blkC N { kind := .function, names := [], isGenerator := false, isCoroutine := false } scope own = true) : BlkOk N sc scope own := by
  have b := blkOk_by h
  exact ⟨b.kind, b.uniq, b.ix, fun y hy e => by have := b.free y hy e; simp at this, b.own⟩
def spPaper (A : Ad) : Sp := fun vs H Q _ => ∃ (p dx l c t : Addr) (ss : List Sk) (cv : List V) (rs : List Addr), vs = [.ref p, .ref l, .ref c, .ref t] ∧ H p = some (.ins A.c_Paper dx []) ∧ SkL H l ss ∧ ss.length ≤ 5000 ∧ H c = some (.lst cv) ∧ H t = some (.lst (rs.map V.ref)) ∧ rs.length ≤ 5000 ∧
  (∀ e ∈ rs, ∃ es : List Addr, H e = some (.lst (es.map V.ref)) ∧ es.length ≤ 5000 ∧ ∀ x ∈ es, ∃ vs, H x = some (.lst vs)) ∧ ∀ H', Kp [p] H H' → Q .non H'
theorem Kp.new {ps : List Addr} {H H1 : Hp} (a : Kp ps H H1) {p : Addr} {o : HO} (hp : H1 p = none) : Kp ps H (upd H1 p o) := fun b x h n => by
  rw [upd_ne (ne_of_none (a b x h n) hp)]; exact a b x h n
theorem ok_paper (T : Txt K mg A) : FnOk P w K mg base CX0 1 A.a_Paper_init A.d_Paper_init ["self", "sketches", "cover", "table"] (spPaper A) := by
  refine T.F_Paper_init.ok sc_Paper_init (fun vs H Q E h => ?_) (fun cdv Ar outer s H vs Q E hr h => ?_)
  · obtain ⟨p, dx, l, c, t, ss, cv, rs, rfl, _⟩ := h
    rfl
  · obtain ⟨p, dx, l, c, t, ss, cv, rs, rfl, hp, ⟨as, el, eas⟩, hss, hc, ht, hrs, hrow, q⟩ := h
    have pl : l ≠ p := lst_ne_ins el hp
    have pc : c ≠ p := lst_ne_ins hc hp
    have pt : t ≠ p := lst_ne_ins ht hp
    refine ⟨_, pss_cons (ps_fld (pv 0) (pe_callTy call_tuple_of (by rfl) T.z_tuple (by decide +kernel) (pa_cons
        (pe_lc (own := [("sketch", 4)]) (g := gName 4) (tt := tYes) (te := tCB (rTupOf K) (tCons (tVar 4) tNil)) rfl sc_Paper_init.nd (pi_list (pv 1)) (blkOk_any (N := ["self", "sketches", "cover", "table", "sketch", "row", "entry"]) (by decide +kernel))
          (fun _ _ _ _ _ => pg_name (i := 4) sc_Paper_init.nd rfl (Or.inl rfl)) (fun _ _ _ _ _ => pts_nil) (fun _ _ _ _ _ => pe_callTy call_tuple_of (by rfl) T.z_tuple (by decide +kernel) (pa_cons (pv 4) pa_nil))) pa_nil)) rfl)
      (pss_cons (ps_fld (pv 0) (pe_callTy call_tuple_of (by rfl) T.z_tuple (by decide +kernel) (pa_cons (pv 2) pa_nil)) rfl)
      (pss_one (ps_fld (pv 0) (pe_callTy call_tuple_of (by rfl) T.z_tuple (by decide +kernel) (pa_cons
        (pe_lc (own := [("row", 5)]) (g := gName 5) (tt := tYes) (te := tCB (rTupOf K) (tCons (tLc (iList K (tVar 5)) (gName 6) tYes (tCB (rTupOf K) (tCons (tVar 6) tNil)) [6]) tNil)) rfl sc_Paper_init.nd (pi_list (pv 3)) (blkOk_any (N := ["self", "sketches", "cover", "table", "sketch", "row", "entry"]) (by decide +kernel))
          (fun _ _ _ _ _ => pg_name (i := 5) sc_Paper_init.nd rfl (Or.inl rfl)) (fun _ _ _ _ _ => pts_nil)
          (fun _ _ _ _ _ => pe_callTy call_tuple_of (by rfl) T.z_tuple (by decide +kernel) (pa_cons
            (pe_lc (own := [("entry", 6)]) (g := gName 6) (tt := tYes) (te := tCB (rTupOf K) (tCons (tVar 6) tNil)) rfl sc_Paper_init.nd (pi_list (pv 5)) (blkOk_any (N := ["self", "sketches", "cover", "table", "sketch", "row", "entry"]) (by decide +kernel))
              (fun _ _ _ _ _ => pg_name (i := 6) sc_Paper_init.nd rfl (Or.inl rfl)) (fun _ _ _ _ _ => pts_nil) (fun _ _ _ _ _ => pe_callTy call_tuple_of (by rfl) T.z_tuple (by decide +kernel) (pa_cons (pv 6) pa_nil))) pa_nil))) pa_nil)) rfl))), ?_⟩
    -- self.sketches
    refine ⟨_, rfl, l, rfl, ⟨_, SqL.of el⟩, fun D nD => ?_⟩
    refine lc_list (K := K) (a := l) (xs := as.map V.ref) (fun i H2 => Same H H2 ∧ ∃ xs : List V, H2 D = some (.lst xs) ∧ xs.length = i) ⟨same_new nD, [], upd_same, rfl⟩ (fun i H2 _ ⟨sm, _⟩ => SqL.of (sm _ _ el)) ?_ ?_
    · rintro i x H2 hx ⟨sm, xs, eD, hxs⟩
      obtain ⟨b, hb, rfl⟩ := map_ref_at hx
      obtain ⟨sk, hsk, eb⟩ := eas.at' hb
      have hi := (List.getElem?_eq_some_iff.mp hsk).1
      refine ⟨rfl, yes_of (iteT ?_)⟩
      refine ⟨_, rfl, b, _, rfl, .inr ⟨SqT.of (sm _ _ eb), ?_⟩⟩
      exact ⟨xs, eD, small_line (by omega), same_mut sm nD, _, upd_same, by rw [List.length_append, hxs]; rfl⟩
    rintro H2 ⟨s2, xs, eD, hxs⟩
    refine ⟨D, _, rfl, .inl ⟨SqL.of eD, fun t1 n1 => ?_⟩⟩
    have s3 := s2.trans (same_new (o := .tup xs) n1)
    refine ⟨_, rfl, p, A.c_Paper, dx, _, rfl, s3 _ _ hp, T.cl_Paper, T.n_Paper_sketches, by show 0 < 1000; decide, ?_⟩
    have k4 : Kp [p] H (upd (upd H2 t1 (.tup xs)) p (.ins A.c_Paper dx (putF (Str.ofString "sketches") (.ref t1) []))) := (Kp.of s3).set (List.mem_singleton_self _)
    generalize hH4 : upd (upd H2 t1 (.tup xs)) p (.ins A.c_Paper dx (putF (Str.ofString "sketches") (.ref t1) [])) = H4 at k4 ⊢
    have p4 : H4 p = some (.ins A.c_Paper dx (putF (Str.ofString "sketches") (.ref t1) [])) := by rw [← hH4]; exact upd_same
    have off : ∀ {b : Addr}, b ≠ p → b ∉ [p] := fun h z => h (List.mem_singleton.mp z)
    -- self.cover
    refine ⟨_, rfl, c, _, rfl, .inl ⟨SqL.of (k4 _ _ hc (off pc)), fun t2 n2 => ?_⟩⟩
    have k5 := k4.new (o := .tup cv) n2
    refine ⟨_, rfl, p, A.c_Paper, dx, _, rfl, same_new n2 _ _ p4, T.cl_Paper, T.n_Paper_cover, by show 1 < 1000; decide, ?_⟩
    have k6 := k5.set (o := .ins A.c_Paper dx (putF (Str.ofString "cover") (.ref t2) (putF (Str.ofString "sketches") (.ref t1) []))) (List.mem_singleton_self p)
    generalize hH6 : upd (upd H4 t2 (.tup cv)) p (.ins A.c_Paper dx (putF (Str.ofString "cover") (.ref t2) (putF (Str.ofString "sketches") (.ref t1) []))) = H6 at k6 ⊢
    have p6 : H6 p = some (.ins A.c_Paper dx (putF (Str.ofString "cover") (.ref t2) (putF (Str.ofString "sketches") (.ref t1) []))) := by rw [← hH6]; exact upd_same
    -- self.table
    refine ⟨_, rfl, t, rfl, ⟨_, SqL.of (k6 _ _ ht (off pt))⟩, fun D3 n3 => ?_⟩
    refine lc_list (K := K) (a := t) (xs := rs.map V.ref) (fun i H7 => Same H6 H7 ∧ ∃ xs : List V, H7 D3 = some (.lst xs) ∧ xs.length = i) ⟨same_new n3, [], upd_same, rfl⟩ (fun i H7 _ ⟨sm, _⟩ => SqL.of (sm _ _ (k6 _ _ ht (off pt)))) ?_ ?_
    · rintro i x H7 hx ⟨sm, ys, eD3, hys⟩
      obtain ⟨e, he, rfl⟩ := map_ref_at hx
      have hi := (List.getElem?_eq_some_iff.mp he).1
      obtain ⟨es, ee, hes, hel⟩ := hrow e (List.mem_of_getElem? he)
      have ee7 := sm _ _ (k6 _ _ ee (off (lst_ne_ins ee hp)))
      refine ⟨rfl, yes_of (iteT ?_)⟩
      refine ⟨_, rfl, e, rfl, ⟨_, SqL.of ee7⟩, fun D4 n4 => ?_⟩
      refine lc_list (K := K) (a := e) (xs := es.map V.ref) (fun j H8 => Same H7 H8 ∧ ∃ xs : List V, H8 D4 = some (.lst xs) ∧ xs.length = j) ⟨same_new n4, [], upd_same, rfl⟩ (fun j H8 _ ⟨s8, _⟩ => SqL.of (s8 _ _ ee7)) ?_ ?_
      · rintro j x H8 hx ⟨s8, zs, eD4, hzs⟩
        obtain ⟨x, hx', rfl⟩ := map_ref_at hx
        have hj := (List.getElem?_eq_some_iff.mp hx').1
        obtain ⟨vs, ev⟩ := hel x (List.mem_of_getElem? hx')
        have ev8 := s8 _ _ (sm _ _ (k6 _ _ ev (off (lst_ne_ins ev hp))))
        refine ⟨rfl, yes_of (iteT ?_)⟩
        refine ⟨_, rfl, x, _, rfl, .inl ⟨SqL.of ev8, fun t5 n5 => ?_⟩⟩
        exact ⟨zs, same_new n5 _ _ eD4, small_line (by omega), same_mut (s8.trans (same_new n5)) n4, _, upd_same, by rw [List.length_append, hzs]; rfl⟩
      · rintro H8 ⟨s8, zs, eD4, hzs⟩
        refine ⟨D4, _, rfl, .inl ⟨SqL.of eD4, fun t5 n5 => ?_⟩⟩
        exact ⟨ys, same_new n5 _ _ (s8 _ _ eD3), small_line (by omega), same_mut (sm.trans (s8.trans (same_new n5))) n3, _, upd_same, by rw [List.length_append, hys]; rfl⟩
    · rintro H7 ⟨s7, ys, eD3, hys⟩
      refine ⟨D3, _, rfl, .inl ⟨SqL.of eD3, fun t6 n6 => ?_⟩⟩
      refine ⟨_, rfl, p, A.c_Paper, dx, _, rfl, same_new n6 _ _ (s7 _ _ p6), T.cl_Paper, T.n_Paper_table, by show 2 < 1000; decide, ?_⟩
      exact q _ ((k6.trans (Kp.of (s7.trans (same_new n6)))).set (List.mem_singleton_self _))
def spAnswer (A : Ad) : Sp := fun vs H Q _ => ∃ (p dx : Addr) (b : Bool) (v2 v3 v4 : V), vs = [.ref p, .bl b, v2, v3, v4] ∧ H p = some (.ins A.c_Answer dx []) ∧ (v4 = .non ∨ ∃ l xs, v4 = .ref l ∧ H l = some (.lst xs)) ∧
  ∀ H' fs, H' p = some (.ins A.c_Answer dx fs) → fs.lookup (Str.ofString "told") = some (.bl b) → Kp [p] H H' → Q .non H'
theorem ok_answer (T : Txt K mg A) : FnOk P w K mg base CX0 1 A.a_Answer_init A.d_Answer_init ["self", "told", "paper", "disk", "deeds"] (spAnswer A) := by
  refine T.F_Answer_init.ok sc_Answer_init (fun vs H Q E h => ?_) (fun cdv Ar outer s H vs Q E hr h => ?_)
  · obtain ⟨p, dx, b, v2, v3, v4, rfl, _⟩ := h
    rfl
  · obtain ⟨p, dx, b, v2, v3, v4, rfl, hp, hv, q⟩ := h
    refine ⟨_, pss_cons (ps_fld (pv 0) (pv 1) rfl) (pss_cons (ps_fld (pv 0) (pv 2) rfl) (pss_cons (ps_fld (pv 0) (pv 3) rfl)
      (pss_one (ps_fld (pv 0) (pe_ifExp (pt_cmpR op_isN (pv 4) pe_non (nomark _)) pe_non (pe_callTy call_tuple_of (by rfl) T.z_tuple (by decide +kernel) (pa_cons (pv 4) pa_nil))) rfl)))), ?_⟩
    refine ⟨_, rfl, _, rfl, p, A.c_Answer, dx, _, rfl, hp, T.cl_Answer, T.n_Answer_told, by show 0 < 1000; decide, ?_⟩
    refine ⟨_, rfl, _, rfl, p, A.c_Answer, dx, _, rfl, upd_same, T.cl_Answer, T.n_Answer_paper, by show 1 < 1000; decide, ?_⟩
    refine ⟨_, rfl, _, rfl, p, A.c_Answer, dx, _, rfl, upd_same, T.cl_Answer, T.n_Answer_disk, by show 2 < 1000; decide, ?_⟩
    have k : ∀ o, Kp [p] H (upd H p o) := fun o => (Kp.refl [p] H).set (List.mem_singleton_self _)
    rw [upd_upd, upd_upd]
    refine ⟨_, rfl, rfl, _, rfl, ?_⟩
    rcases hv with rfl | ⟨l, xs, rfl, el⟩
    · refine ifT rfl ⟨_, rfl, p, A.c_Answer, dx, _, rfl, upd_same, T.cl_Answer, T.n_Answer_deeds, by show 3 < 1000; decide, ?_⟩
      rw [upd_upd]
      exact q _ _ upd_same rfl (k _)
    · have lp : l ≠ p := lst_ne_ins el hp
      refine ifF rfl ⟨_, rfl, l, xs, rfl, .inl ⟨SqL.of ((upd_ne lp).trans el), fun t nt => ?_⟩⟩
      refine ⟨_, rfl, p, A.c_Answer, dx, _, rfl, same_new nt _ _ upd_same, T.cl_Answer, T.n_Answer_deeds, by show 3 < 1000; decide, ?_⟩
      exact q _ _ upd_same rfl (((k _).new nt).set (List.mem_singleton_self _))
end
end Rw
set_option Elab.async false
set_option linter.all false
set_option maxRecDepth 100000
set_option maxHeartbeats 4000000
/-! tell, told_at_end -/
namespace Rw
open PySem PySem.Spec PyProof.Rows L2
open Raised (Sk at0 meetL meetO splitB splitS withoutS Deed setAll fullAll andAll beforeS pack packF DeedOk Srch Mach place placeAt placeIx SInv MachOk Good stepTo rowTo runTo RInv has Reach incl)
structure MOk (M : Mach) : Prop where
  ok : MachOk M
  f4 : M.full.length = 4
  d400 : M.deeds.length ≤ 400
  all : (Raised.allSk M.full).length ≤ 4096
theorem good_oksk {M : Mach} {sizes : List Nat} {s : Sk} (g : Good M s) (hf : M.full = sizes.map fun z => 2 ^ z - 1) : OkSk sizes s := by
  refine ⟨by rw [g.len, hf, List.length_map], fun i m z hm hz => ?_⟩
  have hi : i < s.length := (List.getElem?_eq_some_iff.mp hm).1
  have e : at0 s i = m := at0_of hm
  have ef : at0 M.full i = 2 ^ z - 1 := at0_of (by rw [hf, List.getElem?_map, hz]; rfl)
  have hle := Raised.at0_meetL i g.len
  rw [show meetL s M.full = s from g.le, e, ef] at hle
  have h1 : m ≤ 2 ^ z - 1 := by rw [hle]; exact Nat.and_le_right
  have h2 := Nat.two_pow_pos z
  refine ⟨Nat.pos_of_ne_zero fun h0 => g.pos ?_, by omega⟩
  rw [← h0]
  exact List.mem_of_getElem? hm
section
variable {P : Program} {w : World} {K : PySem.W.Frag} {mg : Str → Option Value} {base : Heap} {A : Ad}
def spTell (A : Ad) : Sp := fun vs H Q _ => ∃ (m cc dd ff b pc : Addr) (sizes : List Nat) (M : Mach) (part : Sk), vs = [.ref m, .ref b, .ref pc] ∧ MachAt A.c_Machine H m cc dd ff sizes M ∧ SkAt H b part ∧ H pc = some (.lst []) ∧ MOk M ∧ Good M part ∧
  ∀ H' p dx fs (t : Bool), Same H H' → H' p = some (.ins A.c_Answer dx fs) → fs.lookup (Str.ofString "told") = some (.bl t) → (t = true ↔ ¬ ∃ d, Reach M d ∧ has part d) → Q (.ref p) H'
theorem fI_ge (f : Option Nat) : decide ((0 : Int) ≤ fI f) = decide (f ≠ none) := by
  cases f with
  | none => rfl
  | some k => show decide ((0 : Int) ≤ (k : Int)) = decide (some k ≠ none); rw [decide_eq_true (by omega), decide_eq_true (by simp)]
theorem ok_tell (T : Txt K mg A) : FnOk P w K mg base CX0 6 A.a_tell A.d_tell ["machine", "image", "piece"] (spTell A) := by
  have GQ : FnOk P w K mg base CX0 3 _ _ _ _ := ok_check_question T
  have GS : FnOk P w K mg base CX0 1 _ _ _ _ := ok_sinit T
  have GP : FnOk P w K mg base CX0 4 _ _ _ _ := ok_places T
  have GR : FnOk P w K mg base CX0 5 _ _ _ _ := ok_row T
  have GH : FnOk P w K mg base CX0 3 _ _ _ _ := ok_history T
  have GA : FnOk P w K mg base CX0 1 _ _ _ _ := ok_answer T
  have GPa : FnOk P w K mg base CX0 1 _ _ _ _ := ok_paper T
  refine T.F_tell.ok sc_tell (fun vs H Q E h => ?_) (fun cdv Ar outer s H vs Q E hr h => ?_)
  · obtain ⟨m, cc, dd, ff, b, pc, sizes, M, part, rfl, _⟩ := h
    rfl
  · obtain ⟨m, cc, dd, ff, b, pc, sizes, M, part, rfl, hM, hb, hpc, mo, g, q⟩ := h
    have hr2 : Room 2 _ := hr.mono (by decide)
    refine ⟨_, pss_cons (ps_expr (pe_call GQ (hr.mono (by decide)) (by rfl) T.g_check_question T.F_check_question.kp T.b_check_question .nil pass0 (pa_cons (pv 0) (pa_cons (pv 1) (pa_cons (pv 2) pa_nil)))))
      (pss_cons (ps_set (i := 3) sc_tell.nd rfl (.inl rfl) (pe_make T.m_Search_init GS hr2 (by rfl) T.g_Search T.b_Search_init .nil pass0 (pa_cons (pv 0) (pa_cons (pv 2) pa_nil))))
      (pss_cons (ps_set (i := 4) sc_tell.nd rfl (.inl rfl) (pe_meth (pv 3) T.cl_Search T.m_Search_places GP (hr.mono (by decide)) T.b_Search_places .nil pass0 (pa_cons (pv 1) (pa_cons pe_non pa_nil))))
      (pss_cons (ps_set (i := 5) sc_tell.nd rfl (.inl rfl) (pe_lst pa_nil))
      (pss_cons (ps_while PassesOwn.never (PW.pt (pw_and (pt_cmpR op_lt (pe_fld (pv 3) rfl) pe_int (nomark _)) (pw_and1 (pt_cmpR op_lt (pe_callB call_len_seq (by rfl) T.z_len PySem.boot_len (pa_cons (pv 5) pa_nil)) (pe_callB call_len_seq (by rfl) T.z_len PySem.boot_len (pa_cons (pe_fld (pv 3) rfl) pa_nil)) (nomark _)))))
        (pss_one (ps_expr (pe_bm PySem.F.plainAttrs_list PySem.F.slot_list_append PySem.F.type_list_append mt_append (pv 5) (pa_cons (pe_meth (pv 3) T.cl_Search T.m_Search_row GR hr T.b_Search_row .nil pass0 (pa_cons (pe_callB call_len_seq (by rfl) T.z_len PySem.boot_len (pa_cons (pv 5) pa_nil)) pa_nil)) pa_nil)))))
      (pss_cons (ps_if (pt_cmpR op_ge (pe_fld (pv 3) rfl) pe_int (nomark _))
          (pss_cons (ps_asg (pe_meth0 (pv 3) T.cl_Search T.m_Search_history GH (hr.mono (by decide)) T.b_Search_history .nil pass0) (pg_tup rfl (pgs_cons (pg_name (i := 6) sc_tell.nd rfl (.inl rfl)) (pgs_cons (pg_name (i := 7) sc_tell.nd rfl (.inl rfl)) pgs_nil))))
          (pss_one (ps_ret (pe_make T.m_Answer_init GA hr2 (by rfl) T.g_Answer T.b_Answer_init .nil pass0 (pa_cons pe_bl (pa_cons pe_non (pa_cons (pv 6) (pa_cons (pv 7) pa_nil)))))))) pss_nil)
      (pss_one (ps_ret (pe_make T.m_Answer_init GA hr2 (by rfl) T.g_Answer T.b_Answer_init .nil pass0 (pa_cons pe_bl (pa_cons (pe_make T.m_Paper_init GPa hr2 (by rfl) T.g_Paper T.b_Paper_init .nil pass0 (pa_cons (pe_fld (pv 3) rfl) (pa_cons (pv 4) (pa_cons (pv 5) pa_nil)))) (pa_cons pe_non (pa_cons pe_non pa_nil)))))))))))), ?_⟩
    -- check_question
    refine ⟨_, rfl, _, rfl, _, rfl, m, cc, dd, ff, b, pc, sizes, M, part, [], rfl, hM, hb, good_oksk g hM.full, ⟨[], hpc, All2.nil⟩, fun s hs => (nomatch hs), fun H1 s1 => ?_⟩
    -- search = Search(machine, piece)
    refine ⟨_, rfl, _, rfl, ?_⟩
    intro x dx nx ndx nex
    have sm : Same H1 (upd (upd H1 dx (.own x)) x (.ins A.c_Search dx [])) := fun c o e => by
      rw [upd_ne (ne_of_none e nx), upd_ne (ne_of_none e ndx)]; exact e
    refine ⟨x, dx, m, pc, rfl, upd_same, fun l1 l2 l3 H2 hS n1 n2 n3 k2 t2 => ⟨rfl, ?_⟩⟩
    have s2 : Same H1 H2 := k2.same sm (fun p hp => by rw [List.mem_singleton] at hp; rw [hp]; exact nx)
    have hpc1 : H1 pc = some (.lst []) := s1 _ _ hpc
    have n1' := sm.free n1
    have n2' := sm.free n2
    have n3' := sm.free n3
    generalize ha : (⟨x, dx, m, pc, l1, l2, l3⟩ : SAd) = a at hS
    have ax : a.p = x := by rw [← ha]
    have am : a.m = m := by rw [← ha]
    have apc : a.pc = pc := by rw [← ha]
    have own : a.own = [x, l1, l2, l3] := by rw [← ha]
    have fresh : ∀ c ∈ a.own, H1 c = none := by
      rw [own]
      intro c hc
      simp only [List.mem_cons, List.not_mem_nil, or_false] at hc
      rcases hc with rfl | rfl | rfl | rfl <;> assumption
    have there : ∀ {c : Addr} {o : HO}, H1 c = some o → c ∉ a.own := fun e hc => by rw [fresh _ hc] at e; cases e
    have pco : a.pc ∉ a.own := by rw [apc]; exact there hpc1
    have mno : m ∉ a.own := by obtain ⟨mdx, ob⟩ := (hM.same s1).ob; exact there ob
    clear ha
    subst ax am apc
    -- cover = search.places(image, None)
    refine ⟨_, rfl, a.p, a.dx, _, rfl, hS.ob, rfl, _, rfl, a, ⟨[], [], none⟩, cc, dd, ff, b, sizes, M, part, .non, none, rfl, hS, (hM.same s1).same s2, s2 _ _ (s1 _ _ hb), rfl, s2 _ _ hpc1, by rw [g.len, mo.f4]; exact Nat.le_refl _, g.small mo.ok, by rw [g.len, mo.ok.first.len], Nat.zero_le _, rfl, fun H3 cv hS3 ncv ecv k3 t3 => ?_⟩
    have kk3 : Kp a.own H1 H3 := (Kp.of s2).trans k3
    have cvo : cv ∉ a.own := hS.new_off ncv
    -- table = []
    refine ⟨Nat.zero_le _, fun tl ntl => ?_⟩
    have tlo : tl ∉ a.own := hS3.new_off ntl
    have ntl1 : H1 tl = none := kk3.back ntl tlo
    have cvtl : cv ≠ tl := ne_of_none ecv ntl
    have offt : ∀ {c : Addr}, c ∈ a.own → c ≠ tl := fun hc e => tlo (e ▸ hc)
    have s4 := same_new (o := .lst []) ntl
    have W0 : RInv M part 0 (runTo M part 0) := Raised.run_start mo.ok g
    refine ⟨fun n σ H5 => ∃ (t : Nat) (rs : List Addr), σ = [some (.ref a.m), some (.ref b), some (.ref a.pc), some (.ref a.p), some (.ref cv), some (.ref tl), none, none] ∧ n + t = 5000 ∧ SearchAt A.c_Search H5 a (runTo M part t) ∧ RInv M part t (runTo M part t) ∧ Kp (tl :: a.own) H1 H5 ∧ TK H1 H5 ∧
        H5 cv = some (.lst [vn (placeIx ⟨[], [], none⟩ part)]) ∧ H5 tl = some (.lst (rs.map V.ref)) ∧ rs.length = t ∧ ∀ e ∈ rs, RowL (tl :: a.own) H5 e,
      ⟨5000, 0, [], rfl, rfl, ?_, W0, ?_, ?_, s4 _ _ ecv, upd_same, rfl, fun e he => (nomatch he)⟩, ?_⟩
    · exact hS3.same s4
    · exact fun c o e hc => s4 _ _ (kk3 _ _ e (fun z => hc (List.mem_cons_of_mem _ z)))
    · exact ((same_tk s2).trans t3).trans (same_tk s4)
    rintro n σ H5 ⟨t, rs, rfl, hn, hS5, R, k5, t5, ecv5, etl5, hrs, hrow⟩
    have hM5 : MachAt A.c_Machine H5 a.m cc dd ff sizes M := (hM.same s1).kp t5 k5 (fun z => by
      rcases List.mem_cons.mp z with z | z
      · obtain ⟨mdx, ob⟩ := (hM.same s1).ob
        rw [z, ntl1] at ob; cases ob
      · exact mno z)
    obtain ⟨as, e2, eas⟩ := hS5.sk
    have hbnd : (runTo M part t).sk.length ≤ 4096 := Nat.le_trans R.inv.bound mo.all
    refine ⟨_, rfl, a.p, A.c_Search, a.dx, _, _, rfl, hS5.ob, T.cl_Search, T.n_Search_found, rfl, _, _, rfl, rfl, _, rfl, ?_⟩
    rw [fI_lt]
    have S15 : ∀ {H6}, Kp (tl :: a.own) H1 H6 → Same H H6 := fun k6 => k6.same s1 (fun p hp => s1.free (by
      rcases List.mem_cons.mp hp with z | z
      · rw [z]; exact ntl1
      · exact fresh p z))
    have Smake : ∀ {Ha : Hp} {x dx C : Addr}, Ha x = none → Ha dx = none → Same Ha (upd (upd Ha dx (.own x)) x (.ins C dx [])) := fun nx ndx c o e => by
      rw [upd_ne (ne_of_none e nx), upd_ne (ne_of_none e ndx)]; exact e
    by_cases hf : (runTo M part t).found = none
    · refine ifT (decide_eq_true hf) ?_
      refine ⟨_, rfl, tl, _, rfl, .inl (SqL.of etl5), _, rfl, a.p, A.c_Search, a.dx, _, _, rfl, hS5.ob, T.cl_Search, T.n_Search_sketches, rfl, a.l2, _, rfl, .inl (SqL.of e2), _, _, rfl, rfl, _, rfl, ?_⟩
      have el1 : (rs.map V.ref).length = t := by rw [List.length_map, hrs]
      have el2 : (as.map V.ref).length = (runTo M part t).sk.length := by rw [List.length_map, eas.1]
      by_cases ht : t < (runTo M part t).sk.length
      · refine ifT (decide_eq_true (by rw [el1, el2]; exact Int.ofNat_lt.mpr ht)) ⟨fun σ' H' => ∃ rs : List Addr, σ' = [some (.ref a.m), some (.ref b), some (.ref a.pc), some (.ref a.p), some (.ref cv), some (.ref tl), none, none] ∧ SearchAt A.c_Search H' a (runTo M part (t + 1)) ∧ Kp (tl :: a.own) H1 H' ∧ TK H1 H' ∧
          H' cv = some (.lst [vn (placeIx ⟨[], [], none⟩ part)]) ∧ H' tl = some (.lst (rs.map V.ref)) ∧ rs.length = t + 1 ∧ ∀ e ∈ rs, RowL (tl :: a.own) H' e, fun σ' H' ⟨rs', h1, h2, h3, h4, h5, h6, h7, h8⟩ => ⟨n - 1, by omega, t + 1, rs', h1, by omega, h2, Raised.run_next mo.ok R ht, h3, h4, h5, h6, h7, h8⟩, ?_⟩
        have hpc5 : H5 a.pc = some (.lst []) := k5 _ _ hpc1 (fun z => by
          rcases List.mem_cons.mp z with z | z
          · rw [z, ntl1] at hpc1; cases hpc1
          · exact pco z)
        refine ⟨_, rfl, .inl ⟨rfl, _, SqL.of etl5⟩, _, rfl, a.p, a.dx, _, rfl, hS5.ob, rfl, _, rfl, tl, _, rfl, .inl (SqL.of etl5), a, runTo M part t, cc, dd, ff, sizes, M, part, t, by rw [el1]; rfl, hS5, hM5, hpc5, pco, mo.ok, R.inv, ht, mo.f4, mo.d400, mo.all, fun H6 e hS6 ⟨ne, es, ee, hes, hel⟩ k6 t6 => ?_⟩
        have etl6 := k6 _ _ etl5 tlo
        have etl : e ≠ tl := (ne_of_none etl5 ne).symm
        have offe : ∀ {c : Addr}, H5 c = none → c ∉ tl :: a.own := fun hc z => by
          rcases List.mem_cons.mp z with z | z
          · rw [z, etl5] at hc; cases hc
          · exact hS5.new_off hc z
        refine ⟨tl, _, _, rfl, rfl, etl6, small_line (by rw [el1]; omega), rs ++ [e], rfl, ?_, ?_, (t5.trans t6).trans (tk_lst etl6), ?_, by rw [upd_same, List.map_append]; rfl, by rw [List.length_append, hrs]; rfl, fun e' he' => ?_⟩
        · have t7 := tk_lst (o := .lst (rs.map V.ref ++ [.ref e])) etl6
          obtain ⟨ws, w1, w2⟩ := hS6.og
          exact ⟨(upd_ne (offt (by simp))).trans hS6.ob, (upd_ne (offt (by simp))).trans hS6.pk, hS6.sk.keep t7 (upd_ne (offt (by simp))), ⟨ws, (upd_ne (offt (by simp))).trans w1, w2.mono fun x o z => z.tk t7⟩, hS6.n12, hS6.n13, hS6.n23⟩
        · exact (k5.trans (fun c o e hc => k6 _ _ e (fun z => hc (List.mem_cons_of_mem _ z)))).set List.mem_cons_self
        · rw [upd_ne cvtl]; exact k6 _ _ ecv5 cvo
        · have k7 : Kp (tl :: a.own) H5 (upd H6 tl (.lst (rs.map V.ref ++ [.ref e]))) := Kp.set (fun c o e hc => k6 _ _ e (fun z => hc (List.mem_cons_of_mem _ z))) List.mem_cons_self
          rcases List.mem_append.mp he' with he' | he'
          · exact (hrow e' he').kp k7
          · rw [List.mem_singleton] at he'
            subst he'
            refine ⟨offe ne, es, by rw [upd_ne etl]; exact ee, hes, fun x hx => ?_⟩
            obtain ⟨nx', vs, ev⟩ := hel x hx
            exact ⟨offe nx', vs, by rw [upd_ne (ne_of_none etl5 nx').symm]; exact ev⟩
      · refine ifF (decide_eq_false (by rw [el1, el2]; exact fun z => ht (Int.ofNat_lt.mp z))) ?_
        -- nothing was found
        refine ⟨_, rfl, a.p, A.c_Search, a.dx, _, _, rfl, hS5.ob, T.cl_Search, T.n_Search_found, rfl, _, _, rfl, rfl, _, rfl, ?_⟩
        rw [fI_ge]
        refine ifF (decide_eq_false (by simp [hf])) ?_
        refine ⟨_, rfl, a.p, A.c_Search, a.dx, _, _, rfl, hS5.ob, T.cl_Search, T.n_Search_sketches, rfl, _, rfl, _, rfl, ?_⟩
        intro x2 dx2 nx2 ndx2 ne2
        have s6 := Smake (C := A.c_Paper) nx2 ndx2
        refine ⟨x2, dx2, a.l2, cv, tl, _, _, rs, rfl, upd_same, SkL.same ⟨as, e2, eas⟩ s6, by omega, s6 _ _ ecv5, s6 _ _ etl5, by omega, fun e he => ?_, fun H7 k7 => ⟨rfl, ?_⟩⟩
        · obtain ⟨_, es, h1, h2, h3⟩ := hrow e he
          exact ⟨es, s6 _ _ h1, h2, fun x hx => let ⟨_, vs, ev⟩ := h3 x hx; ⟨vs, s6 _ _ ev⟩⟩
        have s7 : Same H H7 := (k7.same ((S15 k5).trans s6) (fun p hp => by rw [List.mem_singleton] at hp; rw [hp]; exact (S15 k5).free nx2))
        intro x3 dx3 nx3 ndx3 ne3
        refine ⟨x3, dx3, true, _, _, _, rfl, upd_same, .inl rfl, fun H8 fs e8 lk k8 => ⟨rfl, ?_⟩⟩
        refine q H8 x3 dx3 fs true (k8.same (s7.trans (Smake nx3 ndx3)) (fun p hp => by rw [List.mem_singleton] at hp; rw [hp]; exact s7.free nx3)) e8 lk ⟨fun _ => ?_, fun _ => rfl⟩
        exact Raised.told_none' mo.ok g R (by have := R.le; omega) hf
    · refine ifF (decide_eq_false hf) ?_
      refine iteF ?_
      obtain ⟨k, hk⟩ : ∃ k, (runTo M part t).found = some k := by
        cases e : (runTo M part t).found with
        | none => exact absurd e hf
        | some k => exact ⟨k, rfl⟩
      refine ⟨_, rfl, a.p, A.c_Search, a.dx, _, _, rfl, hS5.ob, T.cl_Search, T.n_Search_found, rfl, _, _, rfl, rfl, _, rfl, ?_⟩
      rw [fI_ge]
      refine ifT (decide_eq_true hf) ?_
      refine ⟨_, rfl, a.p, a.dx, _, rfl, hS5.ob, rfl, a, runTo M part t, cc, dd, ff, sizes, M, part, k, rfl, hS5, hM5, mo.ok, R.inv, hk, mo.f4, by omega, fun H6 tt v l ds s6 et el => ?_⟩
      refine ⟨tt, _, rfl, SqT.of et, rfl, _, _, rfl, _, _, rfl, rfl, ?_⟩
      refine ⟨_, rfl, _, rfl, ?_⟩
      intro x2 dx2 nx2 ndx2 ne2
      have s7 := (S15 k5).trans s6
      refine ⟨x2, dx2, false, _, _, _, rfl, upd_same, .inr ⟨l, ds, rfl, Smake nx2 ndx2 _ _ el⟩, fun H7 fs e7 lk k7 => ⟨rfl, ?_⟩⟩
      refine q H7 x2 dx2 fs false (k7.same (s7.trans (Smake nx2 ndx2)) (fun p hp => by rw [List.mem_singleton] at hp; rw [hp]; exact s7.free nx2)) e7 lk ⟨fun z => (by cases z), fun z => absurd (Raised.told_some mo.ok R.inv hk) z⟩
/-! ### told_at_end -/
def spEnd (A : Ad) : Sp := fun vs H Q _ => ∃ (m cc dd ff b l : Addr) (sizes : List Nat) (M : Mach) (image : Sk) (piece : List Sk), vs = [.ref m, .ref b, .ref l] ∧ MachAt A.c_Machine H m cc dd ff sizes M ∧ SkAt H b image ∧ SkL H l piece ∧ MOk M ∧ Good M image ∧ (∀ t ∈ piece, Good M t) ∧
  (∀ i, i ≤ piece.length → (withoutS image (piece.take i)).length ≤ 5000) ∧ (∀ r ∈ withoutS image piece, Good M r) ∧
  ∀ H' (t : Bool), Same H H' → (t = true ↔ ∀ r ∈ withoutS image piece, ¬ ∃ d, Reach M d ∧ has r d) → Q (.bl t) H'
theorem ok_told (T : Txt K mg A) : FnOk P w K mg base CX0 7 A.a_told_at_end A.d_told_at_end ["machine", "image", "piece"] (spEnd A) := by
  have GQ : FnOk P w K mg base CX0 3 _ _ _ _ := ok_check_question T
  have GT : FnOk P w K mg base CX0 6 _ _ _ _ := ok_tell T
  have GW : FnOk P w K mg base CX0 3 _ _ _ _ := ok_without T
  refine T.F_told_at_end.ok sc_told_at_end (fun vs H Q E h => ?_) (fun cdv Ar outer s H vs Q E hr h => ?_)
  · obtain ⟨m, cc, dd, ff, b, l, sizes, M, image, piece, rfl, _⟩ := h
    rfl
  · obtain ⟨m, cc, dd, ff, b, l, sizes, M, image, piece, rfl, hM, hb, hl, mo, g, gp, hbnd, gw, q⟩ := h
    refine ⟨_, pss_cons (ps_expr (pe_call GQ (hr.mono (by decide)) (by rfl) T.g_check_question T.F_check_question.kp T.b_check_question .nil pass0 (pa_cons (pv 0) (pa_cons (pv 1) (pa_cons (pv 2) pa_nil)))))
      (pss_one (ps_ret (pe_callB (cr_all rfl) (by rfl) T.z_all (by decide +kernel) (pa_cons
        (pe_lc (own := [("part", 3)]) (g := gName 3) (tt := tYes) (te := tFld K (tCall (spTell A) [] E0 (tCons (tVar 0) (tCons (tVar 3) (tCons (tLst tNil) tNil)))) "told") rfl sc_told_at_end.nd
          (pi_list (pe_call GW (hr.mono (by decide)) (by rfl) T.g_without T.F_without.kp T.b_without .nil pass0 (pa_cons (pv 1) (pa_cons (pv 2) pa_nil))))
          (blkOk_by (N := ["machine", "image", "piece", "part"]) (sc := defScope s_told_at_end) (by decide +kernel)) (fun _ _ _ _ _ => pg_name (i := 3) sc_told_at_end.nd rfl (Or.inl rfl)) (fun _ _ _ _ _ => pts_nil)
          (fun _ _ _ _ _ => pe_fld (pe_call GT hr (by rfl) T.g_tell T.F_tell.kp T.b_tell .nil pass0 (pa_cons (pv 0) (pa_cons (pv 3) (pa_cons (pe_lst pa_nil) pa_nil)))) rfl)) pa_nil)))), ?_⟩
    refine ⟨_, rfl, _, rfl, _, rfl, m, cc, dd, ff, b, l, sizes, M, image, piece, rfl, hM, hb, good_oksk g hM.full, hl, fun t ht => good_oksk (gp t ht) hM.full, fun H1 s1 => ?_⟩
    refine ⟨_, rfl, _, rfl, b, l, image, piece, rfl, s1 _ _ hb, hl.same s1, fun t ht => by rw [(gp t ht).len, g.len], by rw [g.len, mo.f4]; decide, fun i hi => Nat.le_trans (hbnd i hi) (by decide), fun H2 r s2 nr ⟨ras, er, eras⟩ => ?_⟩
    refine ⟨r, rfl, ⟨_, SqL.of er⟩, fun D nD => ?_⟩
    have s12 := s1.trans s2
    refine lc_list (K := K) (a := r) (xs := ras.map V.ref) (fun i H3 => Same H2 H3 ∧ ∃ bs : List Bool, H3 D = some (.lst (bs.map V.bl)) ∧ All2 (fun (b : Bool) r => b = true ↔ ¬ ∃ d, Reach M d ∧ has r d) bs ((withoutS image piece).take i)) ⟨same_new nD, [], upd_same, All2.nil⟩ (fun i H3 _ ⟨sm, _⟩ => SqL.of (sm _ _ er)) ?_ ?_
    · rintro i x H3 hx ⟨s3, bs, eD, hbs⟩
      obtain ⟨pa, hpa, rfl⟩ := map_ref_at hx
      obtain ⟨part, hpart, epa⟩ := eras.at' hpa
      have hi := (List.getElem?_eq_some_iff.mp hpart).1
      refine ⟨rfl, yes_of (iteT ?_)⟩
      refine ⟨_, rfl, _, rfl, Nat.zero_le _, fun pc npc => ?_⟩
      have s4 := same_new (o := .lst []) npc
      refine ⟨m, cc, dd, ff, pa, pc, sizes, M, part, rfl, ((hM.same s12).same s3).same s4, s4 _ _ (s3 _ _ epa), upd_same, mo, gw part (List.mem_of_getElem? hpart), fun H5 p dx fs t s5 e5 lk iff => ?_⟩
      refine ⟨p, A.c_Answer, dx, fs, .bl t, rfl, e5, T.cl_Answer, T.n_Answer_told, lk, bs.map V.bl, s5 _ _ (s4 _ _ eD), ?_, same_mut (s3.trans (s4.trans s5)) nD, bs ++ [t], by rw [upd_same, List.map_append]; rfl, ?_⟩
      · rw [List.length_map, hbs.1, List.length_take]
        have := hbnd piece.length (Nat.le_refl _)
        rw [List.take_length] at this
        exact small_line (by omega)
      · rw [take_succ_of hpart]
        exact hbs.snoc iff
    · rintro H3 ⟨s3, bs, eD, hbs⟩
      rw [List.take_of_length_le (by rw [List.length_map, eras.1]; exact Nat.le_refl _)] at hbs
      refine ⟨D, bs, rfl, SqL.of eD, q H3 _ (s12.trans s3) ?_⟩
      rw [List.all_eq_true]
      constructor
      · intro h r hr'
        obtain ⟨i, hi, e⟩ := List.mem_iff_getElem.mp hr'
        obtain ⟨b', hb', iff⟩ := hbs.at_ (y := r) (i := i) (by rw [List.getElem?_eq_getElem hi, e])
        exact iff.mp (h b' (List.mem_of_getElem? hb'))
      · intro h b' hb'
        obtain ⟨i, hi, e⟩ := List.mem_iff_getElem.mp hb'
        obtain ⟨r, hr', iff⟩ := hbs.at' (x := b') (i := i) (by rw [List.getElem?_eq_getElem hi, e])
        exact iff.mpr (h r (List.mem_of_getElem? hr'))
end
end Rw
set_option Elab.async false
set_option linter.all false
set_option maxRecDepth 100000
set_option maxHeartbeats 4000000
/-! the checks of a machine -/
namespace Rw
open PySem PySem.Spec PyProof.Rows L2
open Raised (Sk at0 Deed DeedOk Mach)
def lowS : Str := Str.ofString "abcdefghijklmnopqrstuvwxyz"
def digS : Str := Str.ofString "0123456789"
/-- the name of a cell or a deed -/
structure GoodName (z : Str) : Prop where
  pos : 0 < z.length
  le : z.length ≤ 12
  hd : ∃ c, z.cps[0]? = some c ∧ c ∈ lowS.cps.toList
  all : ∀ c ∈ z.cps.toList, c ∈ lowS.cps.toList ∨ c ∈ digS.cps.toList
section
variable {P : Program} {w : World} {K : PySem.W.Frag} {mg : Str → Option Value} {base : Heap} {A : Ad}
def spName : Sp := fun vs H Q _ => ∃ z : Str, vs = [.str z] ∧ GoodName z ∧ ∀ H', Same H H' → Q (.bl true) H'
theorem ok_is_name (T : Txt K mg A) : FnOk P w K mg base CX0 1 A.a_is_name A.d_is_name ["text"] spName := by
  obtain ⟨tl, hlow⟩ := T.i_LOWER
  obtain ⟨td, hdig⟩ := T.i_DIGITS
  obtain ⟨tn, hln⟩ := T.i_LONGEST_NAME
  refine T.F_is_name.ok sc_is_name (fun vs H Q E h => ?_) (fun cdv Ar outer s H vs Q E hr h => ?_)
  · obtain ⟨z, rfl, _⟩ := h
    rfl
  · obtain ⟨z, rfl, g, q⟩ := h
    have hsl : z.length ≤ sizeLine := Nat.le_of_lt (small_line (by have := g.le; omega))
    obtain ⟨c0, hc0, hlow0⟩ := g.hd
    refine ⟨_, pss_cons (ps_if (PW.pt (pw_or (pt_cmpR op_eq (pe_callB call_len_str (by rfl) T.z_len PySem.boot_len (pa_cons (pv 0) pa_nil)) pe_int (nomark _))
          (pw_or (pt_cmpR op_gt (pe_callB call_len_str (by rfl) T.z_len PySem.boot_len (pa_cons (pv 0) pa_nil)) (pe_glob (v := .int 12) rfl hln ⟨_, rfl⟩) (nomark _))
          (pw_or1 (pt_cmpR op_notIn_sign (pe_ix ix_str (pv 0) pe_int (fun _ _ => rfl)) (pe_glob (v := .str lowS) rfl hlow ⟨_, rfl⟩) rfl))))) pss_never pss_nil)
      (pss_one (ps_ret (pe_callB (cr_all rfl) (by rfl) T.z_all (by decide +kernel) (pa_cons
        (pe_lc (own := [("char", 1)]) (g := gName 1) (tt := tYes) (te := tOrV (tOp (fun x y H Q => ∃ (c : Nat) (z : Str), x = .str ⟨#[c]⟩ ∧ y = .str z ∧ Q (.bl (decide (c ∈ z.cps.toList))) H) (tVar 1) (tC (.str lowS))) (tOp (fun x y H Q => ∃ (c : Nat) (z : Str), x = .str ⟨#[c]⟩ ∧ y = .str z ∧ Q (.bl (decide (c ∈ z.cps.toList))) H) (tVar 1) (tC (.str digS)))) rfl sc_is_name.nd (pi_str (pv 0))
          (blkOk_by (N := ["text", "char"]) (sc := defScope s_is_name) (by decide +kernel)) (fun _ _ _ _ _ => pg_name (i := 1) sc_is_name.nd rfl (Or.inl rfl)) (fun _ _ _ _ _ => pts_nil)
          (fun _ _ _ _ _ => pe_or (pe_cmpR op_in_sign (pv 1) (pe_glob (v := .str lowS) rfl hlow ⟨_, rfl⟩) rfl) (pe_one (pe_cmpR op_in_sign (pv 1) (pe_glob (v := .str digS) rfl hdig ⟨_, rfl⟩) rfl)))) pa_nil)))), ?_⟩
    refine ⟨_, rfl, z, rfl, hsl, rfl, _, rfl, ?_⟩
    refine ifF (by rw [show decide (V.int (z.length : Int) = V.int 0) = decide (z.length = 0) from vn_eq0]; exact decide_eq_false (Nat.ne_of_gt g.pos)) ?_
    refine ⟨_, rfl, z, rfl, hsl, _, _, rfl, rfl, _, rfl, ifF (decide_eq_false (by have := g.le; omega)) ?_⟩
    refine ⟨_, rfl, z, 0, c0, rfl, rfl, hsl, atI_nat (j := 0) (by rw [Array.getElem?_toList]; exact hc0), c0, lowS, rfl, rfl, _, rfl, ?_⟩
    rw [decide_eq_true hlow0]
    refine iteF ?_
    refine ⟨_, rfl, z, rfl, fun D nD => ?_⟩
    refine lc_it walk_str (fun i H2 => Same H H2 ∧ H2 D = some (.lst ((List.replicate i true).map V.bl))) ⟨same_new nD, upd_same⟩ (fun _ _ _ _ => trivial) ?_ ?_
    · rintro i x H2 H3 hi ⟨sm, eD⟩ ⟨rfl, c, hc, rfl⟩
      have hcm : c ∈ z.cps.toList := List.mem_of_getElem? (by rw [Array.getElem?_toList]; exact hc)
      have fin : ∃ acc, H3 D = some (.lst acc) ∧ acc.length < sizeLine ∧ Same H (upd H3 D (.lst (acc ++ [.bl true]))) ∧ upd H3 D (.lst (acc ++ [.bl true])) D = some (.lst ((List.replicate (i + 1) true).map V.bl)) :=
        ⟨_, eD, small_line (by
          rw [List.length_map, List.length_replicate]
          have h1 : i < z.length := hi
          have := g.le
          omega), same_mut sm nD, by rw [upd_same, List.replicate_succ', List.map_append]; rfl⟩
      refine ⟨rfl, yes_of (iteT ?_)⟩
      refine ⟨_, rfl, c, lowS, rfl, rfl, _, rfl, ?_⟩
      by_cases h1 : c ∈ lowS.cps.toList
      · refine ifT (decide_eq_true h1) fin
      · refine ifF (decide_eq_false h1) ?_
        have h2 := (g.all c hcm).resolve_left h1
        refine ⟨_, rfl, c, digS, rfl, rfl, ?_⟩
        rw [decide_eq_true h2]
        exact fin
    · rintro H2 ⟨sm, eD⟩
      refine ⟨D, _, rfl, SqL.of eD, ?_⟩
      rw [show (List.replicate z.cps.size true).all id = true by simp]
      exact q _ sm
/-! ### _check_names -/
def spNames : Sp := fun vs H Q _ => ∃ (l : Addr) (ns : List Str), vs = [.ref l] ∧ H l = some (.lst (ns.map V.str)) ∧ (∀ z ∈ ns, GoodName z) ∧ ns.Nodup ∧ ns.length ≤ 400 ∧ ∀ H', Same H H' → Q .non H'
theorem ok_check_names (T : Txt K mg A) : FnOk P w K mg base CX0 2 A.a_check_names A.d_check_names ["names"] spNames := by
  have G : FnOk P w K mg base CX0 1 _ _ _ _ := ok_is_name T
  refine T.F_check_names.ok sc_check_names (fun vs H Q E h => ?_) (fun cdv Ar outer s H vs Q E hr h => ?_)
  · obtain ⟨l, ns, rfl, _⟩ := h
    rfl
  · obtain ⟨l, ns, rfl, hl, hg, nd, hn, q⟩ := h
    refine ⟨_, pss_one (ps_if (PW.pt (pw_or (pt_not (pt_val (pe_callB (cr_all rfl) (by rfl) T.z_all (by decide +kernel) (pa_cons
        (pe_lc (own := [("name", 1)]) (g := gName 1) (tt := tYes) (te := tCall spName [] E0 (tCons (tVar 1) tNil)) rfl sc_check_names.nd (pi_list (pv 0)) (blkOk_by (N := ["names", "name"]) (sc := defScope s_check_names) (by decide +kernel))
          (fun _ _ _ _ _ => pg_name (i := 1) sc_check_names.nd rfl (Or.inl rfl)) (fun _ _ _ _ _ => pts_nil) (fun _ _ _ _ _ => pe_call G hr (by rfl) T.g_is_name T.F_is_name.kp T.b_is_name .nil pass0 (pa_cons (pv 1) pa_nil))) pa_nil))))
        (pw_or1 (pt_cmpR op_ne (pe_setLen rfl (by rfl) T.z_len (by rfl) T.z_set (pv 0)) (pe_callB call_len_seq (by rfl) T.z_len PySem.boot_len (pa_cons (pv 0) pa_nil)) (nomark _))))) pss_never pss_nil), ?_⟩
    refine ⟨_, rfl, l, rfl, ⟨_, SqL.of hl⟩, fun D nD => ?_⟩
    refine lc_list (K := K) (a := l) (xs := ns.map V.str) (fun i H2 => Same H H2 ∧ H2 D = some (.lst ((List.replicate i true).map V.bl))) ⟨same_new nD, upd_same⟩ (fun i H2 _ ⟨sm, _⟩ => SqL.of (sm _ _ hl)) ?_ ?_
    · rintro i x H2 hx ⟨sm, eD⟩
      obtain ⟨z, hz, rfl⟩ : ∃ z, ns[i]? = some z ∧ x = .str z := by
        rw [List.getElem?_map] at hx
        cases e : ns[i]? with
        | none => rw [e] at hx; cases hx
        | some z => rw [e] at hx; exact ⟨z, rfl, (Option.some.inj hx).symm⟩
      have hi := (List.getElem?_eq_some_iff.mp hz).1
      refine ⟨rfl, yes_of (iteT ?_)⟩
      refine ⟨_, rfl, z, rfl, hg z (List.mem_of_getElem? hz), fun H3 s3 => ⟨_, s3 _ _ eD, small_line (by rw [List.length_map, List.length_replicate]; omega), same_mut (sm.trans s3) nD, by rw [upd_same, List.replicate_succ', List.map_append]; rfl⟩⟩
    · rintro H2 ⟨sm, eD⟩
      refine ⟨D, _, rfl, SqL.of eD, true, by rw [show (List.replicate (ns.map V.str).length true).all id = true by simp], iteF ?_⟩
      refine ⟨_, rfl, l, ns, rfl, SqL.of (sm _ _ hl), nd, by omega, _, rfl, l, _, rfl, .inl (SqL.of (sm _ _ hl)), rfl, _, rfl, iteNS (by rw [List.length_map]) ?_⟩
      exact q _ sm
/-! ### _check_order -/
def Asc (n : Nat) (cs : List Nat) : Prop := cs.Pairwise (· < ·) ∧ ∀ c ∈ cs, c < n
def spOrder : Sp := fun vs H Q _ => ∃ (a : Addr) (as : List Addr) (cs : List Nat) (n : Nat), vs = [.ref a, vn n] ∧ H a = some (.tup (as.map V.ref)) ∧ All2 (fun x (c : Nat) => ∃ y, H x = some (.tup [vn c, y])) as cs ∧ Asc n cs ∧ Q .non H
theorem ok_check_order (T : Txt K mg A) : FnOk P w K mg base CX0 1 A.a_check_order A.d_check_order ["pairs", "count"] spOrder := by
  refine T.F_check_order.ok sc_check_order (fun vs H Q E h => ?_) (fun cdv Ar outer s H vs Q E hr h => ?_)
  · obtain ⟨a, as, cs, n, rfl, _⟩ := h
    rfl
  · obtain ⟨a, as, cs, n, rfl, ha, hcs, ⟨hp, hc⟩, q⟩ := h
    refine ⟨_, pss_cons (ps_set (i := 2) sc_check_order.nd rfl (.inl rfl) (pe_un un_neg pe_int))
      (pss_one (ps_for PassesOwn.never rfl (pi_tup (pv 0)) (pg_tup rfl (pgs_cons (pg_name (i := 3) sc_check_order.nd rfl (.inl rfl)) (pgs_cons (pg_name (i := 4) sc_check_order.nd rfl (.inl rfl)) pgs_nil)))
        (pss_cons (ps_if (PW.pt (pw_or (pt_cmpR op_le (pv 3) (pv 2) (nomark _)) (pw_or1 (pt_cmpR op_ge (pv 3) (pv 1) (nomark _))))) pss_never pss_nil)
        (pss_one (ps_set (i := 2) sc_check_order.nd rfl (.inl rfl) (pv 3)))))), ?_⟩
    refine ⟨1, rfl, ?_⟩
    refine ⟨_, rfl, a, rfl, ⟨_, SqT.of ha⟩, for_tup (K := K) (a := a) (xs := as.map V.ref) (fun i σ H2 => ∃ (b : Int) (y3 y4 : Option V), σ = [some (.ref a), some (vn n), some (.int b), y3, y4] ∧ H2 = H ∧ (∀ (c : Nat), cs[i]? = some c → b < (c : Int)))
      ⟨-1, none, none, rfl, rfl, fun c _ => by omega⟩ (fun i σ H2 _ ⟨_, _, _, _, e, _⟩ => by rw [e]; exact SqT.of ha) ?_ ?_⟩
    · rintro i x σ H2 hx ⟨b, y3, y4, rfl, rfl, hb⟩
      obtain ⟨p, hpa, rfl⟩ := map_ref_at hx
      obtain ⟨c, hci, y, ep⟩ := hcs.at' hpa
      have hbc := hb c hci
      have hcn := hc c (List.mem_of_getElem? hci)
      refine ⟨p, _, rfl, SqT.of ep, rfl, _, _, rfl, _, _, rfl, rfl, ?_⟩
      refine ⟨_, rfl, _, rfl, _, _, rfl, rfl, _, rfl, ifF (decide_eq_false (by omega)) ?_⟩
      refine ⟨_, rfl, _, rfl, _, _, rfl, rfl, _, rfl, ifF (decide_eq_false (by omega)) ?_⟩
      refine ⟨_, rfl, (c : Int), _, _, rfl, rfl, fun c' hc' => ?_⟩
      obtain ⟨h1, e1⟩ := List.getElem?_eq_some_iff.mp hci
      obtain ⟨h2, e2⟩ := List.getElem?_eq_some_iff.mp hc'
      have := List.pairwise_iff_getElem.mp hp i (i + 1) h1 h2 (Nat.lt_succ_self i)
      rw [e1, e2] at this
      exact Int.ofNat_lt.mpr this
    · rintro σ H2 ⟨b, y3, y4, rfl, rfl, _⟩
      exact q
/-! ### machine._check_deed -/
structure DeedFits (sizes : List Nat) (D : Deed) : Prop where
  g : ∀ p ∈ D.guard, ∃ z, sizes[p.1]? = some z ∧ 0 < p.2 ∧ p.2 < 2 ^ z ∧ z ≤ 1000
  c : ∀ p ∈ D.changes, ∃ z, sizes[p.1]? = some z ∧ p.2 < z
def spCDeed : Sp := fun vs H Q _ => ∃ (v : V) (l g c : Addr) (sizes : List Nat) (D : Deed), vs = [v, .ref l, .ref g, .ref c] ∧ H l = some (.lst (vns sizes)) ∧ PairsAt H g D.guard ∧ ChAt H c D.changes ∧ DeedFits sizes D ∧ Q .non H
theorem ok_check_deed (T : Txt K mg A) : FnOk P w K mg base CX0 2 A.a_Machine_check_deed A.d_Machine_check_deed ["self", "sizes", "guard", "changes"] spCDeed := by
  have G : FnOk P w K mg base CX0 1 _ _ _ _ := ok_is_mask T
  refine T.F_Machine_check_deed.ok sc_Machine_check_deed (fun vs H Q E h => ?_) (fun cdv Ar outer s H vs Q E hr h => ?_)
  · obtain ⟨v, l, g, c, sizes, D, rfl, _⟩ := h
    rfl
  · obtain ⟨v, l, g, c, sizes, D, rfl, hl, ⟨gas, eg, egas⟩, ⟨cas, ec, ecas⟩, hf, q⟩ := h
    refine ⟨_, pss_cons (ps_for PassesOwn.never rfl (pi_tup (pv 2)) (pg_tup rfl (pgs_cons (pg_name (i := 4) sc_Machine_check_deed.nd rfl (.inl rfl)) (pgs_cons (pg_name (i := 5) sc_Machine_check_deed.nd rfl (.inl rfl)) pgs_nil)))
        (pss_one (ps_if (pt_not (pt_val (pe_call G hr (by rfl) T.g_is_mask T.F_is_mask.kp T.b_is_mask .nil pass0 (pa_cons (pv 5) (pa_cons (pe_ix ix_list (pv 1) (pv 4) (fun _ _ => rfl)) pa_nil))))) pss_never pss_nil)))
      (pss_one (ps_for PassesOwn.never rfl (pi_tup (pv 3)) (pg_tup rfl (pgs_cons (pg_name (i := 4) sc_Machine_check_deed.nd rfl (.inl rfl)) (pgs_cons (pg_tup rfl (pgs_cons (pg_name (i := 6) sc_Machine_check_deed.nd rfl (.inl rfl)) (pgs_cons (pg_name (i := 7) sc_Machine_check_deed.nd rfl (.inl rfl)) pgs_nil))) pgs_nil)))
        (pss_cons (ps_if (PW.pt (pw_and (pt_cmpR op_eq (pv 6) pe_str (nomark _)) (pw_and1 (pt_chain op_le op_lt pe_int (pv 7) (pe_ix ix_list (pv 1) (pv 4) (fun _ _ => rfl)))))) (pss_one ps_continue) pss_nil)
        (pss_one ps_never)))), ?_⟩
    refine ⟨_, rfl, g, rfl, ⟨_, SqT.of eg⟩, for_tup (K := K) (a := g) (xs := gas.map V.ref) (fun i σ H2 => ∃ y4 y5, σ = [some v, some (.ref l), some (.ref g), some (.ref c), y4, y5, none, none] ∧ H2 = H) ⟨none, none, rfl, rfl⟩ (fun i σ H2 _ ⟨_, _, _, e⟩ => by rw [e]; exact SqT.of eg) ?_ ?_⟩
    · rintro i x σ H2 hx ⟨y4, y5, rfl, rfl⟩
      obtain ⟨p, hpa, rfl⟩ := map_ref_at hx
      obtain ⟨pr, hpr, ep⟩ := egas.at' hpa
      obtain ⟨z, hz, h0, h1, hz1⟩ := hf.g pr (List.mem_of_getElem? hpr)
      refine ⟨p, _, rfl, SqT.of ep, rfl, _, _, rfl, _, _, rfl, rfl, ?_⟩
      refine ⟨_, rfl, _, rfl, _, rfl, l, _, (pr.1 : Int), vn z, rfl, rfl, SqL.of hl, atI_nat (vns_get hz), pr.2, z, rfl, h0, h1, hz1, _, rfl, iteF ⟨_, _, rfl, rfl⟩⟩
    · rintro σ H2 ⟨y4, y5, rfl, rfl⟩
      refine ⟨_, rfl, c, rfl, ⟨_, SqT.of ec⟩, for_tup (K := K) (a := c) (xs := cas.map V.ref) (fun i σ H3 => ∃ y4 y6 y7, σ = [some v, some (.ref l), some (.ref g), some (.ref c), y4, y5, y6, y7] ∧ H3 = H2) ⟨y4, none, none, rfl, rfl⟩ (fun i σ H3 _ ⟨_, _, _, _, e⟩ => by rw [e]; exact SqT.of ec) ?_ ?_⟩
      · rintro i x σ H3 hx ⟨z4, y6, y7, rfl, rfl⟩
        obtain ⟨p, hpa, rfl⟩ := map_ref_at hx
        obtain ⟨pr, hpr, qa, ep, eq⟩ := ecas.at' hpa
        obtain ⟨z, hz, h1⟩ := hf.c pr (List.mem_of_getElem? hpr)
        refine ⟨p, _, rfl, SqT.of ep, rfl, _, _, rfl, _, _, rfl, ⟨qa, _, rfl, SqT.of eq, rfl, _, _, rfl, _, _, rfl, rfl, rfl, ?_⟩⟩
        refine ⟨_, rfl, rfl, _, rfl, ifT (decide_eq_true rfl) ?_⟩
        refine ⟨_, rfl, _, _, rfl, rfl, _, rfl, ifT (decide_eq_true (by omega)) ?_⟩
        refine ⟨_, rfl, _, rfl, l, _, (pr.1 : Int), vn z, rfl, rfl, SqL.of hl, atI_nat (vns_get hz), _, _, rfl, rfl, _, rfl, ifT (decide_eq_true (Int.ofNat_lt.mpr h1)) ?_⟩
        exact ⟨_, _, _, rfl, rfl⟩
      · rintro σ H3 ⟨z4, y6, y7, rfl, rfl⟩
        exact q
end
end Rw
set_option Elab.async false
set_option linter.all false
set_option maxRecDepth 100000
set_option maxHeartbeats 4000000
/-! Machine(cells, deeds, first) -/
namespace Rw
open PySem PySem.Spec PyProof.Rows L2
open Raised (Sk at0 Deed DeedOk Mach)
/-- a comprehension that lets all stand as it is: what each element is (E), told of the tuples -/
theorem lc_all {J : It} {n : Nat} {G : Hp → Prop} {Y : Nat → Hp → V → Hp → Prop} (wk : Walk J n G Y) {g : TG} {tt : TT} {te : TE} {vs : List Nat} {σ : L2.St} {H1 : Hp} {D : Addr} {Qd : Hp → Prop} (nD : H1 D = none) (hn : n ≤ 10000) (hG : ∀ H, Same H1 H → G H)
    (E : Nat → V → Hp → Prop) (hE : ∀ i y H H', TK H H' → E i y H → E i y H')
    (hs : ∀ i x H H' (R : V → Hp → Prop) (N : Hp → Prop), i < n → Same H1 H → Y i H x H' → (∀ y H4, Same H H4 → E i y H4 → R y H4) → g x (wipe σ vs) H' fun σ2 H2 => wipe σ2 vs = wipe σ vs ∧ tt σ2 H2 fun b H3 => if b = true then te σ2 H3 R else N H3)
    (hd : ∀ H (ys : List V), Same H1 H → H D = some (.lst ys) → ys.length = n → (∀ (i : Nat) (y : V), ys[i]? = some y → E i y H) → Qd H) :
    ∃ W : Nat → Nat → Hp → Prop, (∃ m, W 0 m (upd H1 D (.lst []))) ∧ ∀ i m H, W i m H →
      (J.stop i H ∧ Qd H) ∨ (J.go i H ∧ ∃ Nx : Hp → Prop, (∀ H', Nx H' → ∃ m', m' < m ∧ W (i + 1) m' H') ∧ ∀ x H', J.yld i H x H' → g x (wipe σ vs) H' fun σ2 H2 => wipe σ2 vs = wipe σ vs ∧ tt σ2 H2 fun b H3 =>
        if b = true then te σ2 H3 fun y H4 => ∃ acc, H4 D = some (.lst acc) ∧ acc.length < sizeLine ∧ Nx (upd H4 D (.lst (acc ++ [y]))) else Nx H3) := by
  refine lc_it wk (fun i H => Same H1 H ∧ ∃ ys : List V, H D = some (.lst ys) ∧ ys.length = i ∧ ∀ (j : Nat) (y : V), ys[j]? = some y → E j y H) ⟨same_new nD, [], upd_same, rfl, fun j y h => by simp at h⟩ (fun i H _ ⟨sm, _⟩ => hG H sm) ?_ ?_
  · rintro i x H H' hi ⟨sm, ys, eD, hys, hall⟩ hy
    refine hs i x H H' _ _ hi sm hy fun y H4 s4 e4 => ⟨ys, s4 _ _ eD, small_line (by omega), same_mut (sm.trans s4) nD, ys ++ [y], upd_same, by rw [List.length_append, hys]; rfl, fun j z hz => ?_⟩
    have t5 := tk_lst (o := .lst (ys ++ [y])) (s4 _ _ eD)
    by_cases hj : j < ys.length
    · rw [List.getElem?_append_left hj] at hz
      exact hE j z _ _ ((same_tk s4).trans t5) (hall j z hz)
    · obtain ⟨h1, _⟩ := List.getElem?_eq_some_iff.mp hz
      rw [List.length_append] at h1
      have ej : j = ys.length := by simp at h1; omega
      subst ej
      rw [List.getElem?_append_right (Nat.le_refl _)] at hz
      simp at hz
      subst hz
      rw [hys]
      exact hE i y _ _ t5 e4
  · rintro H ⟨sm, ys, eD, hys, hall⟩
    exact hd H ys sm eD hys hall
theorem walk_zk {k1 k2 : Bool} {K : PySem.W.Frag} {a b : Addr} {xs ys : List V} (hl : xs.length = ys.length) : Walk (Izk k1 k2 K a b) xs.length (fun H => SqK k1 K H a xs ∧ SqK k2 K H b ys) (YPair (fun i => xs[i]?) (fun i => ys[i]?)) := by
  refine ⟨fun i H hi ⟨qx, qy⟩ => ⟨xs, ys, xs[i], ys[i]'(by omega), qx, qy, List.getElem?_eq_getElem _, List.getElem?_eq_getElem _⟩, fun H ⟨qx, qy⟩ => ⟨xs, ys, qx, qy, by rw [← hl, Nat.min_self]⟩, ?_⟩
  rintro i H x H' hi ⟨qx, qy⟩ ⟨T, x', y', rfl, hT, rfl, f1, f2⟩
  exact ⟨T, x', y', rfl, hT, rfl, f1 xs qx, f2 ys qy⟩
theorem eq_of_get {ys zs : List V} (hl : ys.length = zs.length) (h : ∀ (i : Nat) (y : V), ys[i]? = some y → zs[i]? = some y) : ys = zs := by
  apply List.ext_getElem? 
  intro i
  by_cases hi : i < ys.length
  · rw [List.getElem?_eq_getElem hi, h i _ (List.getElem?_eq_getElem hi)]
  · rw [List.getElem?_eq_none (by omega), List.getElem?_eq_none (by omega)]
structure MInput (cellz : List (Str × Nat)) (deedz : List (Str × Deed)) (first : Sk) : Prop where
  n1 : 1 ≤ cellz.length
  n2 : cellz.length ≤ 24
  good : ∀ z ∈ cellz.map (·.1), GoodName z
  nd : (cellz.map (·.1)).Nodup
  sz : ∀ z ∈ cellz.map (·.2), 1 ≤ z ∧ z ≤ 16
  d4 : deedz.length ≤ 400
  dgood : ∀ z ∈ deedz.map (·.1), GoodName z
  dnd : (deedz.map (·.1)).Nodup
  asc : ∀ p ∈ deedz, Asc cellz.length (p.2.guard.map (·.1)) ∧ Asc cellz.length (p.2.changes.map (·.1)) ∧ DeedFits (cellz.map (·.2)) p.2
  first : OkSk (cellz.map (·.2)) first
def CellL (H : Hp) (l : Addr) (cellz : List (Str × Nat)) : Prop := ∃ as : List Addr, H l = some (.lst (as.map V.ref)) ∧ All2 (fun x (p : Str × Nat) => H x = some (.tup [.str p.1, vn p.2])) as cellz
def DeedL (H : Hp) (l : Addr) (deedz : List (Str × Deed)) : Prop := ∃ as : List Addr, H l = some (.lst (as.map V.ref)) ∧ All2 (fun x (p : Str × Deed) => DeedAt H x p.1 p.2) as deedz
def spMInit (A : Ad) : Sp := fun vs H Q _ => ∃ (p dx cl dl ff : Addr) (cellz : List (Str × Nat)) (deedz : List (Str × Deed)) (first : Sk), vs = [.ref p, .ref cl, .ref dl, .ref ff] ∧ H p = some (.ins A.c_Machine dx []) ∧ CellL H cl cellz ∧ DeedL H dl deedz ∧ SkAt H ff first ∧ MInput cellz deedz first ∧
  ∀ H' cc dd, Kp [p] H H' → TK H H' → MachAt A.c_Machine H' p cc dd ff (cellz.map (·.2)) ⟨(cellz.map (·.2)).map fun z => 2 ^ z - 1, first, deedz.map (·.2)⟩ → Q .non H'
section
variable {P : Program} {w : World} {K : PySem.W.Frag} {mg : Str → Option Value} {base : Heap} {A : Ad}
theorem pairs_cells {H : Hp} {g : Addr} {ps : List (Nat × Nat)} (h : PairsAt H g ps) : ∃ as : List Addr, H g = some (.tup (as.map V.ref)) ∧ All2 (fun x (c : Nat) => ∃ y, H x = some (.tup [vn c, y])) as (ps.map (·.1)) := by
  obtain ⟨as, h1, h2⟩ := h
  refine ⟨as, h1, by rw [List.length_map]; exact h2.1, fun i x c hx hc => ?_⟩
  rw [List.getElem?_map] at hc
  cases e : ps[i]? with
  | none => rw [e] at hc; cases hc
  | some p => rw [e] at hc; cases hc; exact ⟨_, h2.2 i x p hx e⟩
theorem ch_cells {H : Hp} {g : Addr} {ps : List (Nat × Nat)} (h : ChAt H g ps) : ∃ as : List Addr, H g = some (.tup (as.map V.ref)) ∧ All2 (fun x (c : Nat) => ∃ y, H x = some (.tup [vn c, y])) as (ps.map (·.1)) := by
  obtain ⟨as, h1, h2⟩ := h
  refine ⟨as, h1, by rw [List.length_map]; exact h2.1, fun i x c hx hc => ?_⟩
  rw [List.getElem?_map] at hc
  cases e : ps[i]? with
  | none => rw [e] at hc; cases hc
  | some p => rw [e] at hc; cases hc; obtain ⟨q, e1, _⟩ := h2.2 i x p hx e; exact ⟨_, e1⟩
theorem ok_minit (T : Txt K mg A) : FnOk P w K mg base CX0 3 A.a_Machine_init A.d_Machine_init ["self", "cells", "deeds", "first"] (spMInit A) := by
  have GN : FnOk P w K mg base CX0 2 _ _ _ _ := ok_check_names T
  have GO : FnOk P w K mg base CX0 1 _ _ _ _ := ok_check_order T
  have GC : FnOk P w K mg base CX0 2 _ _ _ _ := ok_check_deed T
  have GM : FnOk P w K mg base CX0 1 _ _ _ _ := ok_is_mask T
  obtain ⟨t1, hmc⟩ := T.i_MOST_CELLS
  obtain ⟨t2, hmd⟩ := T.i_MOST_DEEDS
  obtain ⟨t3, hmv⟩ := T.i_MOST_VALUES
  have nd := sc_Machine_init.nd
  refine T.F_Machine_init.ok sc_Machine_init (fun vs H Q E h => ?_) (fun cdv Ar outer s H vs Q E hr h => ?_)
  · obtain ⟨p, dx, cl, dl, ff, cellz, deedz, first, rfl, _⟩ := h
    rfl
  · obtain ⟨p, dx, cl, dl, ff, cellz, deedz, first, rfl, hp, ⟨cas, ecl, ecas⟩, ⟨das, edl, edas⟩, hff, mi, q⟩ := h
    have hr1 : Room 1 _ := hr.mono (by decide)
    refine ⟨_, pss_cons (ps_if (PW.pt (pw_or (pt_cmpR op_lt (pe_callB call_len_seq (by rfl) T.z_len PySem.boot_len (pa_cons (pv 1) pa_nil)) pe_int (nomark _))
          (pw_or (pt_cmpR op_gt (pe_callB call_len_seq (by rfl) T.z_len PySem.boot_len (pa_cons (pv 1) pa_nil)) (pe_glob (v := .int 24) rfl hmc ⟨_, rfl⟩) (nomark _))
          (pw_or1 (pt_cmpR op_gt (pe_callB call_len_seq (by rfl) T.z_len PySem.boot_len (pa_cons (pv 2) pa_nil)) (pe_glob (v := .int 400) rfl hmd ⟨_, rfl⟩) (nomark _)))))) pss_never pss_nil)
      (pss_cons (ps_expr (pe_call GN hr (by rfl) T.g_check_names T.F_check_names.kp T.b_check_names .nil pass0 (pa_cons
          (pe_lc (own := [("name", 8), ("_", 5)]) (g := gTup K 2 (gCons (gName 8) (gCons (gName 5) gNil))) (tt := tYes) (te := tVar 8) rfl nd (pi_list (pv 1)) (blkOk_any (N := ["self", "cells", "deeds", "first", "sizes", "_", "guard", "changes", "name", "size", "deed", "mask"]) (by decide +kernel))
            (fun _ _ _ _ _ => pg_tup rfl (pgs_cons (pg_name (i := 8) nd rfl (Or.inl rfl)) (pgs_cons (pg_name (i := 5) nd rfl (Or.inl rfl)) pgs_nil))) (fun _ _ _ _ _ => pts_nil) (fun _ _ _ _ _ => pv 8)) pa_nil)))
      (pss_cons (ps_setLc (i := 4) (own := [("_", 5), ("size", 9)]) (g := gTup K 2 (gCons (gName 5) (gCons (gName 9) gNil))) (tt := tYes) (te := tVar 9) rfl nd rfl rfl (sw_true rfl rfl rfl (by decide +kernel)) (pi_list (pv 1)) (blkOk_any (N := ["self", "cells", "deeds", "first", "sizes", "_", "guard", "changes", "name", "size", "deed", "mask"]) (by decide +kernel))
            (fun _ _ _ _ _ => pg_tup rfl (pgs_cons (pg_name (i := 5) nd rfl (Or.inl rfl)) (pgs_cons (pg_name (i := 9) nd rfl (Or.inl rfl)) pgs_nil))) (fun _ _ _ _ _ => pts_nil) (fun _ _ _ _ _ => pv 9))
      (pss_cons (ps_if (pt_not (pt_val (pe_callB (cr_all rfl) (by rfl) T.z_all (by decide +kernel) (pa_cons
          (pe_lc (own := [("size", 9)]) (g := gName 9) (tt := tYes) (te := tChain (rI0 fun i j => .bl (decide (i ≤ j))) (rI0 fun i j => .bl (decide (i ≤ j))) (tC (.int 1)) (tVar 9) (tC (.int 16))) rfl nd (pi_list (pv 4)) (blkOk_any (N := ["self", "cells", "deeds", "first", "sizes", "_", "guard", "changes", "name", "size", "deed", "mask"]) (by decide +kernel))
            (fun _ _ _ _ _ => pg_name (i := 9) nd rfl (Or.inl rfl)) (fun _ _ _ _ _ => pts_nil) (fun _ _ _ _ _ => pe_chain op_le op_le pe_int (pv 9) (pe_glob (v := .int 16) rfl hmv ⟨_, rfl⟩))) pa_nil)))) pss_never pss_nil)
      (pss_cons (ps_expr (pe_call GN hr (by rfl) T.g_check_names T.F_check_names.kp T.b_check_names .nil pass0 (pa_cons
          (pe_lc (own := [("deed", 10)]) (g := gName 10) (tt := tYes) (te := tOp (rIxT K) (tVar 10) (tC (.int 0))) rfl nd (pi_list (pv 2)) (blkOk_any (N := ["self", "cells", "deeds", "first", "sizes", "_", "guard", "changes", "name", "size", "deed", "mask"]) (by decide +kernel))
            (fun _ _ _ _ _ => pg_name (i := 10) nd rfl (Or.inl rfl)) (fun _ _ _ _ _ => pts_nil) (fun _ _ _ _ _ => pe_ix ix_tup (pv 10) pe_int (fun _ _ => rfl))) pa_nil)))
      (pss_cons (ps_for PassesOwn.never rfl (pi_list (pv 2)) (pg_tup rfl (pgs_cons (pg_name (i := 5) nd rfl (.inl rfl)) (pgs_cons (pg_name (i := 6) nd rfl (.inl rfl)) (pgs_cons (pg_name (i := 7) nd rfl (.inl rfl)) pgs_nil))))
        (pss_cons (ps_expr (pe_call GO hr1 (by rfl) T.g_check_order T.F_check_order.kp T.b_check_order .nil pass0 (pa_cons (pv 6) (pa_cons (pe_callB call_len_seq (by rfl) T.z_len PySem.boot_len (pa_cons (pv 1) pa_nil)) pa_nil))))
        (pss_cons (ps_expr (pe_call GO hr1 (by rfl) T.g_check_order T.F_check_order.kp T.b_check_order .nil pass0 (pa_cons (pv 7) (pa_cons (pe_callB call_len_seq (by rfl) T.z_len PySem.boot_len (pa_cons (pv 1) pa_nil)) pa_nil))))
        (pss_one (ps_expr (pe_meth (pv 0) T.cl_Machine T.m_Machine_check_deed GC hr T.b_Machine_check_deed .nil pass0 (pa_cons (pv 4) (pa_cons (pv 6) (pa_cons (pv 7) pa_nil)))))))))
      (pss_cons (ps_if (PW.pt (pw_or (pt_cmpR op_ne (pe_callB call_len_seq (by rfl) T.z_len PySem.boot_len (pa_cons (pv 3) pa_nil)) (pe_callB call_len_seq (by rfl) T.z_len PySem.boot_len (pa_cons (pv 1) pa_nil)) (nomark _))
          (pw_or1 (pt_not (pt_val (pe_callB (cr_all rfl) (by rfl) T.z_all (by decide +kernel) (pa_cons
            (pe_lc (own := [("mask", 11), ("size", 9)]) (g := gTup K 2 (gCons (gName 11) (gCons (gName 9) gNil))) (tt := tYes) (te := tCall spIsMask [] E0 (tCons (tVar 11) (tCons (tVar 9) tNil))) rfl nd (pi_zk false true (by rfl) T.z_zip (pa_cons (pv 3) (pa_cons (pv 4) pa_nil))) (blkOk_any (N := ["self", "cells", "deeds", "first", "sizes", "_", "guard", "changes", "name", "size", "deed", "mask"]) (by decide +kernel))
              (fun _ _ _ _ _ => pg_tup rfl (pgs_cons (pg_name (i := 11) nd rfl (Or.inl rfl)) (pgs_cons (pg_name (i := 9) nd rfl (Or.inl rfl)) pgs_nil))) (fun _ _ _ _ _ => pts_nil) (fun _ _ _ _ _ => pe_call GM hr1 (by rfl) T.g_is_mask T.F_is_mask.kp T.b_is_mask .nil pass0 (pa_cons (pv 11) (pa_cons (pv 9) pa_nil)))) pa_nil))))))) pss_never pss_nil)
      (pss_cons (ps_fld (pv 0) (pe_callTy call_tuple_of (by rfl) T.z_tuple (by decide +kernel) (pa_cons
          (pe_lc (own := [("name", 8), ("size", 9)]) (g := gTup K 2 (gCons (gName 8) (gCons (gName 9) gNil))) (tt := tYes) (te := tTup (tCons (tVar 8) (tCons (tVar 9) tNil))) rfl nd (pi_list (pv 1)) (blkOk_any (N := ["self", "cells", "deeds", "first", "sizes", "_", "guard", "changes", "name", "size", "deed", "mask"]) (by decide +kernel))
            (fun _ _ _ _ _ => pg_tup rfl (pgs_cons (pg_name (i := 8) nd rfl (Or.inl rfl)) (pgs_cons (pg_name (i := 9) nd rfl (Or.inl rfl)) pgs_nil))) (fun _ _ _ _ _ => pts_nil) (fun _ _ _ _ _ => pe_tup (pa_cons (pv 8) (pa_cons (pv 9) pa_nil)))) pa_nil)) rfl)
      (pss_cons (ps_fld (pv 0) (pe_callTy call_tuple_of (by rfl) T.z_tuple (by decide +kernel) (pa_cons
          (pe_lc (own := [("name", 8), ("guard", 6), ("changes", 7)]) (g := gTup K 3 (gCons (gName 8) (gCons (gName 6) (gCons (gName 7) gNil)))) (tt := tYes) (te := tTup (tCons (tVar 8) (tCons (tCB (rTupOf K) (tCons (tVar 6) tNil)) (tCons (tCB (rTupOf K) (tCons (tVar 7) tNil)) tNil)))) rfl nd (pi_list (pv 2)) (blkOk_any (N := ["self", "cells", "deeds", "first", "sizes", "_", "guard", "changes", "name", "size", "deed", "mask"]) (by decide +kernel))
            (fun _ _ _ _ _ => pg_tup rfl (pgs_cons (pg_name (i := 8) nd rfl (Or.inl rfl)) (pgs_cons (pg_name (i := 6) nd rfl (Or.inl rfl)) (pgs_cons (pg_name (i := 7) nd rfl (Or.inl rfl)) pgs_nil)))) (fun _ _ _ _ _ => pts_nil)
            (fun _ _ _ _ _ => pe_tup (pa_cons (pv 8) (pa_cons (pe_callTy call_tuple_of (by rfl) T.z_tuple (by decide +kernel) (pa_cons (pv 6) pa_nil)) (pa_cons (pe_callTy call_tuple_of (by rfl) T.z_tuple (by decide +kernel) (pa_cons (pv 7) pa_nil)) pa_nil))))) pa_nil)) rfl)
      (pss_one (ps_fld (pv 0) (pe_callTy call_tuple_of (by rfl) T.z_tuple (by decide +kernel) (pa_cons (pv 3) pa_nil)) rfl)))))))))), ?_⟩
    have lcas : (cas.map V.ref).length = cellz.length := by rw [List.length_map, ecas.1]
    have ldas : (das.map V.ref).length = deedz.length := by rw [List.length_map, edas.1]
    -- the lengths
    refine ⟨_, rfl, cl, _, rfl, .inl (SqL.of ecl), _, _, rfl, rfl, _, rfl, ifF (decide_eq_false (by rw [lcas]; have := mi.n1; omega)) ?_⟩
    refine ⟨_, rfl, cl, _, rfl, .inl (SqL.of ecl), _, _, rfl, rfl, _, rfl, ifF (decide_eq_false (by rw [lcas]; have := mi.n2; omega)) ?_⟩
    refine ⟨_, rfl, dl, _, rfl, .inl (SqL.of edl), _, _, rfl, rfl, _, rfl, ?_⟩
    rw [decide_eq_false (by rw [ldas]; have := mi.d4; omega)]
    refine iteF ?_
    -- the cells' names
    refine ⟨_, rfl, cl, rfl, ⟨_, SqL.of ecl⟩, fun D nD => ?_⟩
    refine lc_all (walk_list (K := K) (a := cl) (xs := cas.map V.ref)) nD (by rw [lcas]; have := mi.n2; omega) (fun H' sm => SqL.of (sm _ _ ecl)) (fun i y _ => ((cellz.map (·.1)).map V.str)[i]? = some y) (fun _ _ _ _ _ h => h) ?_ ?_
    · rintro i x H2 H3 R N hi sm ⟨rfl, hx⟩ hR
      obtain ⟨a, ha, rfl⟩ := map_ref_at hx
      obtain ⟨pr, hpr, ea⟩ := ecas.at' ha
      refine ⟨a, _, rfl, SqT.of (sm _ _ ea), rfl, _, _, rfl, _, _, rfl, rfl, rfl, yes_of (iteT ⟨_, rfl, hR _ _ (Same.refl _) ?_⟩)⟩
      rw [List.getElem?_map, List.getElem?_map, hpr]; rfl
    intro H1 ys s1 eD hys hall
    have ey : ys = (cellz.map (·.1)).map V.str := eq_of_get (by rw [hys, lcas]; simp) hall
    refine ⟨D, _, rfl, by rw [eD, ey], mi.good, mi.nd, by rw [List.length_map]; have := mi.n2; omega, fun H2 s2 => ?_⟩
    have s12 := s1.trans s2
    clear ey hall hys ys eD nD D
    -- sizes
    refine ⟨_, rfl, cl, rfl, ⟨_, SqL.of (s12 _ _ ecl)⟩, fun L nL => ?_⟩
    refine lc_all (walk_list (K := K) (a := cl) (xs := cas.map V.ref)) nL (by rw [lcas]; have := mi.n2; omega) (fun H' sm => SqL.of (sm _ _ (s12 _ _ ecl))) (fun i y _ => (vns (cellz.map (·.2)))[i]? = some y) (fun _ _ _ _ _ h => h) ?_ ?_
    · rintro i x H3 H4 R N hi sm ⟨rfl, hx⟩ hR
      obtain ⟨a, ha, rfl⟩ := map_ref_at hx
      obtain ⟨pr, hpr, ea⟩ := ecas.at' ha
      refine ⟨a, _, rfl, SqT.of (sm _ _ (s12 _ _ ea)), rfl, _, _, rfl, _, _, rfl, rfl, rfl, yes_of (iteT ⟨_, rfl, hR _ _ (Same.refl _) ?_⟩)⟩
      exact vns_get (by rw [List.getElem?_map, hpr]; rfl)
    intro H3 ys s3 eL0 hys hall
    have ey : ys = vns (cellz.map (·.2)) := eq_of_get (by rw [hys, lcas, vns_len]; simp) hall
    have eL : H3 L = some (.lst (vns (cellz.map (·.2)))) := by rw [eL0, ey]
    have s13 := s12.trans s3
    clear ey hall hys eL0 ys
    -- all([1 <= size ..])
    refine ⟨_, rfl, L, rfl, ⟨_, SqL.of eL⟩, fun D nD => ?_⟩
    refine lc_all (walk_list (K := K) (a := L) (xs := vns (cellz.map (·.2)))) nD (by rw [vns_len, List.length_map]; have := mi.n2; omega) (fun H' sm => SqL.of (sm _ _ eL)) (fun i y _ => y = .bl true) (fun _ _ _ _ _ h => h) ?_ ?_
    · rintro i x H4 H5 R N hi sm ⟨rfl, hx⟩ hR
      obtain ⟨z, hz, rfl⟩ := vns_at hx
      obtain ⟨h1, h2⟩ := mi.sz z (List.mem_of_getElem? hz)
      refine ⟨rfl, yes_of (iteT ?_)⟩
      refine ⟨_, rfl, _, _, rfl, rfl, _, rfl, ifT (decide_eq_true (by omega)) ⟨_, _, rfl, rfl, hR _ _ (Same.refl _) (congrArg V.bl (decide_eq_true (show (z:Int) ≤ 16 by omega)))⟩⟩
    intro H4 ys s4 eD hys hall
    have ey : ys = (List.replicate (vns (cellz.map (·.2))).length true).map V.bl := eq_of_get (by rw [hys]; simp) fun i y hy => by
      have hi := (List.getElem?_eq_some_iff.mp hy).1
      rw [hall i y hy, List.getElem?_map, List.getElem?_replicate, if_pos (by omega)]; rfl
    refine ⟨D, List.replicate (vns (cellz.map (·.2))).length true, rfl, SqL.of (by rw [eD, ey]), true, by rw [show (List.replicate (vns (cellz.map (·.2))).length true).all id = true by simp], iteF ?_⟩
    have s14 := s13.trans s4
    have eL4 := s4 _ _ eL
    clear ey hall hys ys eD nD D
    -- the deeds' names
    refine ⟨_, rfl, dl, rfl, ⟨_, SqL.of (s14 _ _ edl)⟩, fun D nD => ?_⟩
    refine lc_all (walk_list (K := K) (a := dl) (xs := das.map V.ref)) nD (by rw [ldas]; have := mi.d4; omega) (fun H' sm => SqL.of (sm _ _ (s14 _ _ edl))) (fun i y _ => ((deedz.map (·.1)).map V.str)[i]? = some y) (fun _ _ _ _ _ h => h) ?_ ?_
    · rintro i x H5 H6 R N hi sm ⟨rfl, hx⟩ hR
      obtain ⟨a, ha, rfl⟩ := map_ref_at hx
      obtain ⟨pr, hpr, g, c, ea, _⟩ := edas.at' ha
      refine ⟨rfl, yes_of (iteT ?_)⟩
      refine ⟨_, rfl, a, _, 0, .str pr.1, rfl, rfl, SqT.of (sm _ _ (s14 _ _ ea)), atI_nat (j := 0) rfl, hR _ _ (Same.refl _) ?_⟩
      rw [List.getElem?_map, List.getElem?_map, hpr]; rfl
    intro H5 ys s5 eD hys hall
    have ey : ys = (deedz.map (·.1)).map V.str := eq_of_get (by rw [hys, ldas]; simp) hall
    refine ⟨D, _, rfl, by rw [eD, ey], mi.dgood, mi.dnd, by rw [List.length_map]; exact mi.d4, fun H6 s6 => ?_⟩
    have s16 := s14.trans (s5.trans s6)
    have eL6 := s6 _ _ (s5 _ _ eL4)
    clear ey hall hys ys eD nD D
    -- the deeds
    refine ⟨_, rfl, dl, rfl, ⟨_, SqL.of (s16 _ _ edl)⟩, for_list (K := K) (a := dl) (xs := das.map V.ref) (fun i σ H7 => ∃ y5 y6 y7, σ = [some (.ref p), some (.ref cl), some (.ref dl), some (.ref ff), some (.ref L), y5, y6, y7, none, none, none, none] ∧ H7 = H6) ⟨none, none, none, rfl, rfl⟩ (fun i σ H7 _ ⟨_, _, _, _, e⟩ => by rw [e]; exact SqL.of (s16 _ _ edl)) ?_ ?_⟩
    · rintro i x σ H7 hx ⟨y5, y6, y7, rfl, rfl⟩
      obtain ⟨a, ha, rfl⟩ := map_ref_at hx
      obtain ⟨pr, hpr, dat⟩ := edas.at' ha
      obtain ⟨g, c, ea, eg, ec⟩ := dat.tk (same_tk s16)
      obtain ⟨m1, m2, m3⟩ := mi.asc pr (List.mem_of_getElem? hpr)
      obtain ⟨gas, eg1, eg2⟩ := pairs_cells eg
      obtain ⟨chas, ec1, ec2⟩ := ch_cells ec
      refine ⟨a, _, rfl, SqT.of ea, rfl, _, _, rfl, _, _, rfl, _, _, rfl, rfl, ?_⟩
      refine ⟨_, rfl, _, rfl, cl, _, rfl, .inl (SqL.of (s16 _ _ ecl)), g, gas, _, cellz.length, by rw [lcas]; rfl, eg1, eg2, m1, ?_⟩
      refine ⟨_, rfl, _, rfl, cl, _, rfl, .inl (SqL.of (s16 _ _ ecl)), c, chas, _, cellz.length, by rw [lcas]; rfl, ec1, ec2, m2, ?_⟩
      refine ⟨_, rfl, p, dx, _, rfl, s16 _ _ hp, rfl, _, rfl, _, rfl, _, rfl, _, L, g, c, _, pr.2, rfl, eL6, eg, ec, m3, ?_⟩
      exact ⟨_, _, _, rfl, rfl⟩
    rintro σ H7 ⟨y5, y6, y7, rfl, rfl⟩
    -- the first sketch
    have hlf : (vns first).length = (vns (cellz.map (·.2))).length := by rw [vns_len, vns_len]; exact mi.first.1
    refine ⟨_, rfl, ff, _, rfl, .inr (SkAt.sq (s16 _ _ hff)), _, rfl, cl, _, rfl, .inl (SqL.of (s16 _ _ ecl)), rfl, _, rfl, ?_⟩
    refine iteNS (by rw [vns_len, lcas, mi.first.1, List.length_map]) ?_
    refine ⟨_, rfl, _, rfl, ff, L, vns first, vns (cellz.map (·.2)), rfl, sqk_tup (s16 _ _ hff), sqk_lst eL6, fun D nD => ?_⟩
    refine lc_all (walk_zk hlf) nD (by rw [hlf, vns_len, List.length_map]; have := mi.n2; omega) (fun H' sm => ⟨sqk_tup (sm _ _ (s16 _ _ hff)), sqk_lst (sm _ _ eL6)⟩) (fun i y _ => y = .bl true) (fun _ _ _ _ _ h => h) ?_ ?_
    · rintro i x H8 H9 R N hi sm ⟨T', x', y', rfl, nT, rfl, hx, hy⟩ hR
      obtain ⟨k, hk, rfl⟩ := vns_at hx
      obtain ⟨z, hz, rfl⟩ := vns_at hy
      obtain ⟨h0, h1⟩ := mi.first.2 i k z hk hz
      refine ⟨T', _, rfl, SqT.of upd_same, rfl, _, _, rfl, _, _, rfl, rfl, rfl, yes_of (iteT ?_)⟩
      exact ⟨_, rfl, _, rfl, k, z, rfl, h0, h1, Nat.le_trans (mi.sz z (List.mem_of_getElem? hz)).2 (by decide), hR _ _ (same_new nT) rfl⟩
    intro H8 ys s8 eD hys hall
    have ey : ys = (List.replicate (vns first).length true).map V.bl := eq_of_get (by rw [hys]; simp) fun i y hy => by
      have hi := (List.getElem?_eq_some_iff.mp hy).1
      rw [hall i y hy, List.getElem?_map, List.getElem?_replicate, if_pos (by omega)]; rfl
    refine ⟨D, List.replicate (vns first).length true, rfl, SqL.of (by rw [eD, ey]), true, by rw [show (List.replicate (vns first).length true).all id = true by simp], iteF ?_⟩
    have s18 := s16.trans s8
    clear ey hall hys ys eD nD D
    -- self.cells
    refine ⟨_, rfl, cl, rfl, ⟨_, SqL.of (s18 _ _ ecl)⟩, fun D nD => ?_⟩
    refine lc_all (walk_list (K := K) (a := cl) (xs := cas.map V.ref)) nD (by rw [lcas]; have := mi.n2; omega) (fun H' sm => SqL.of (sm _ _ (s18 _ _ ecl))) (fun i y H' => ∃ (t : Addr) (pr : Str × Nat), cellz[i]? = some pr ∧ y = .ref t ∧ H' t = some (.tup [.str pr.1, vn pr.2])) (fun i y H H' tk ⟨t, pr, h1, h2, h3⟩ => ⟨t, pr, h1, h2, tk _ _ h3⟩) ?_ ?_
    · rintro i x H9 H10 R N hi sm ⟨rfl, hx⟩ hR
      obtain ⟨a, ha, rfl⟩ := map_ref_at hx
      obtain ⟨pr, hpr, ea⟩ := ecas.at' ha
      refine ⟨a, _, rfl, SqT.of (sm _ _ (s18 _ _ ea)), rfl, _, _, rfl, _, _, rfl, rfl, rfl, yes_of (iteT ?_)⟩
      exact ⟨_, rfl, _, rfl, by show 2 ≤ sizeLine; rw [sizeLine_eq]; decide, fun t nt => hR _ _ (same_new nt) ⟨t, pr, hpr, rfl, upd_same⟩⟩
    intro H9 cys s9 eD hcys hcall
    refine ⟨D, _, rfl, .inl ⟨SqL.of eD, fun cc ncc => ?_⟩⟩
    have s19 := s18.trans (s9.trans (same_new (o := .tup cys) ncc))
    have ecc : upd H9 cc (.tup cys) cc = some (.tup cys) := upd_same
    have hcall' : ∀ (i : Nat) (y : V), cys[i]? = some y → ∃ (t : Addr) (pr : Str × Nat), cellz[i]? = some pr ∧ y = .ref t ∧ upd H9 cc (.tup cys) t = some (.tup [.str pr.1, vn pr.2]) := fun i y hy => by
      obtain ⟨t, pr, h1, h2, h3⟩ := hcall i y hy
      exact ⟨t, pr, h1, h2, tk_new ncc _ _ h3⟩
    refine ⟨_, rfl, p, A.c_Machine, dx, _, rfl, s19 _ _ hp, T.cl_Machine, T.n_Machine_cells, by show 0 < 1000; decide, ?_⟩
    generalize upd H9 cc (.tup cys) = H10 at s19 ecc hcall' ⊢
    have t11 := tk_ins (o := .ins A.c_Machine dx (putF (Str.ofString "cells") (.ref cc) [])) (s19 _ _ hp)
    have k11 := (Kp.of (ps := [p]) s19).set (o := .ins A.c_Machine dx (putF (Str.ofString "cells") (.ref cc) [])) (List.mem_singleton_self p)
    have tk11 := (same_tk s19).trans t11
    have p11 : upd H10 p (.ins A.c_Machine dx (putF (Str.ofString "cells") (.ref cc) [])) p = _ := upd_same
    generalize upd H10 p (.ins A.c_Machine dx (putF (Str.ofString "cells") (.ref cc) [])) = H11 at t11 k11 tk11 p11 ⊢
    have off : ∀ {b : Addr}, b ≠ p → b ∉ [p] := fun h z => h (List.mem_singleton.mp z)
    have edl11 := k11 _ _ edl (off (lst_ne_ins edl hp))
    clear eD nD D
    -- self.deeds
    refine ⟨_, rfl, dl, rfl, ⟨_, SqL.of edl11⟩, fun D nD => ?_⟩
    refine lc_all (walk_list (K := K) (a := dl) (xs := das.map V.ref)) nD (by rw [ldas]; have := mi.d4; omega) (fun H' sm => SqL.of (sm _ _ edl11)) (fun i y H' => ∃ (t : Addr) (pr : Str × Deed), deedz[i]? = some pr ∧ y = .ref t ∧ DeedAt H' t pr.1 pr.2) (fun i y H H' tk ⟨t, pr, h1, h2, h3⟩ => ⟨t, pr, h1, h2, h3.tk tk⟩) ?_ ?_
    · rintro i x H12 H13 R N hi sm ⟨rfl, hx⟩ hR
      obtain ⟨a, ha, rfl⟩ := map_ref_at hx
      obtain ⟨pr, hpr, dat⟩ := edas.at' ha
      obtain ⟨g, c, ea, eg, ec⟩ := dat.tk (tk11.trans (same_tk sm))
      obtain ⟨gas, eg1, eg2⟩ := id eg
      obtain ⟨chas, ec1, ec2⟩ := id ec
      refine ⟨a, _, rfl, SqT.of ea, rfl, _, _, rfl, _, _, rfl, _, _, rfl, rfl, rfl, yes_of (iteT ?_)⟩
      refine ⟨_, rfl, _, rfl, g, _, rfl, .inr ⟨SqT.of eg1, _, rfl, c, _, rfl, .inr ⟨SqT.of ec1, by show 3 ≤ sizeLine; rw [sizeLine_eq]; decide, fun t nt => hR _ _ (same_new nt) ⟨t, pr, hpr, rfl, g, c, upd_same, eg.tk (tk_new nt), ec.tk (tk_new nt)⟩⟩⟩⟩
    intro H12 dys s12' eD hdys hdall
    refine ⟨D, _, rfl, .inl ⟨SqL.of eD, fun dd ndd => ?_⟩⟩
    have s13' := s12'.trans (same_new (o := .tup dys) ndd)
    have edd : upd H12 dd (.tup dys) dd = some (.tup dys) := upd_same
    have hdall' : ∀ (i : Nat) (y : V), dys[i]? = some y → ∃ (t : Addr) (pr : Str × Deed), deedz[i]? = some pr ∧ y = .ref t ∧ DeedAt (upd H12 dd (.tup dys)) t pr.1 pr.2 := fun i y hy => by
      obtain ⟨t, pr, h1, h2, h3⟩ := hdall i y hy
      exact ⟨t, pr, h1, h2, h3.tk (tk_new ndd)⟩
    refine ⟨_, rfl, p, A.c_Machine, dx, _, rfl, s13' _ _ p11, T.cl_Machine, T.n_Machine_deeds, by show 1 < 1000; decide, ?_⟩
    generalize upd H12 dd (.tup dys) = H13 at s13' edd hdall' ⊢
    have t14 := tk_ins (o := .ins A.c_Machine dx (putF (Str.ofString "deeds") (.ref dd) (putF (Str.ofString "cells") (.ref cc) []))) (s13' _ _ p11)
    have k14 := (k11.trans (Kp.of s13')).set (o := .ins A.c_Machine dx (putF (Str.ofString "deeds") (.ref dd) (putF (Str.ofString "cells") (.ref cc) []))) (List.mem_singleton_self p)
    have tk14 := (tk11.trans (same_tk s13')).trans t14
    have p14 : upd H13 p (.ins A.c_Machine dx (putF (Str.ofString "deeds") (.ref dd) (putF (Str.ofString "cells") (.ref cc) []))) p = _ := upd_same
    generalize upd H13 p (.ins A.c_Machine dx (putF (Str.ofString "deeds") (.ref dd) (putF (Str.ofString "cells") (.ref cc) []))) = H14 at t14 k14 tk14 p14 ⊢
    -- self.first
    refine ⟨_, rfl, ff, _, rfl, .inr ⟨SkAt.sq (tk14 _ _ hff), ?_⟩⟩
    refine ⟨_, rfl, p, A.c_Machine, dx, _, rfl, p14, T.cl_Machine, T.n_Machine_first, by show 2 < 1000; decide, ?_⟩
    have t15 := tk_ins (o := .ins A.c_Machine dx (putF (Str.ofString "first") (.ref ff) (putF (Str.ofString "deeds") (.ref dd) (putF (Str.ofString "cells") (.ref cc) [])))) p14
    have tk1015 : TK H10 _ := ((‹TK H10 H11›).trans (same_tk s13')).trans (t14.trans t15)
    refine q _ cc dd (k14.set (List.mem_singleton_self p)) (tk14.trans t15) ⟨⟨dx, upd_same⟩, ?_, ?_, t15 _ _ (tk14 _ _ hff), rfl, fun z hz => (mi.sz z hz).2⟩
    · obtain ⟨as, eas, h2⟩ : ∃ as : List Addr, cys = as.map V.ref ∧ All2 (fun x (z : Nat) => ∃ nm : Str, H10 x = some (.tup [.str nm, vn z])) as (cellz.map (·.2)) := by
        refine ⟨cys.map fun y => match y with | .ref t => t | _ => 0, ?_, by rw [List.length_map, List.length_map, hcys, lcas], ?_⟩
        · refine eq_of_get (by simp) fun i y hy => ?_
          obtain ⟨t, pr, h1, h2, h3⟩ := hcall' i y hy
          rw [List.getElem?_map, List.getElem?_map, hy, h2]; rfl
        · intro i x z hx hz
          rw [List.getElem?_map] at hx
          cases ey : cys[i]? with
          | none => rw [ey] at hx; cases hx
          | some y =>
            obtain ⟨t, pr, h1, h2, h3⟩ := hcall' i y ey
            rw [ey, h2] at hx
            cases hx
            rw [List.getElem?_map, h1] at hz
            cases hz
            exact ⟨_, h3⟩
      exact ⟨as, tk1015 _ _ (by rw [ecc, eas]), h2.mono fun x z ⟨nm, e⟩ => ⟨nm, tk1015 _ _ e⟩⟩
    · obtain ⟨as, eas, h2⟩ : ∃ as : List Addr, dys = as.map V.ref ∧ All2 (fun x D => ∃ nm, DeedAt H13 x nm D) as (deedz.map (·.2)) := by
        refine ⟨dys.map fun y => match y with | .ref t => t | _ => 0, ?_, by rw [List.length_map, List.length_map, hdys, ldas], ?_⟩
        · refine eq_of_get (by simp) fun i y hy => ?_
          obtain ⟨t, pr, h1, h2, h3⟩ := hdall' i y hy
          rw [List.getElem?_map, List.getElem?_map, hy, h2]; rfl
        · intro i x z hx hz
          rw [List.getElem?_map] at hx
          cases ey : dys[i]? with
          | none => rw [ey] at hx; cases hx
          | some y =>
            obtain ⟨t, pr, h1, h2, h3⟩ := hdall' i y ey
            rw [ey, h2] at hx
            cases hx
            rw [List.getElem?_map, h1] at hz
            cases hz
            exact ⟨_, h3⟩
      have tk1315 : TK H13 _ := t14.trans t15
      exact ⟨as, tk1315 _ _ (by rw [edd, eas]), h2.mono fun x D ⟨nm, e⟩ => ⟨nm, e.tk tk1315⟩⟩
end
end Rw
set_option Elab.async false
set_option linter.all false
set_option maxRecDepth 100000
set_option maxHeartbeats 4000000
/-! the stripes: the forms and their machines -/
namespace Rw
open PySem PySem.Spec PyProof.Rows L2
open Raised (Sk at0 Deed DeedOk Mach)
abbrev tx (s : String) : Str := Str.ofString s
def bNm (i x : Nat) : Str := Str.empty ++ tx "b" ++ toString (i : Int) ++ toString (x : Int)
def eNm (a b : Nat) : Str := Str.empty ++ tx "e" ++ toString (a : Int) ++ toString (b : Int)
def rNm (i o p : Nat) : Str := Str.empty ++ tx "r" ++ toString (i : Int) ++ toString (o : Int) ++ toString (p : Int)
def bDeed (i x : Nat) : Str × Deed := (bNm i x, ⟨[(3, 1)], [(i, x), (3, 1 + i)]⟩)
def eDeed (v a b : Nat) : Str × Deed := (eNm a b, ⟨[(0, 1 <<< a), (1, 1 <<< b), (3, 6)], [(2, (a + b) % v), (3, 0)]⟩)
def rDeed (v i o p : Nat) : Str × Deed := (rNm i o p, ⟨[(1 - i, 1 <<< o), (2, 1 <<< p), (3, 1)], [(i, (p + v - o) % v)]⟩)
def beginD (v : Nat) : List (Str × Deed) := (List.range 2).flatMap fun i => (List.range v).map fun x => bDeed i x
def endD (v : Nat) : List (Str × Deed) := (List.range v).flatMap fun a => (List.range v).map fun b => eDeed v a b
def rebuildD (v : Nat) : List (Str × Deed) := (List.range 2).flatMap fun i => (List.range v).flatMap fun o => (List.range v).map fun p => rDeed v i o p
def stripeD (v : Nat) : List (Str × Deed) := beginD v ++ endD v ++ rebuildD v
def stripeC (v : Nat) : List (Str × Nat) := [(tx "d0", v), (tx "d1", v), (tx "p", v), (tx "w", 3)]
theorem flat_succ {α : Type} (f : Nat → List α) (i : Nat) : (List.range (i + 1)).flatMap f = (List.range i).flatMap f ++ f i := by
  rw [List.range_succ, List.flatMap_append]; simp
theorem map_succ {α : Type} (f : Nat → α) (i : Nat) : (List.range (i + 1)).map f = (List.range i).map f ++ [f i] := by
  rw [List.range_succ, List.map_append]; rfl
theorem DeedL.snoc {H H' : Hp} {l t : Addr} {as : List Addr} {ds : List (Str × Deed)} {nm : Str} {D : Deed} (h : All2 (fun x (p : Str × Deed) => DeedAt H x p.1 p.2) as ds) (k : TK H H') (e : H' l = some (.lst (as.map V.ref ++ [.ref t]))) (d : DeedAt H' t nm D) : DeedL H' l (ds ++ [(nm, D)]) :=
  ⟨as ++ [t], by rw [e, List.map_append]; rfl, (h.mono fun x p z => z.tk k).snoc d⟩
theorem DeedL.same {H H' : Hp} {l : Addr} {ds : List (Str × Deed)} (h : DeedL H l ds) (s : Same H H') : DeedL H' l ds := by
  obtain ⟨as, e1, e2⟩ := h
  exact ⟨as, s _ _ e1, e2.mono fun a x e => e.tk (same_tk s)⟩
theorem DeedL.cat {H H' : Hp} {r : Addr} {as bs : List Addr} {ds es : List (Str × Deed)} (h : All2 (fun x (p : Str × Deed) => DeedAt H x p.1 p.2) as ds) (h' : All2 (fun x (p : Str × Deed) => DeedAt H x p.1 p.2) bs es) (k : TK H H') (e : H' r = some (.lst (as.map V.ref ++ bs.map V.ref))) : DeedL H' r (ds ++ es) := by
  refine ⟨as ++ bs, by rw [e, List.map_append], by rw [List.length_append, List.length_append, h.1, h'.1], fun i x p hx hp => ?_⟩
  by_cases hi : i < as.length
  · rw [List.getElem?_append_left hi] at hx
    rw [List.getElem?_append_left (by rw [← h.1]; exact hi)] at hp
    exact (h.2 i x p hx hp).tk k
  · rw [List.getElem?_append_right (by omega)] at hx
    rw [List.getElem?_append_right (by rw [← h.1]; omega), ← h.1] at hp
    exact (h'.2 _ x p hx hp).tk k
theorem nlB : (Str.empty ++ tx "b").length ≤ sizeLine ∧ (Str.empty ++ tx "e").length ≤ sizeLine ∧ (Str.empty ++ tx "r").length ≤ sizeLine := by rw [sizeLine_eq]; decide +kernel
theorem nl1 : ∀ i : Nat, i < 5 → (Str.empty ++ tx "b" ++ (toString (i : Int) : Str)).length ≤ 100 ∧ (Str.empty ++ tx "e" ++ (toString (i : Int) : Str)).length ≤ 100 ∧ (Str.empty ++ tx "r" ++ (toString (i : Int) : Str)).length ≤ 100 := by decide +kernel
theorem nl2 : ∀ i : Nat, i < 5 → ∀ j : Nat, j < 5 → (bNm i j).length ≤ 100 ∧ (eNm i j).length ≤ 100 ∧ (Str.empty ++ tx "r" ++ (toString (i : Int) : Str) ++ (toString (j : Int) : Str)).length ≤ 100 := by decide +kernel
theorem nl3 : ∀ i : Nat, i < 5 → ∀ j : Nat, j < 5 → ∀ k : Nat, k < 5 → (rNm i j k).length ≤ 100 := by decide +kernel
theorem le100 {n : Nat} (h : n ≤ 100) : n ≤ sizeLine := Nat.le_of_lt (small_line (Nat.le_trans h (by decide)))
def FormAt (A : Ad) (H : Hp) (f : Addr) (v : Nat) : Prop := ∃ dx, H f = some (.ins A.c_StripeForm dx [(tx "alphabet", vn v)])
theorem FormAt.same {A : Ad} {H H' : Hp} {f : Addr} {v : Nat} (h : FormAt A H f v) (s : Same H H') : FormAt A H' f v := by
  obtain ⟨dx, e⟩ := h; exact ⟨dx, s _ _ e⟩
section
variable {P : Program} {w : World} {K : PySem.W.Frag} {mg : Str → Option Value} {base : Heap} {A : Ad}
/-! ### one, set_to, check_range -/
def spOne : Sp := fun vs H Q _ => ∃ v : Nat, vs = [vn v] ∧ v ≤ 1000 ∧ Q (vn (1 <<< v)) H
theorem ok_one (T : Txt K mg A) : FnOk P w K mg base CX0 1 A.a_one A.d_one ["value"] spOne := by
  refine T.F_one.ok sc_one (fun vs H Q E h => ?_) (fun cdv Ar outer s H vs Q E hr h => ?_)
  · obtain ⟨v, rfl, _⟩ := h
    rfl
  · obtain ⟨v, rfl, hv, q⟩ := h
    refine ⟨_, pss_one (ps_ret (pe_op op_shlNN pe_int (pv 0))), ?_⟩
    exact ⟨_, rfl, 1, v, rfl, rfl, hv, by decide, q⟩
def Ch1 (H : Hp) (p : Addr) (c x : Nat) : Prop := ∃ q : Addr, H p = some (.tup [vn c, .ref q]) ∧ H q = some (.tup [.str (Str.ofString "set"), vn x])
theorem Ch1.tk {H H' : Hp} {p : Addr} {c x : Nat} (h : Ch1 H p c x) (t : TK H H') : Ch1 H' p c x := by
  obtain ⟨q, a, b⟩ := h; exact ⟨q, t _ _ a, t _ _ b⟩
def spSetTo : Sp := fun vs H Q _ => ∃ c x : Nat, vs = [vn c, vn x] ∧ ∀ H' p, Same H H' → Ch1 H' p c x → Q (.ref p) H'
theorem ok_set_to (T : Txt K mg A) : FnOk P w K mg base CX0 1 A.a_set_to A.d_set_to ["cell", "value"] spSetTo := by
  refine T.F_set_to.ok sc_set_to (fun vs H Q E h => ?_) (fun cdv Ar outer s H vs Q E hr h => ?_)
  · obtain ⟨c, x, rfl, _⟩ := h
    rfl
  · obtain ⟨c, x, rfl, q⟩ := h
    refine ⟨_, pss_one (ps_ret (pe_tup (pa_cons (pv 0) (pa_cons (pe_tup (pa_cons pe_str (pa_cons (pv 1) pa_nil))) pa_nil)))), ?_⟩
    refine ⟨_, rfl, _, rfl, by show 2 ≤ sizeLine; rw [sizeLine_eq]; decide, fun t nt => ?_⟩
    refine ⟨by show 2 ≤ sizeLine; rw [sizeLine_eq]; decide, fun p np => q _ p ((same_new nt).trans (same_new np)) ⟨t, upd_same, same_new np _ _ upd_same⟩⟩
def spRange : Sp := fun vs H Q _ => ∃ n a b : Nat, vs = [vn n, vn a, vn b] ∧ a ≤ n ∧ n ≤ b ∧ Q .non H
theorem ok_check_range (T : Txt K mg A) : FnOk P w K mg base CX0 1 A.a_check_range A.d_check_range ["number", "least", "greatest"] spRange := by
  refine T.F_check_range.ok sc_check_range (fun vs H Q E h => ?_) (fun cdv Ar outer s H vs Q E hr h => ?_)
  · obtain ⟨n, a, b, rfl, _⟩ := h
    rfl
  · obtain ⟨n, a, b, rfl, h1, h2, q⟩ := h
    refine ⟨_, pss_one (ps_if (PW.pt (pw_or (pt_cmpR op_lt (pv 0) (pv 1) (nomark _)) (pw_or1 (pt_cmpR op_gt (pv 0) (pv 2) (nomark _))))) pss_never pss_nil), ?_⟩
    refine ⟨_, rfl, _, rfl, _, _, rfl, rfl, _, rfl, ifF (decide_eq_false (by omega)) ?_⟩
    refine ⟨_, rfl, _, rfl, _, _, rfl, rfl, _, rfl, ifF (decide_eq_false (by omega)) ?_⟩
    exact q
def spForm (A : Ad) : Sp := fun vs H Q _ => ∃ (p dx : Addr) (v : Nat), vs = [.ref p, vn v] ∧ H p = some (.ins A.c_StripeForm dx []) ∧ 2 ≤ v ∧ v ≤ 5 ∧ Q .non (upd H p (.ins A.c_StripeForm dx [(tx "alphabet", vn v)]))
theorem ok_form (T : Txt K mg A) : FnOk P w K mg base CX0 2 A.a_StripeForm_init A.d_StripeForm_init ["self", "alphabet"] (spForm A) := by
  have G : FnOk P w K mg base CX0 1 _ _ _ _ := ok_check_range T
  refine T.F_StripeForm_init.ok sc_StripeForm_init (fun vs H Q E h => ?_) (fun cdv Ar outer s H vs Q E hr h => ?_)
  · obtain ⟨p, dx, v, rfl, _⟩ := h
    rfl
  · obtain ⟨p, dx, v, rfl, hp, h2, h5, q⟩ := h
    refine ⟨_, pss_cons (ps_expr (pe_call G hr (by rfl) T.g_check_range T.F_check_range.kp T.b_check_range .nil pass0 (pa_cons (pv 1) (pa_cons pe_int (pa_cons pe_int pa_nil)))))
      (pss_one (ps_fld (pv 0) (pv 1) rfl)), ?_⟩
    refine ⟨_, rfl, v, 2, 5, rfl, h2, h5, ?_⟩
    exact ⟨_, rfl, _, rfl, p, A.c_StripeForm, dx, _, rfl, hp, T.cl_StripeForm, T.n_StripeForm_alphabet, by show 0 < 1000; decide, q⟩
/-! ### _begin_deeds -/
def spDeeds (A : Ad) (f : Nat → List (Str × Deed)) : Sp := fun vs H Q _ => ∃ (p : Addr) (v : Nat), vs = [.ref p] ∧ FormAt A H p v ∧ 2 ≤ v ∧ v ≤ 3 ∧ ∀ H' l, Same H H' → DeedL H' l (f v) → Q (.ref l) H'
theorem fmt_ok {n : Nat} (h : n < 2 ^ 60) : ((n : Int).natAbs.log2) < 1920 := by
  rw [Int.natAbs_natCast]
  by_cases e : n = 0
  · subst e; decide
  · exact Nat.lt_trans ((Nat.log2_lt e).mpr h) (by decide)
theorem ok_begin (T : Txt K mg A) : FnOk P w K mg base CX0 2 A.a_begin_deeds A.d_begin_deeds ["form"] (spDeeds A beginD) := by
  have G1 : FnOk P w K mg base CX0 1 _ _ _ _ := ok_one T
  have G2 : FnOk P w K mg base CX0 1 _ _ _ _ := ok_set_to T
  obtain ⟨tW, hW⟩ := T.i_WORK
  obtain ⟨tN, hN⟩ := T.i_NO_WORK
  refine T.F_begin_deeds.ok sc_begin_deeds (fun vs H Q E h => ?_) (fun cdv Ar outer s H vs Q E hr h => ?_)
  · obtain ⟨f, v, rfl, _⟩ := h
    rfl
  · obtain ⟨f, v, rfl, ⟨dx, hf⟩, h2, h3, q⟩ := h
    refine ⟨_, pss_cons (ps_set (i := 1) sc_begin_deeds.nd rfl (.inl rfl) (pe_lst pa_nil))
      (pss_cons (ps_for PassesOwn.never rfl (pi_range1 rfl T.z_range (pa_cons pe_int pa_nil)) (pg_name (i := 2) sc_begin_deeds.nd rfl (.inl rfl))
        (pss_one (ps_for PassesOwn.never rfl (pi_range1 rfl T.z_range (pa_cons (pe_fld (pv 0) rfl) pa_nil)) (pg_name (i := 3) sc_begin_deeds.nd rfl (.inl rfl))
          (pss_cons (ps_set (i := 4) sc_begin_deeds.nd rfl (.inl rfl) (pe_tup (pa_cons (pe_call G2 hr (by rfl) T.g_set_to T.F_set_to.kp T.b_set_to .nil pass0 (pa_cons (pv 2) (pa_cons (pv 3) pa_nil)))
            (pa_cons (pe_call G2 hr (by rfl) T.g_set_to T.F_set_to.kp T.b_set_to .nil pass0 (pa_cons (pe_glob (v := .int 3) rfl hW ⟨_, rfl⟩) (pa_cons (pe_op op_add pe_int (pv 2)) pa_nil))) pa_nil))))
          (pss_one (ps_expr (pe_bm PySem.F.plainAttrs_list PySem.F.slot_list_append PySem.F.type_list_append mt_append (pv 1) (pa_cons
            (pe_tup (pa_cons (pe_joined (.cons pe_str (.cons (pe_fmt (pv 2)) (.cons (pe_fmt (pv 3)) .nil)))) (pa_cons (pe_tup (pa_cons (pe_tup (pa_cons (pe_glob (v := .int 3) rfl hW ⟨_, rfl⟩) (pa_cons
              (pe_call G1 hr (by rfl) T.g_one T.F_one.kp T.b_one .nil pass0 (pa_cons (pe_glob (v := .int 0) rfl hN ⟨_, rfl⟩) pa_nil)) pa_nil))) pa_nil)) (pa_cons (pv 4) pa_nil)))) pa_nil))))))))
      (pss_one (ps_ret (pv 1)))), ?_⟩
    have sl1 : 1 ≤ sizeLine := by rw [sizeLine_eq]; decide
    have sl2 : 2 ≤ sizeLine := by rw [sizeLine_eq]; decide
    have sl3 : 3 ≤ sizeLine := by rw [sizeLine_eq]; decide
    refine ⟨Nat.zero_le _, fun D nD => ?_⟩
    have e0 : H D = none := nD
    refine ⟨2, rfl, by decide, by decide, ?_⟩
    refine for_range (lo := 0) (n := 2) (fun i σ H2 => ∃ y2 y3 y4, σ = [some (.ref f), some (.ref D), y2, y3, y4] ∧ Same H H2 ∧ DeedL H2 D ((List.range i).flatMap fun i => (List.range v).map fun x => bDeed i x) ∧ ((List.range i).flatMap fun i => (List.range v).map fun x => bDeed i x).length ≤ 3 * i)
      ⟨none, none, none, rfl, same_new nD, ⟨[], upd_same, All2.nil⟩, Nat.le_refl _⟩ ?_ ?_
    · rintro i σ H2 hi ⟨y2, y3, y4, rfl, sm, hD, hlen⟩
      rw [Int.zero_add]
      refine ⟨_, rfl, f, A.c_StripeForm, dx, _, _, rfl, sm _ _ hf, T.cl_StripeForm, T.n_StripeForm_alphabet, rfl, (v : Int), rfl, by omega, by omega, ?_⟩
      rw [Int.toNat_natCast]
      refine for_range (lo := 0) (n := v) (fun j σ H3 => ∃ y3 y4, σ = [some (.ref f), some (.ref D), some (vn i), y3, y4] ∧ Same H H3 ∧ DeedL H3 D ((List.range i).flatMap (fun i => (List.range v).map fun x => bDeed i x) ++ (List.range j).map (bDeed i)) ∧ ((List.range i).flatMap fun i => (List.range v).map fun x => bDeed i x).length ≤ 3 * i)
        ⟨y3, y4, rfl, sm, by rw [List.range_zero, List.map_nil, List.append_nil]; exact hD, hlen⟩ ?_ ?_
      · rintro j σ H3 hj ⟨y3, y4, rfl, sm3, ⟨as, eD, eas⟩, hlen⟩
        rw [Int.zero_add]
        refine ⟨_, rfl, _, rfl, i, j, rfl, fun H4 p1 s4 c1 => ?_⟩
        refine ⟨_, rfl, 1, (i : Int), rfl, rfl, 3, 1 + i, rfl, fun H5 p2 s5 c2 => ?_⟩
        refine ⟨sl2, fun chs n6 => ?_⟩
        refine ⟨.ref D, rfl, .inl ⟨rfl, _, SqL.of (same_new n6 _ _ (s5 _ _ (s4 _ _ eD)))⟩, _, rfl, nlB.1, _, rfl, .inr ⟨(i : Int), rfl, fmt_ok (by omega), _, rfl, le100 (nl1 i (by omega)).1, _, rfl, .inr ⟨(j : Int), rfl, fmt_ok (by omega), _, rfl, le100 (nl2 i (by omega) j (by omega)).1, ?_⟩⟩⟩
        refine ⟨0, rfl, by decide, sl2, fun t1 n1 => ⟨sl1, fun t2 n2 => ⟨_, rfl, sl3, fun t3 n3 => ?_⟩⟩⟩
        have s6 := s4.trans (s5.trans (same_new (o := .tup [.ref p1, .ref p2]) n6))
        have s9 := (same_new (o := .tup [.int 3, vn (1 <<< 0)]) n1).trans ((same_new (o := .tup [.ref t1]) n2).trans (same_new (o := .tup [.str (bNm i j), .ref t2, .ref chs]) n3))
        have e9 := s9 _ _ (s6 _ _ eD)
        refine ⟨D, _, _, rfl, rfl, e9, small_line (by rw [List.length_map, eas.1, List.length_append, List.length_map, List.length_range]; omega), ?_⟩
        have t10 := tk_lst (o := .lst (as.map V.ref ++ [.ref t3])) e9
        refine ⟨_, _, rfl, same_mut (sm3.trans (s6.trans s9)) e0, ?_, hlen⟩
        rw [map_succ, ← List.append_assoc]
        refine DeedL.snoc eas ((same_tk (s6.trans s9)).trans t10) upd_same ?_
        refine ⟨t2, chs, t10 _ _ upd_same, ?_, ?_⟩
        · exact ⟨[t1], t10 _ _ (same_new n3 _ _ upd_same), All2.cons (t10 _ _ (same_new n3 _ _ (same_new n2 _ _ upd_same))) All2.nil⟩
        · refine ⟨[p1, p2], t10 _ _ (s9 _ _ upd_same), All2.cons ?_ (All2.cons ?_ All2.nil)⟩
          · exact c1.tk ((same_tk (s5.trans ((same_new n6).trans s9))).trans t10)
          · exact c2.tk ((same_tk ((same_new n6).trans s9)).trans t10)
      · rintro σ H3 ⟨y3, y4, rfl, sm3, hD3, hlen⟩
        refine ⟨_, _, _, rfl, sm3, by rw [flat_succ]; exact hD3, ?_⟩
        rw [flat_succ, List.length_append, List.length_map, List.length_range]; omega
    · rintro σ H2 ⟨y2, y3, y4, rfl, sm, hD, hlen⟩
      exact ⟨_, rfl, q _ D sm hD⟩
/-! ### _end_deeds -/
theorem ok_end (T : Txt K mg A) : FnOk P w K mg base CX0 2 A.a_end_deeds A.d_end_deeds ["form"] (spDeeds A endD) := by
  have G1 : FnOk P w K mg base CX0 1 _ _ _ _ := ok_one T
  have G2 : FnOk P w K mg base CX0 1 _ _ _ _ := ok_set_to T
  obtain ⟨tW, hW⟩ := T.i_WORK
  obtain ⟨tN, hN⟩ := T.i_NO_WORK
  obtain ⟨tP, hP⟩ := T.i_PARITY
  obtain ⟨tS, hS⟩ := T.i_SOME_WORK
  refine T.F_end_deeds.ok sc_end_deeds (fun vs H Q E h => ?_) (fun cdv Ar outer s H vs Q E hr h => ?_)
  · obtain ⟨f, v, rfl, _⟩ := h
    rfl
  · obtain ⟨f, v, rfl, ⟨dx, hf⟩, h2, h3, q⟩ := h
    refine ⟨_, pss_cons (ps_set (i := 1) sc_end_deeds.nd rfl (.inl rfl) (pe_lst pa_nil))
      (pss_cons (ps_for PassesOwn.never rfl (pi_range1 rfl T.z_range (pa_cons (pe_fld (pv 0) rfl) pa_nil)) (pg_name (i := 2) sc_end_deeds.nd rfl (.inl rfl))
        (pss_one (ps_for PassesOwn.never rfl (pi_range1 rfl T.z_range (pa_cons (pe_fld (pv 0) rfl) pa_nil)) (pg_name (i := 3) sc_end_deeds.nd rfl (.inl rfl))
          (pss_cons (ps_set (i := 4) sc_end_deeds.nd rfl (.inl rfl) (pe_tup (pa_cons (pe_tup (pa_cons pe_int (pa_cons (pe_call G1 hr (by rfl) T.g_one T.F_one.kp T.b_one .nil pass0 (pa_cons (pv 2) pa_nil)) pa_nil)))
            (pa_cons (pe_tup (pa_cons pe_int (pa_cons (pe_call G1 hr (by rfl) T.g_one T.F_one.kp T.b_one .nil pass0 (pa_cons (pv 3) pa_nil)) pa_nil)))
            (pa_cons (pe_tup (pa_cons (pe_glob (v := .int 3) rfl hW ⟨_, rfl⟩) (pa_cons (pe_glob (v := .int 6) rfl hS ⟨_, rfl⟩) pa_nil))) pa_nil)))))
          (pss_cons (ps_set (i := 5) sc_end_deeds.nd rfl (.inl rfl) (pe_tup (pa_cons (pe_call G2 hr (by rfl) T.g_set_to T.F_set_to.kp T.b_set_to .nil pass0 (pa_cons (pe_glob (v := .int 2) rfl hP ⟨_, rfl⟩) (pa_cons (pe_op op_mod (pe_op op_add (pv 2) (pv 3)) (pe_fld (pv 0) rfl)) pa_nil)))
            (pa_cons (pe_call G2 hr (by rfl) T.g_set_to T.F_set_to.kp T.b_set_to .nil pass0 (pa_cons (pe_glob (v := .int 3) rfl hW ⟨_, rfl⟩) (pa_cons (pe_glob (v := .int 0) rfl hN ⟨_, rfl⟩) pa_nil))) pa_nil))))
          (pss_one (ps_expr (pe_bm PySem.F.plainAttrs_list PySem.F.slot_list_append PySem.F.type_list_append mt_append (pv 1) (pa_cons
            (pe_tup (pa_cons (pe_joined (.cons pe_str (.cons (pe_fmt (pv 2)) (.cons (pe_fmt (pv 3)) .nil)))) (pa_cons (pv 4) (pa_cons (pv 5) pa_nil)))) pa_nil)))))))))
      (pss_one (ps_ret (pv 1)))), ?_⟩
    have sl1 : 1 ≤ sizeLine := by rw [sizeLine_eq]; decide
    have sl2 : 2 ≤ sizeLine := by rw [sizeLine_eq]; decide
    have sl3 : 3 ≤ sizeLine := by rw [sizeLine_eq]; decide
    refine ⟨Nat.zero_le _, fun D nD => ?_⟩
    have e0 : H D = none := nD
    refine ⟨_, rfl, f, A.c_StripeForm, dx, _, _, rfl, same_new nD _ _ hf, T.cl_StripeForm, T.n_StripeForm_alphabet, rfl, (v : Int), rfl, by omega, by omega, ?_⟩
    rw [Int.toNat_natCast]
    refine for_range (lo := 0) (n := v) (fun i σ H2 => ∃ y2 y3 y4 y5, σ = [some (.ref f), some (.ref D), y2, y3, y4, y5] ∧ Same H H2 ∧ DeedL H2 D ((List.range i).flatMap fun a => (List.range v).map fun b => eDeed v a b) ∧ ((List.range i).flatMap fun a => (List.range v).map fun b => eDeed v a b).length ≤ 3 * i)
      ⟨none, none, none, none, rfl, same_new nD, ⟨[], upd_same, All2.nil⟩, Nat.le_refl _⟩ ?_ ?_
    · rintro i σ H2 hi ⟨y2, y3, y4, y5, rfl, sm, hD, hlen⟩
      rw [Int.zero_add]
      refine ⟨_, rfl, f, A.c_StripeForm, dx, _, _, rfl, sm _ _ hf, T.cl_StripeForm, T.n_StripeForm_alphabet, rfl, (v : Int), rfl, by omega, by omega, ?_⟩
      rw [Int.toNat_natCast]
      refine for_range (lo := 0) (n := v) (fun j σ H3 => ∃ y3 y4 y5, σ = [some (.ref f), some (.ref D), some (vn i), y3, y4, y5] ∧ Same H H3 ∧ DeedL H3 D ((List.range i).flatMap (fun a => (List.range v).map fun b => eDeed v a b) ++ (List.range j).map (eDeed v i)))
        ⟨y3, y4, y5, rfl, sm, by rw [List.range_zero, List.map_nil, List.append_nil]; exact hD⟩ ?_ ?_
      · rintro j σ H3 hj ⟨y3, y4, y5, rfl, sm3, as, eD, eas⟩
        rw [Int.zero_add]
        refine ⟨_, rfl, i, rfl, by omega, sl2, fun a1 m1 => ⟨_, rfl, j, rfl, by omega, sl2, fun a2 m2 => ⟨sl2, fun a3 m3 => ⟨sl3, fun g mg' => ?_⟩⟩⟩⟩
        have sg := (same_new (o := .tup [.int 0, vn (1 <<< i)]) m1).trans ((same_new (o := .tup [.int 1, vn (1 <<< j)]) m2).trans ((same_new (o := .tup [.int 3, .int 6]) m3).trans (same_new (o := .tup [.ref a1, .ref a2, .ref a3]) mg')))
        have pg : PairsAt (upd (upd (upd (upd H3 a1 (.tup [.int 0, vn (1 <<< i)])) a2 (.tup [.int 1, vn (1 <<< j)])) a3 (.tup [.int 3, .int 6])) g (.tup [.ref a1, .ref a2, .ref a3])) g [(0, 1 <<< i), (1, 1 <<< j), (3, 6)] :=
          ⟨[a1, a2, a3], upd_same, All2.cons (same_new mg' _ _ (same_new m3 _ _ (same_new m2 _ _ upd_same))) (All2.cons (same_new mg' _ _ (same_new m3 _ _ upd_same)) (All2.cons (same_new mg' _ _ upd_same) All2.nil))⟩
        refine ⟨_, rfl, _, rfl, (i : Int), (j : Int), rfl, rfl, _, rfl, f, A.c_StripeForm, dx, _, _, rfl, sg _ _ (sm3 _ _ hf), T.cl_StripeForm, T.n_StripeForm_alphabet, rfl, (i : Int) + (j : Int), (v : Int), rfl, rfl, show (0 : Int) < (v : Int) by omega, ?_⟩
        refine ⟨2, (i + j) % v, rfl, fun H5 p1 s5 c1 => ⟨3, 0, rfl, fun H6 p2 s6 c2 => ⟨sl2, fun chs n7 => ?_⟩⟩⟩
        have s7 := s5.trans (s6.trans (same_new (o := .tup [.ref p1, .ref p2]) n7))
        have s37 := sg.trans s7
        refine ⟨.ref D, rfl, .inl ⟨rfl, _, SqL.of (s37 _ _ eD)⟩, _, rfl, nlB.2.1, _, rfl, .inr ⟨(i : Int), rfl, fmt_ok (by omega), _, rfl, le100 (nl1 i (by omega)).2.1, _, rfl, .inr ⟨(j : Int), rfl, fmt_ok (by omega), _, rfl, le100 (nl2 i (by omega) j (by omega)).2.1, ?_⟩⟩⟩
        refine ⟨_, rfl, _, rfl, sl3, fun t3 n3 => ?_⟩
        have s38 := s37.trans (same_new (o := .tup [.str (eNm i j), .ref g, .ref chs]) n3)
        have e9 := s38 _ _ eD
        refine ⟨D, _, _, rfl, rfl, e9, small_line (by rw [List.length_map, eas.1, List.length_append, List.length_map, List.length_range]; omega), ?_⟩
        have t10 := tk_lst (o := .lst (as.map V.ref ++ [.ref t3])) e9
        refine ⟨_, _, _, rfl, same_mut (sm3.trans s38) e0, ?_⟩
        rw [map_succ, ← List.append_assoc]
        refine DeedL.snoc eas ((same_tk s38).trans t10) upd_same ?_
        refine ⟨g, chs, t10 _ _ upd_same, ?_, ?_⟩
        · exact pg.tk ((same_tk (s7.trans (same_new n3))).trans t10)
        · refine ⟨[p1, p2], t10 _ _ (same_new n3 _ _ upd_same), All2.cons ?_ (All2.cons ?_ All2.nil)⟩
          · exact c1.tk ((same_tk (s6.trans ((same_new n7).trans (same_new n3)))).trans t10)
          · exact c2.tk ((same_tk ((same_new n7).trans (same_new n3))).trans t10)
      · rintro σ H3 ⟨y3, y4, y5, rfl, sm3, hD3⟩
        refine ⟨_, _, _, _, rfl, sm3, by rw [flat_succ]; exact hD3, ?_⟩
        rw [flat_succ, List.length_append, List.length_map, List.length_range]; omega
    · rintro σ H2 ⟨y2, y3, y4, y5, rfl, sm, hD, hlen⟩
      exact ⟨_, rfl, q _ D sm hD⟩
/-! ### _rebuild_deeds -/
theorem sub_mod {v o p : Nat} (h : o < v) : ((p : Int) - (o : Int)) % (v : Int) = (((p + v - o) % v : Nat) : Int) := by
  rw [Int.natCast_emod, Int.natCast_sub (by omega), Int.natCast_add, show (p : Int) + (v : Int) - (o : Int) = ((p : Int) - (o : Int)) + (v : Int) by omega, Int.add_emod_right]
theorem ok_rebuild (T : Txt K mg A) : FnOk P w K mg base CX0 2 A.a_rebuild_deeds A.d_rebuild_deeds ["form"] (spDeeds A rebuildD) := by
  have G1 : FnOk P w K mg base CX0 1 _ _ _ _ := ok_one T
  have G2 : FnOk P w K mg base CX0 1 _ _ _ _ := ok_set_to T
  obtain ⟨tW, hW⟩ := T.i_WORK
  obtain ⟨tN, hN⟩ := T.i_NO_WORK
  obtain ⟨tP, hP⟩ := T.i_PARITY
  refine T.F_rebuild_deeds.ok sc_rebuild_deeds (fun vs H Q E h => ?_) (fun cdv Ar outer s H vs Q E hr h => ?_)
  · obtain ⟨f, v, rfl, _⟩ := h
    rfl
  · obtain ⟨f, v, rfl, ⟨dx, hf⟩, h2, h3, q⟩ := h
    refine ⟨_, pss_cons (ps_set (i := 1) sc_rebuild_deeds.nd rfl (.inl rfl) (pe_lst pa_nil))
      (pss_cons (ps_for PassesOwn.never rfl (pi_range1 rfl T.z_range (pa_cons pe_int pa_nil)) (pg_name (i := 2) sc_rebuild_deeds.nd rfl (.inl rfl))
        (pss_one (ps_for PassesOwn.never rfl (pi_range1 rfl T.z_range (pa_cons (pe_fld (pv 0) rfl) pa_nil)) (pg_name (i := 3) sc_rebuild_deeds.nd rfl (.inl rfl))
        (pss_one (ps_for PassesOwn.never rfl (pi_range1 rfl T.z_range (pa_cons (pe_fld (pv 0) rfl) pa_nil)) (pg_name (i := 4) sc_rebuild_deeds.nd rfl (.inl rfl))
          (pss_cons (ps_set (i := 5) sc_rebuild_deeds.nd rfl (.inl rfl) (pe_tup (pa_cons (pe_tup (pa_cons (pe_op op_sub pe_int (pv 2)) (pa_cons (pe_call G1 hr (by rfl) T.g_one T.F_one.kp T.b_one .nil pass0 (pa_cons (pv 3) pa_nil)) pa_nil)))
            (pa_cons (pe_tup (pa_cons (pe_glob (v := .int 2) rfl hP ⟨_, rfl⟩) (pa_cons (pe_call G1 hr (by rfl) T.g_one T.F_one.kp T.b_one .nil pass0 (pa_cons (pv 4) pa_nil)) pa_nil)))
            (pa_cons (pe_tup (pa_cons (pe_glob (v := .int 3) rfl hW ⟨_, rfl⟩) (pa_cons (pe_call G1 hr (by rfl) T.g_one T.F_one.kp T.b_one .nil pass0 (pa_cons (pe_glob (v := .int 0) rfl hN ⟨_, rfl⟩) pa_nil)) pa_nil))) pa_nil)))))
          (pss_cons (ps_set (i := 6) sc_rebuild_deeds.nd rfl (.inl rfl) (pe_tup (pa_cons (pe_call G2 hr (by rfl) T.g_set_to T.F_set_to.kp T.b_set_to .nil pass0 (pa_cons (pv 2) (pa_cons (pe_op op_mod (pe_op op_sub (pv 4) (pv 3)) (pe_fld (pv 0) rfl)) pa_nil))) pa_nil)))
          (pss_one (ps_expr (pe_bm PySem.F.plainAttrs_list PySem.F.slot_list_append PySem.F.type_list_append mt_append (pv 1) (pa_cons
            (pe_tup (pa_cons (pe_joined (.cons pe_str (.cons (pe_fmt (pv 2)) (.cons (pe_fmt (pv 3)) (.cons (pe_fmt (pv 4)) .nil))))) (pa_cons (pv 5) (pa_cons (pv 6) pa_nil)))) pa_nil)))))))))))
      (pss_one (ps_ret (pv 1)))), ?_⟩
    have sl1 : 1 ≤ sizeLine := by rw [sizeLine_eq]; decide
    have sl2 : 2 ≤ sizeLine := by rw [sizeLine_eq]; decide
    have sl3 : 3 ≤ sizeLine := by rw [sizeLine_eq]; decide
    refine ⟨Nat.zero_le _, fun D nD => ?_⟩
    have e0 : H D = none := nD
    refine ⟨2, rfl, by decide, by decide, ?_⟩
    refine for_range (lo := 0) (n := 2) (fun i σ H2 => ∃ y2 y3 y4 y5 y6, σ = [some (.ref f), some (.ref D), y2, y3, y4, y5, y6] ∧ Same H H2 ∧ DeedL H2 D ((List.range i).flatMap fun i => (List.range v).flatMap fun o => (List.range v).map fun p => rDeed v i o p) ∧ ((List.range i).flatMap fun i => (List.range v).flatMap fun o => (List.range v).map fun p => rDeed v i o p).length ≤ 9 * i)
      ⟨none, none, none, none, none, rfl, same_new nD, ⟨[], upd_same, All2.nil⟩, Nat.le_refl _⟩ ?_ ?_
    · rintro i σ H2 hi ⟨y2, y3, y4, y5, y6, rfl, sm, hD, hlen⟩
      rw [Int.zero_add]
      refine ⟨_, rfl, f, A.c_StripeForm, dx, _, _, rfl, sm _ _ hf, T.cl_StripeForm, T.n_StripeForm_alphabet, rfl, (v : Int), rfl, by omega, by omega, ?_⟩
      rw [Int.toNat_natCast]
      generalize hpre : ((List.range i).flatMap fun i => (List.range v).flatMap fun o => (List.range v).map fun p => rDeed v i o p) = pre at hD hlen
      refine for_range (lo := 0) (n := v) (fun k σ H3 => ∃ y3 y4 y5 y6, σ = [some (.ref f), some (.ref D), some (vn i), y3, y4, y5, y6] ∧ Same H H3 ∧ DeedL H3 D (pre ++ (List.range k).flatMap fun o => (List.range v).map fun p => rDeed v i o p) ∧ ((List.range k).flatMap fun o => (List.range v).map fun p => rDeed v i o p).length ≤ 3 * k)
        ⟨y3, y4, y5, y6, rfl, sm, by rw [List.range_zero, List.flatMap_nil, List.append_nil]; exact hD, Nat.zero_le _⟩ ?_ ?_
      · rintro k σ H3 hk ⟨y3, y4, y5, y6, rfl, sm3, hD3, hlen3⟩
        rw [Int.zero_add]
        refine ⟨_, rfl, f, A.c_StripeForm, dx, _, _, rfl, sm3 _ _ hf, T.cl_StripeForm, T.n_StripeForm_alphabet, rfl, (v : Int), rfl, by omega, by omega, ?_⟩
        rw [Int.toNat_natCast]
        refine for_range (lo := 0) (n := v) (fun j σ H4 => ∃ y4 y5 y6, σ = [some (.ref f), some (.ref D), some (vn i), some (vn k), y4, y5, y6] ∧ Same H H4 ∧ DeedL H4 D ((pre ++ (List.range k).flatMap fun o => (List.range v).map fun p => rDeed v i o p) ++ (List.range j).map (rDeed v i k)))
          ⟨y4, y5, y6, rfl, sm3, by rw [List.range_zero, List.map_nil, List.append_nil]; exact hD3⟩ ?_ ?_
        · rintro j σ H4 hj ⟨y4, y5, y6, rfl, sm4, as, eD, eas⟩
          rw [Int.zero_add]
          have e1 : V.int ((1 : Int) - (i : Int)) = vn (1 - i) := congrArg V.int (by omega)
          refine ⟨_, rfl, 1, (i : Int), rfl, rfl, _, rfl, k, rfl, by omega, sl2, fun a1 m1 => ⟨_, rfl, j, rfl, by omega, sl2, fun a2 m2 => ⟨0, rfl, by decide, sl2, fun a3 m3 => ⟨sl3, fun g mg' => ?_⟩⟩⟩⟩
          have sg := (same_new (o := .tup [.int ((1 : Int) - (i : Int)), vn (1 <<< k)]) m1).trans ((same_new (o := .tup [.int 2, vn (1 <<< j)]) m2).trans ((same_new (o := .tup [.int 3, vn (1 <<< 0)]) m3).trans (same_new (o := .tup [.ref a1, .ref a2, .ref a3]) mg')))
          have pg : PairsAt (upd (upd (upd (upd H4 a1 (.tup [.int ((1 : Int) - (i : Int)), vn (1 <<< k)])) a2 (.tup [.int 2, vn (1 <<< j)])) a3 (.tup [.int 3, vn (1 <<< 0)])) g (.tup [.ref a1, .ref a2, .ref a3])) g [(1 - i, 1 <<< k), (2, 1 <<< j), (3, 1)] :=
            ⟨[a1, a2, a3], upd_same, All2.cons (by rw [← e1]; exact same_new mg' _ _ (same_new m3 _ _ (same_new m2 _ _ upd_same))) (All2.cons (same_new mg' _ _ (same_new m3 _ _ upd_same)) (All2.cons (same_new mg' _ _ upd_same) All2.nil))⟩
          refine ⟨_, rfl, _, rfl, _, rfl, (j : Int), (k : Int), rfl, rfl, _, rfl, f, A.c_StripeForm, dx, _, _, rfl, sg _ _ (sm4 _ _ hf), T.cl_StripeForm, T.n_StripeForm_alphabet, rfl, (j : Int) - (k : Int), (v : Int), rfl, rfl, show (0 : Int) < (v : Int) by omega, ?_⟩
          refine ⟨i, (j + v - k) % v, show [vn i, V.int (((j : Int) - (k : Int)) % (v : Int))] = [vn i, vn ((j + v - k) % v)] by rw [sub_mod hk], fun H5 p1 s5 c1 => ⟨sl1, fun chs n7 => ?_⟩⟩
          have s7 := s5.trans (same_new (o := .tup [.ref p1]) n7)
          have s37 := sg.trans s7
          refine ⟨.ref D, rfl, .inl ⟨rfl, _, SqL.of (s37 _ _ eD)⟩, _, rfl, nlB.2.2, _, rfl, .inr ⟨(i : Int), rfl, fmt_ok (by omega), _, rfl, le100 (nl1 i (by omega)).2.2, _, rfl, .inr ⟨(k : Int), rfl, fmt_ok (by omega), _, rfl, le100 (nl2 i (by omega) k (by omega)).2.2, _, rfl, .inr ⟨(j : Int), rfl, fmt_ok (by omega), _, rfl, le100 (nl3 i (by omega) k (by omega) j (by omega)), ?_⟩⟩⟩⟩
          refine ⟨_, rfl, _, rfl, sl3, fun t3 n3 => ?_⟩
          have s38 := s37.trans (same_new (o := .tup [.str (rNm i k j), .ref g, .ref chs]) n3)
          have e9 := s38 _ _ eD
          refine ⟨D, _, _, rfl, rfl, e9, small_line (by rw [List.length_map, eas.1, List.length_append, List.length_append, List.length_map, List.length_range]; omega), ?_⟩
          have t10 := tk_lst (o := .lst (as.map V.ref ++ [.ref t3])) e9
          refine ⟨_, _, _, rfl, same_mut (sm4.trans s38) e0, ?_⟩
          rw [map_succ, ← List.append_assoc]
          refine DeedL.snoc eas ((same_tk s38).trans t10) upd_same ?_
          refine ⟨g, chs, t10 _ _ upd_same, ?_, ?_⟩
          · exact pg.tk ((same_tk (s7.trans (same_new n3))).trans t10)
          · refine ⟨[p1], t10 _ _ (same_new n3 _ _ upd_same), All2.cons ?_ All2.nil⟩
            exact c1.tk ((same_tk ((same_new n7).trans (same_new n3))).trans t10)
        · rintro σ H4 ⟨y4, y5, y6, rfl, sm4, hD4⟩
          refine ⟨_, _, _, _, rfl, sm4, by rw [flat_succ, ← List.append_assoc]; exact hD4, ?_⟩
          rw [flat_succ, List.length_append, List.length_map, List.length_range]; omega
      · rintro σ H3 ⟨y3, y4, y5, y6, rfl, sm3, hD3, hlen3⟩
        refine ⟨_, _, _, _, _, rfl, sm3, by rw [flat_succ, hpre]; exact hD3, ?_⟩
        rw [flat_succ, hpre, List.length_append]; omega
    · rintro σ H2 ⟨y2, y3, y4, y5, y6, rfl, sm, hD, hlen⟩
      exact ⟨_, rfl, q _ D sm hD⟩
end
end Rw
set_option Elab.async false
set_option linter.all false
set_option maxRecDepth 100000
set_option maxHeartbeats 4000000
/-! stripe_machine -/
namespace Rw
open PySem PySem.Spec PyProof.Rows L2
open Raised (Sk at0 Deed DeedOk Mach MachOk Good)
def goodB (z : Str) : Bool := decide (0 < z.length) && decide (z.length ≤ 12) && (match z.cps[0]? with | some c => lowS.cps.toList.contains c | none => false) && z.cps.toList.all fun c => lowS.cps.toList.contains c || digS.cps.toList.contains c
theorem goodB_ok {z : Str} (h : goodB z = true) : GoodName z := by
  unfold goodB at h
  rw [Bool.and_eq_true, Bool.and_eq_true, Bool.and_eq_true] at h
  obtain ⟨⟨⟨h1, h2⟩, h3⟩, h4⟩ := h
  refine ⟨of_decide_eq_true h1, of_decide_eq_true h2, ?_, fun c hc => ?_⟩
  · cases e : z.cps[0]? with
    | none => rw [e] at h3; exact absurd h3 Bool.false_ne_true
    | some c => rw [e] at h3; exact ⟨c, rfl, List.contains_iff_mem.mp h3⟩
  · have := List.all_eq_true.mp h4 c hc
    rw [Bool.or_eq_true] at this
    rcases this with h | h
    · exact .inl (List.contains_iff_mem.mp h)
    · exact .inr (List.contains_iff_mem.mp h)
def fitB (sizes : List Nat) (D : Deed) : Bool := (D.guard.all fun p => match sizes[p.1]? with | some z => decide (0 < p.2) && decide (p.2 < 2 ^ z) && decide (z ≤ 1000) | none => false) &&
  D.changes.all fun p => match sizes[p.1]? with | some z => decide (p.2 < z) | none => false
theorem fitB_ok {sizes : List Nat} {D : Deed} (h : fitB sizes D = true) : DeedFits sizes D := by
  unfold fitB at h
  rw [Bool.and_eq_true] at h
  refine ⟨fun p hp => ?_, fun p hp => ?_⟩
  · have := List.all_eq_true.mp h.1 p hp
    cases e : sizes[p.1]? with
    | none => rw [e] at this; exact absurd this Bool.false_ne_true
    | some z =>
      rw [e] at this
      simp only [Bool.and_eq_true, decide_eq_true_eq] at this
      exact ⟨z, rfl, this.1.1, this.1.2, this.2⟩
  · have := List.all_eq_true.mp h.2 p hp
    cases e : sizes[p.1]? with
    | none => rw [e] at this; exact absurd this Bool.false_ne_true
    | some z =>
      rw [e] at this
      exact ⟨z, rfl, of_decide_eq_true this⟩
def stripeZ (v : Nat) : List Nat := [v, v, v, 3]
def stripeM (v : Nat) : Mach := ⟨(stripeZ v).map fun z => 2 ^ z - 1, [1, 1, 1, 1], (stripeD v).map (·.2)⟩
theorem minput_of {v : Nat} (h1 : ((stripeC v).map (·.1)).all goodB = true) (h2 : ((stripeC v).map (·.1)).Nodup) (h3 : ∀ z ∈ (stripeC v).map (·.2), 1 ≤ z ∧ z ≤ 16) (h4 : (stripeD v).length ≤ 400) (h5 : ((stripeD v).map (·.1)).all goodB = true) (h6 : ((stripeD v).map (·.1)).Nodup)
    (h7 : ∀ p ∈ stripeD v, ((p.2.guard.map (·.1)).Pairwise (· < ·) ∧ ∀ c ∈ p.2.guard.map (·.1), c < 4) ∧ ((p.2.changes.map (·.1)).Pairwise (· < ·) ∧ ∀ c ∈ p.2.changes.map (·.1), c < 4) ∧ fitB (stripeZ v) p.2 = true) : MInput (stripeC v) (stripeD v) [1, 1, 1, 1] := by
  refine ⟨by show 1 ≤ 4; decide, by show 4 ≤ 24; decide, fun z hz => goodB_ok (List.all_eq_true.mp h1 z hz), h2, h3, h4, fun z hz => goodB_ok (List.all_eq_true.mp h5 z hz), h6, fun p hp => ⟨(h7 p hp).1, (h7 p hp).2.1, fitB_ok (h7 p hp).2.2⟩, rfl, fun i m z hm hz => ?_⟩
  have e1 := List.mem_of_getElem? hm
  have e2 := (h3 z (List.mem_of_getElem? hz)).1
  have : m = 1 := by simpa using e1
  subst this
  exact ⟨by decide, Nat.one_lt_two_pow (by omega)⟩
theorem minput2 : MInput (stripeC 2) (stripeD 2) [1, 1, 1, 1] := minput_of (by decide +kernel) (by decide +kernel) (by decide +kernel) (by decide +kernel) (by decide +kernel) (by decide +kernel) (by decide +kernel)
theorem minput3 : MInput (stripeC 3) (stripeD 3) [1, 1, 1, 1] := minput_of (by decide +kernel) (by decide +kernel) (by decide +kernel) (by decide +kernel) (by decide +kernel) (by decide +kernel) (by decide +kernel)
theorem minput {v : Nat} (h2 : 2 ≤ v) (h3 : v ≤ 3) : MInput (stripeC v) (stripeD v) [1, 1, 1, 1] := by
  rcases (by omega : v = 2 ∨ v = 3) with rfl | rfl
  · exact minput2
  · exact minput3
theorem mok_of {v : Nat} (h1 : ∀ m ∈ (stripeM v).full, m < 2 ^ 16) (h2 : Raised.meetL [1, 1, 1, 1] (stripeM v).full = [1, 1, 1, 1])
    (h3 : ∀ D ∈ (stripeM v).deeds, (∀ p ∈ D.guard, p.1 < 4) ∧ (∀ p ∈ D.changes, p.1 < 4) ∧ (D.changes.map (·.1)).Nodup) (h4 : ∀ D ∈ (stripeM v).deeds, ∀ p ∈ D.changes, (at0 (stripeM v).full p.1).testBit p.2 = true) (h5 : (stripeM v).deeds.length ≤ 400)
    (h6 : (Raised.allSk (stripeM v).full).length ≤ 4096) : MOk (stripeM v) :=
  ⟨⟨h1, ⟨rfl, by show ¬ 0 ∈ [1, 1, 1, 1]; decide, h2⟩, fun D hD => ⟨(h3 D hD).1, (h3 D hD).2.1, (h3 D hD).2.2⟩, h4⟩, rfl, h5, h6⟩
theorem mok2 : MOk (stripeM 2) := mok_of (by decide +kernel) (by decide +kernel) (by decide +kernel) (by decide +kernel) (by decide +kernel) (by decide +kernel)
theorem mok3 : MOk (stripeM 3) := mok_of (by decide +kernel) (by decide +kernel) (by decide +kernel) (by decide +kernel) (by decide +kernel) (by decide +kernel)
theorem mok {v : Nat} (h2 : 2 ≤ v) (h3 : v ≤ 3) : MOk (stripeM v) := by
  rcases (by omega : v = 2 ∨ v = 3) with rfl | rfl
  · exact mok2
  · exact mok3
section
variable {P : Program} {w : World} {K : PySem.W.Frag} {mg : Str → Option Value} {base : Heap} {A : Ad}
def spStripe (A : Ad) : Sp := fun vs H Q _ => ∃ (f : Addr) (v : Nat), vs = [.ref f] ∧ FormAt A H f v ∧ 2 ≤ v ∧ v ≤ 3 ∧ ∀ H' m cc dd ff, Same H H' → MachAt A.c_Machine H' m cc dd ff (stripeZ v) (stripeM v) → Q (.ref m) H'
theorem ok_stripe (T : Txt K mg A) : FnOk P w K mg base CX0 5 A.a_stripe_machine A.d_stripe_machine ["form"] (spStripe A) := by
  have G1 : FnOk P w K mg base CX0 2 _ _ _ _ := ok_begin T
  have G2 : FnOk P w K mg base CX0 2 _ _ _ _ := ok_end T
  have G3 : FnOk P w K mg base CX0 2 _ _ _ _ := ok_rebuild T
  have GM : FnOk P w K mg base CX0 3 _ _ _ _ := ok_minit T
  refine T.F_stripe_machine.ok sc_stripe_machine (fun vs H Q E h => ?_) (fun cdv Ar outer s H vs Q E hr h => ?_)
  · obtain ⟨f, v, rfl, _⟩ := h
    rfl
  · obtain ⟨f, v, rfl, hF, h2, h3, q⟩ := h
    obtain ⟨dx, hf⟩ := id hF
    have hr2 := hr.mono (show 2 ≤ 4 by decide)
    refine ⟨_, pss_cons (ps_set (i := 1) sc_stripe_machine.nd rfl (.inl rfl) (pe_lst (pa_cons (pe_tup (pa_cons pe_str (pa_cons (pe_fld (pv 0) rfl) pa_nil))) (pa_cons (pe_tup (pa_cons pe_str (pa_cons (pe_fld (pv 0) rfl) pa_nil))) (pa_cons (pe_tup (pa_cons pe_str (pa_cons (pe_fld (pv 0) rfl) pa_nil))) (pa_cons (pe_tup (pa_cons pe_str (pa_cons pe_int pa_nil))) pa_nil))))))
      (pss_cons (ps_set (i := 2) sc_stripe_machine.nd rfl (.inl rfl) (pe_op op_cat (pe_op op_cat (pe_call G1 hr2 (by rfl) T.g_begin_deeds T.F_begin_deeds.kp T.b_begin_deeds .nil pass0 (pa_cons (pv 0) pa_nil))
          (pe_call G2 hr2 (by rfl) T.g_end_deeds T.F_end_deeds.kp T.b_end_deeds .nil pass0 (pa_cons (pv 0) pa_nil))) (pe_call G3 hr2 (by rfl) T.g_rebuild_deeds T.F_rebuild_deeds.kp T.b_rebuild_deeds .nil pass0 (pa_cons (pv 0) pa_nil))))
      (pss_one (ps_ret (pe_make T.m_Machine_init GM hr (by rfl) T.g_Machine T.b_Machine_init .nil pass0 (pa_cons (pv 1) (pa_cons (pv 2) (pa_cons (pe_tup (pa_cons pe_int (pa_cons pe_int (pa_cons pe_int (pa_cons pe_int pa_nil))))) pa_nil))))))), ?_⟩
    have sl2 : 2 ≤ sizeLine := by rw [sizeLine_eq]; decide
    have sl4 : 4 ≤ sizeLine := by rw [sizeLine_eq]; decide
    refine ⟨_, rfl, f, A.c_StripeForm, dx, _, _, rfl, hf, T.cl_StripeForm, T.n_StripeForm_alphabet, rfl, sl2, fun t1 n1 => ?_⟩
    refine ⟨_, rfl, f, A.c_StripeForm, dx, _, _, rfl, same_new n1 _ _ hf, T.cl_StripeForm, T.n_StripeForm_alphabet, rfl, sl2, fun t2 n2 => ?_⟩
    refine ⟨_, rfl, f, A.c_StripeForm, dx, _, _, rfl, same_new n2 _ _ (same_new n1 _ _ hf), T.cl_StripeForm, T.n_StripeForm_alphabet, rfl, sl2, fun t3 n3 => ?_⟩
    refine ⟨sl2, fun t4 n4 => ⟨sl4, fun cl n5 => ?_⟩⟩
    have s1 := same_new (o := .tup [.str (tx "d0"), vn v]) n1
    have s2 := same_new (o := .tup [.str (tx "d1"), vn v]) n2
    have s3 := same_new (o := .tup [.str (tx "p"), vn v]) n3
    have s4 := same_new (o := .tup [.str (tx "w"), .int 3]) n4
    have s5 := same_new (o := .lst [.ref t1, .ref t2, .ref t3, .ref t4]) n5
    have s15 := s1.trans (s2.trans (s3.trans (s4.trans s5)))
    have hC : CellL (upd (upd (upd (upd (upd H t1 (.tup [.str (tx "d0"), vn v])) t2 (.tup [.str (tx "d1"), vn v])) t3 (.tup [.str (tx "p"), vn v])) t4 (.tup [.str (tx "w"), .int 3])) cl (.lst [.ref t1, .ref t2, .ref t3, .ref t4])) cl (stripeC v) :=
      ⟨[t1, t2, t3, t4], upd_same, All2.cons (s5 _ _ (s4 _ _ (s3 _ _ (s2 _ _ upd_same)))) (All2.cons (s5 _ _ (s4 _ _ (s3 _ _ upd_same))) (All2.cons (s5 _ _ (s4 _ _ upd_same)) (All2.cons (s5 _ _ upd_same) All2.nil)))⟩
    generalize upd (upd (upd (upd (upd H t1 (.tup [.str (tx "d0"), vn v])) t2 (.tup [.str (tx "d1"), vn v])) t3 (.tup [.str (tx "p"), vn v])) t4 (.tup [.str (tx "w"), .int 3])) cl (.lst [.ref t1, .ref t2, .ref t3, .ref t4]) = H5 at hC s15 ⊢
    refine ⟨_, rfl, f, v, rfl, hF.same s15, h2, h3, fun H6 l1 s6 d1 => ⟨_, rfl, f, v, rfl, hF.same (s15.trans s6), h2, h3, fun H7 l2 s7 d2 => ?_⟩⟩
    obtain ⟨as1, e1, a1⟩ := d1.same s7
    obtain ⟨as2, e2, a2⟩ := d2
    have hlen : (stripeD v).length ≤ 400 := (minput h2 h3).d4
    have hle : as1.length + as2.length ≤ 400 := by
      rw [a1.1, a2.1]
      unfold stripeD at hlen
      rw [List.length_append, List.length_append] at hlen
      omega
    refine ⟨l1, l2, _, _, rfl, rfl, e1, e2, Nat.le_of_lt (small_line (by rw [List.length_map, List.length_map]; omega)), fun r1 nr1 => ?_⟩
    have s8 := same_new (o := .lst (as1.map V.ref ++ as2.map V.ref)) nr1
    have d12 := DeedL.cat (r := r1) a1 a2 (tk_new (o := .lst (as1.map V.ref ++ as2.map V.ref)) nr1) upd_same
    have s58 := s6.trans (s7.trans s8)
    generalize upd H7 r1 (.lst (as1.map V.ref ++ as2.map V.ref)) = H8 at s8 d12 s58 ⊢
    refine ⟨_, rfl, f, v, rfl, hF.same (s15.trans s58), h2, h3, fun H9 l3 s9 d3 => ?_⟩
    obtain ⟨as12, e12, a12⟩ := d12.same s9
    obtain ⟨as3, e3, a3⟩ := d3
    have hle2 : as12.length + as3.length ≤ 400 := by
      rw [a12.1, a3.1, ← List.length_append]
      exact hlen
    refine ⟨r1, l3, _, _, rfl, rfl, e12, e3, Nat.le_of_lt (small_line (by rw [List.length_map, List.length_map]; omega)), fun r2 nr2 => ?_⟩
    have s10 := same_new (o := .lst (as12.map V.ref ++ as3.map V.ref)) nr2
    have dd : DeedL (upd H9 r2 (.lst (as12.map V.ref ++ as3.map V.ref))) r2 (stripeD v) := DeedL.cat (r := r2) a12 a3 (tk_new (o := .lst (as12.map V.ref ++ as3.map V.ref)) nr2) upd_same
    have s510 := s58.trans (s9.trans s10)
    generalize upd H9 r2 (.lst (as12.map V.ref ++ as3.map V.ref)) = H10 at s10 dd s510 ⊢
    refine ⟨_, rfl, _, rfl, sl4, fun ff nff => ?_⟩
    have s11 := same_new (o := .tup [.int 1, .int 1, .int 1, .int 1]) nff
    have s011 := s15.trans (s510.trans s11)
    have hC' : CellL (upd H10 ff (.tup [.int 1, .int 1, .int 1, .int 1])) cl (stripeC v) := by
      obtain ⟨as, z1, z2⟩ := hC
      exact ⟨as, s11 _ _ (s510 _ _ z1), z2.mono fun x p e => s11 _ _ (s510 _ _ e)⟩
    have hD' := dd.same s11
    have hff : SkAt (upd H10 ff (.tup [.int 1, .int 1, .int 1, .int 1])) ff [1, 1, 1, 1] := upd_same
    generalize upd H10 ff (.tup [.int 1, .int 1, .int 1, .int 1]) = H11 at s011 hC' hD' hff ⊢
    intro x xd nx nxd nex
    have sm : Same H11 (upd (upd H11 xd (.own x)) x (.ins A.c_Machine xd [])) := fun c o e => by
      rw [upd_ne (ne_of_none e nx), upd_ne (ne_of_none e nxd)]; exact e
    have hC2 : CellL (upd (upd H11 xd (.own x)) x (.ins A.c_Machine xd [])) cl (stripeC v) := by
      obtain ⟨as, z1, z2⟩ := hC'
      exact ⟨as, sm _ _ z1, z2.mono fun x p e => sm _ _ e⟩
    refine ⟨x, xd, cl, r2, ff, stripeC v, stripeD v, [1, 1, 1, 1], rfl, upd_same, hC2, hD'.same sm, sm _ _ hff, minput h2 h3, fun H' cc dd' k t hM => ⟨rfl, ?_⟩⟩
    exact q H' x cc dd' ff (s011.trans (k.same sm (fun p hp => by rw [List.mem_singleton] at hp; rw [hp]; exact nx))) hM
end
end Rw
set_option Elab.async false
set_option linter.all false
set_option maxRecDepth 100000
set_option maxHeartbeats 4000000
/-! the law's helpers: _law_cell, _law_mix, _law_names -/
namespace Rw
open PySem PySem.Spec PyProof.Rows L2
open Raised (Sk at0 Deed DeedOk Mach MachOk Good)
section
variable {P : Program} {w : World} {K : PySem.W.Frag} {mg : Str → Option Value} {base : Heap} {A : Ad}
/-! ### _law_cell -/
def spLCell (K : PySem.W.Frag) : Sp := fun vs H Q _ => ∃ (a : Addr) (k : Int) (ns : List Int), vs = [.ref a, .int k] ∧ 0 ≤ k ∧ SqL K H a (ns.map V.int) ∧ ns.length ≤ 63 ∧ ∀ r : Int, Q (.int r) H
theorem ok_law_cell (T : Txt K mg A) : FnOk P w K mg base CX0 1 A.a_law_cell A.d_law_cell ["_law_script", "_law_k"] (spLCell K) := by
  refine T.F_law_cell.ok sc_law_cell (fun vs H Q E h => ?_) (fun cdv Ar outer s H vs Q E hr h => ?_)
  · obtain ⟨a, k, ns, rfl, _⟩ := h
    rfl
  · obtain ⟨a, k, ns, rfl, h0, hs, hl, q⟩ := h
    refine ⟨_, pss_cons (ps_if (pt_cmpR op_lt (pv 1) (pe_callB call_len_seq (by rfl) T.z_len PySem.boot_len (pa_cons (pv 0) pa_nil)) (nomark _))
        (pss_one (ps_ret (pe_callTy call_int1 (by rfl) T.z_int (by decide +kernel) (pa_cons (pe_ix ix_list (pv 0) (pv 1) (fun _ _ => rfl)) pa_nil)))) pss_nil)
      (pss_one (ps_ret pe_int)), ?_⟩
    refine ⟨_, rfl, _, rfl, a, _, rfl, .inl hs, _, _, rfl, rfl, _, rfl, ?_⟩
    refine ite2 (fun e => ?_) (fun e => q 0)
    have e := of_decide_eq_true e
    rw [List.length_map] at e
    obtain ⟨j, rfl⟩ := Int.eq_ofNat_of_zero_le h0
    have hk : j < ns.length := by omega
    exact ⟨_, rfl, _, rfl, a, _, (j : Int), .int ns[j], rfl, rfl, hs, atI_nat (by rw [List.getElem?_map, List.getElem?_eq_getElem hk]; rfl), .inl ⟨_, rfl, q _⟩⟩
/-! ### _law_mix -/
def spLMix : Sp := fun vs H Q _ => ∃ c k : Int, vs = [.int c, .int k] ∧ ∀ r : Int, Q (.int r) H
theorem cmul_r {i j : Int} (h : -(2 ^ 64) < j ∧ j < 2 ^ 64) : CMul i j := .inr h
theorem ok_law_mix (T : Txt K mg A) : FnOk P w K mg base CX0 1 A.a_law_mix A.d_law_mix ["_law_cell_here", "_law_k"] spLMix := by
  refine T.F_law_mix.ok sc_law_mix (fun vs H Q E h => ?_) (fun cdv Ar outer s H vs Q E hr h => ?_)
  · obtain ⟨c, k, rfl, _⟩ := h
    rfl
  · obtain ⟨c, k, rfl, q⟩ := h
    refine ⟨_, pss_cons (ps_set (i := 2) sc_law_mix.nd rfl (.inl rfl) (pe_op op_mod (pe_callTy call_int1 (by rfl) T.z_int (by decide +kernel) (pa_cons (pe_op op_add (pe_op op_add (pe_op op_mul (pv 0) pe_int) (pe_op op_mul (pv 1) pe_int)) pe_int) pa_nil)) pe_int))
      (pss_cons (ps_set (i := 2) sc_law_mix.nd rfl (.inl rfl) (pe_op op_mod (pe_callTy call_int1 (by rfl) T.z_int (by decide +kernel) (pa_cons (pe_op op_add (pe_op op_add (pe_op op_mul (pv 2) pe_int) (pe_op op_mul (pv 1) pe_int)) pe_int) pa_nil)) pe_int))
      (pss_one (ps_ret (pe_op op_fdiv (pv 2) pe_int)))), ?_⟩
    refine ⟨_, rfl, _, _, rfl, rfl, cmul_r (by decide), _, rfl, _, _, rfl, rfl, cmul_r (by decide), _, _, rfl, rfl, _, _, rfl, rfl, .inl ⟨_, rfl, _, _, rfl, rfl, show (0 : Int) < 2147483647 by decide, ?_⟩⟩
    refine ⟨_, rfl, _, _, rfl, rfl, cmul_r (by decide), _, rfl, _, _, rfl, rfl, cmul_r (by decide), _, _, rfl, rfl, _, _, rfl, rfl, .inl ⟨_, rfl, _, _, rfl, rfl, show (0 : Int) < 2147483629 by decide, ?_⟩⟩
    exact ⟨_, rfl, _, _, rfl, rfl, ⟨show (0 : Int) < 997 by decide, show (997 : Int) < 1073741824 by decide⟩, q _⟩
/-! ### _law_names -/
inductive LN where
  | bg (i x : Nat)
  | en (a b : Nat)
  | rb (i o p : Nat)
deriving DecidableEq
def txN (n : Nat) : Str := (toString (n : Int) : Str)
def LN.text : LN → Str
  | .bg i x => tx "b" ++ (if i = 0 then tx "0" else tx "1") ++ txN x
  | .en a b => tx "e" ++ txN a ++ txN b
  | .rb i o p => tx "r" ++ (if i = 0 then tx "0" else tx "1") ++ txN o ++ txN p
def lnB (v i : Nat) : List LN := (List.range v).map fun x => .bg i x
def lnE (v a : Nat) : List LN := (List.range v).map fun b => .en a b
def lnR (v i o : Nat) : List LN := (List.range v).map fun p => .rb i o p
def lawL (v : Nat) : List LN := ((List.range 2).flatMap (lnB v)) ++ ((List.range v).flatMap (lnE v)) ++ (List.range 2).flatMap fun i => (List.range v).flatMap (lnR v i)
def txs (l : List LN) : List V := l.map fun n => .str n.text
theorem txs_app (a b : List LN) : txs (a ++ b) = txs a ++ txs b := List.map_append
theorem txs_len (a : List LN) : (txs a).length = a.length := List.length_map _
def spLNames : Sp := fun vs H Q _ => ∃ v : Nat, vs = [vn v] ∧ 2 ≤ v ∧ v ≤ 3 ∧ ∀ H' l, Same H H' → H' l = some (.lst (txs (lawL v))) → Q (.ref l) H'
def rStrI : List V → Hp → VK → Prop := fun xs H Q => ∃ i, xs = [.int i] ∧ i.natAbs.log2 < 1920 ∧ Q (.str (toString i)) H
def rAddS : R2 := fun x y H Q => ∃ i j, x = .str i ∧ y = .str j ∧ i.length + j.length ≤ sizeLine ∧ Q (.str (i ++ j)) H
theorem lc1 : ∀ i : Nat, i < 5 → (txN i).length ≤ 10 ∧ (tx "b" ++ tx "0").length ≤ 10 ∧ (tx "b" ++ tx "1").length ≤ 10 ∧ (tx "r" ++ tx "0").length ≤ 10 ∧ (tx "r" ++ tx "1").length ≤ 10 ∧ (tx "e" ++ txN i).length ≤ 10 ∧ (tx "r" ++ tx "0" ++ txN i).length ≤ 10 ∧ (tx "r" ++ tx "1" ++ txN i).length ≤ 10 := by decide +kernel
theorem lc0 : (tx "b").length + (tx "0").length ≤ sizeLine ∧ (tx "b").length + (tx "1").length ≤ sizeLine ∧ (tx "r").length + (tx "0").length ≤ sizeLine ∧ (tx "r").length + (tx "1").length ≤ sizeLine ∧ (tx "e").length ≤ 10 := by rw [sizeLine_eq]; decide +kernel
theorem add10 {a b : Nat} (h : a ≤ 10) (h' : b ≤ 10) : a + b ≤ sizeLine := Nat.le_of_lt (small_line (by omega))
theorem ys_eq {ys : List V} {n : Nat} {f : Nat → V} (hl : ys.length = n) (h : ∀ (i : Nat) (y : V), ys[i]? = some y → y = f i) : ys = (List.range n).map f := by
  refine eq_of_get (by rw [hl]; simp) fun i y hy => ?_
  have hi := (List.getElem?_eq_some_iff.mp hy).1
  rw [List.getElem?_map, List.getElem?_range (by omega), h i y hy]; rfl
theorem dig01 {i : Nat} {x : V} (h : [V.str (tx "0"), V.str (tx "1")][i]? = some x) : i < 2 ∧ x = .str (if i = 0 then tx "0" else tx "1") := by
  match i, h with
  | 0, h => exact ⟨by decide, (Option.some.inj h).symm⟩
  | 1, h => exact ⟨by decide, (Option.some.inj h).symm⟩
  | i + 2, h => exact absurd h (by simp)
theorem ok_law_names (T : Txt K mg A) : FnOk P w K mg base CX0 1 A.a_law_names A.d_law_names ["_law_values"] spLNames := by
  refine T.F_law_names.ok sc_law_names (fun vs H Q E h => ?_) (fun cdv Ar outer s H vs Q E hr h => ?_)
  · obtain ⟨v, rfl, _⟩ := h
    rfl
  · obtain ⟨v, rfl, h2, h3, q⟩ := h
    refine ⟨_, pss_cons (ps_set (i := 1) sc_law_names.nd rfl (.inl rfl) (pe_lst pa_nil))
      (pss_cons (ps_for PassesOwn.never rfl (pi_tup (pe_tup (pa_cons pe_str (pa_cons pe_str pa_nil)))) (pg_name (i := 2) sc_law_names.nd rfl (.inr rfl))
        (pss_one (ps_set (i := 1) sc_law_names.nd rfl (.inl rfl) (pe_op op_cat (pv 1)
          (pe_lc (own := [("_law_value", 5)]) (g := gName 5) (tt := tYes) (te := tOp rAddS (tOp rAddS (tC (.str (tx "b"))) (tVar 2)) (tCB rStrI (tCons (tVar 5) tNil))) rfl sc_law_names.nd (pi_range1 rfl T.z_range (pa_cons (pv 0) pa_nil))
            (blkOk_by (N := ["_law_values", "_law_names_here", "_law_number", "_law_first", "_law_other", "_law_value", "_law_second", "_law_parity"]) (sc := defScope s_law_names) (by decide +kernel))
            (fun _ _ _ _ _ => pg_name (i := 5) sc_law_names.nd rfl (Or.inl rfl)) (fun _ _ _ _ _ => pts_nil) (fun _ _ _ _ _ => pe_op op_add_str (pe_op op_add_str pe_str (pv 2)) (pe_callTy call_str_int (by rfl) T.z_str (by decide +kernel) (pa_cons (pv 5) pa_nil))))))))
      (pss_cons (ps_for PassesOwn.never rfl (pi_range1 rfl T.z_range (pa_cons (pv 0) pa_nil)) (pg_name (i := 3) sc_law_names.nd rfl (.inr rfl))
        (pss_one (ps_set (i := 1) sc_law_names.nd rfl (.inl rfl) (pe_op op_cat (pv 1)
          (pe_lc (own := [("_law_second", 6)]) (g := gName 6) (tt := tYes) (te := tOp rAddS (tOp rAddS (tC (.str (tx "e"))) (tCB rStrI (tCons (tVar 3) tNil))) (tCB rStrI (tCons (tVar 6) tNil))) rfl sc_law_names.nd (pi_range1 rfl T.z_range (pa_cons (pv 0) pa_nil))
            (blkOk_by (N := ["_law_values", "_law_names_here", "_law_number", "_law_first", "_law_other", "_law_value", "_law_second", "_law_parity"]) (sc := defScope s_law_names) (by decide +kernel))
            (fun _ _ _ _ _ => pg_name (i := 6) sc_law_names.nd rfl (Or.inl rfl)) (fun _ _ _ _ _ => pts_nil) (fun _ _ _ _ _ => pe_op op_add_str (pe_op op_add_str pe_str (pe_callTy call_str_int (by rfl) T.z_str (by decide +kernel) (pa_cons (pv 3) pa_nil))) (pe_callTy call_str_int (by rfl) T.z_str (by decide +kernel) (pa_cons (pv 6) pa_nil))))))))
      (pss_cons (ps_for PassesOwn.never rfl (pi_tup (pe_tup (pa_cons pe_str (pa_cons pe_str pa_nil)))) (pg_name (i := 2) sc_law_names.nd rfl (.inr rfl))
        (pss_one (ps_for PassesOwn.never rfl (pi_range1 rfl T.z_range (pa_cons (pv 0) pa_nil)) (pg_name (i := 4) sc_law_names.nd rfl (.inr rfl))
        (pss_one (ps_set (i := 1) sc_law_names.nd rfl (.inl rfl) (pe_op op_cat (pv 1)
          (pe_lc (own := [("_law_parity", 7)]) (g := gName 7) (tt := tYes) (te := tOp rAddS (tOp rAddS (tOp rAddS (tC (.str (tx "r"))) (tVar 2)) (tCB rStrI (tCons (tVar 4) tNil))) (tCB rStrI (tCons (tVar 7) tNil))) rfl sc_law_names.nd (pi_range1 rfl T.z_range (pa_cons (pv 0) pa_nil))
            (blkOk_by (N := ["_law_values", "_law_names_here", "_law_number", "_law_first", "_law_other", "_law_value", "_law_second", "_law_parity"]) (sc := defScope s_law_names) (by decide +kernel))
            (fun _ _ _ _ _ => pg_name (i := 7) sc_law_names.nd rfl (Or.inl rfl)) (fun _ _ _ _ _ => pts_nil) (fun _ _ _ _ _ => pe_op op_add_str (pe_op op_add_str (pe_op op_add_str pe_str (pv 2)) (pe_callTy call_str_int (by rfl) T.z_str (by decide +kernel) (pa_cons (pv 4) pa_nil))) (pe_callTy call_str_int (by rfl) T.z_str (by decide +kernel) (pa_cons (pv 7) pa_nil))))))))))
      (pss_one (ps_ret (pv 1)))))), ?_⟩
    have sl2 : 2 ≤ sizeLine := by rw [sizeLine_eq]; decide
    refine ⟨Nat.zero_le _, fun D0 nD0 => ⟨sl2, fun t nt => ⟨t, rfl, ⟨_, SqT.of upd_same⟩, ?_⟩⟩⟩
    have et : (upd (upd H D0 (.lst [])) t (.tup [.str (tx "0"), .str (tx "1")])) t = some (.tup [.str (tx "0"), .str (tx "1")]) := upd_same
    have sD := (same_new (o := .lst []) nD0).trans (same_new (o := .tup [.str (tx "0"), .str (tx "1")]) nt)
    have eD0 := same_new (o := .tup [.str (tx "0"), .str (tx "1")]) nt _ _ (upd_same (H := H) (a := D0) (o := .lst []))
    generalize upd (upd H D0 (.lst [])) t (.tup [.str (tx "0"), .str (tx "1")]) = H1 at et sD eD0 ⊢
    refine for_tup (K := K) (a := t) (xs := [.str (tx "0"), .str (tx "1")]) (fun i σ H2 => ∃ (D : Addr) (y2 y3 y4 : Option V), σ = [some (vn v), some (.ref D), y2, y3, y4, none, none, none] ∧ Same H1 H2 ∧ H2 D = some (.lst (txs ((List.range i).flatMap (lnB v)))) ∧ ((List.range i).flatMap (lnB v)).length ≤ 3 * i)
      ⟨D0, none, none, none, rfl, Same.refl _, eD0, Nat.le_refl _⟩ (fun i σ H2 _ ⟨_, _, _, _, _, sm, _⟩ => SqT.of (sm _ _ et)) ?_ ?_
    · rintro i x σ H2 hx ⟨D, y2, y3, y4, rfl, sm, eD, hlen⟩
      obtain ⟨hi, rfl⟩ := dig01 hx
      refine ⟨_, rfl, _, rfl, (v : Int), rfl, by omega, by omega, fun D1 nD1 => ?_⟩
      rw [Int.toNat_natCast]
      refine lc_all (walk_range (lo := 0) (n := v)) nD1 (by omega) (fun _ _ => trivial) (fun j y _ => y = .str (LN.text (.bg i j))) (fun _ _ _ _ _ h => h) ?_ ?_
      · rintro j x H3 H4 R N hj s3 ⟨e1, e2⟩ hR
        have e2' : x = vn j := by rw [e2]; exact congrArg V.int (Int.zero_add _)
        subst e1 e2'
        refine ⟨rfl, yes_of (iteT ?_)⟩
        refine ⟨_, rfl, _, _, rfl, rfl, (by split; exact lc0.1; exact lc0.2.1), _, rfl, (j : Int), rfl, fmt_ok (by omega), _, _, rfl, rfl, ?_, hR _ _ (Same.refl _) rfl⟩
        refine add10 ?_ (lc1 j (by omega)).1
        split
        · exact (lc1 0 (by decide)).2.1
        · exact (lc1 0 (by decide)).2.2.1
      · intro H3 ys s3 eD1 hys hall
        have ey := ys_eq hys hall
        subst ey
        refine ⟨D, D1, _, _, rfl, rfl, s3 _ _ eD, eD1, ?_, fun r nr => ?_⟩
        · rw [txs_len, List.length_map, List.length_range]; exact Nat.le_of_lt (small_line (by omega))
        · refine ⟨r, _, _, _, rfl, sm.trans (s3.trans (same_new nr)), ?_, ?_⟩
          · rw [upd_same, flat_succ, txs_app]
            congr 3
            unfold lnB txs
            rw [List.map_map]; rfl
          · rw [flat_succ, List.length_append]; unfold lnB at hlen ⊢; rw [List.length_map, List.length_range]; omega
    rintro σ H2 ⟨D, y2, y3, y4, rfl, sm, eD, hlen⟩
    replace eD : H2 D = some (.lst (txs ((List.range 2).flatMap (lnB v)))) := eD
    replace hlen : ((List.range 2).flatMap (lnB v)).length ≤ 6 := hlen
    unfold lawL at q
    generalize (List.range 2).flatMap (lnB v) = p1 at eD hlen q
    refine ⟨_, rfl, (v : Int), rfl, by omega, by omega, ?_⟩
    rw [Int.toNat_natCast]
    refine for_range (lo := 0) (n := v) (fun a σ H3 => ∃ (D : Addr) (y2 y3 y4 : Option V), σ = [some (vn v), some (.ref D), y2, y3, y4, none, none, none] ∧ Same H1 H3 ∧ H3 D = some (.lst (txs (p1 ++ (List.range a).flatMap (lnE v)))) ∧ ((List.range a).flatMap (lnE v)).length ≤ 3 * a)
      ⟨D, y2, y3, y4, rfl, sm, by rw [List.range_zero, List.flatMap_nil, List.append_nil]; exact eD, Nat.le_refl _⟩ ?_ ?_
    · rintro a σ H2 ha ⟨D, y2, y3, y4, rfl, sm, eD, hlen2⟩
      rw [Int.zero_add]
      refine ⟨_, rfl, _, rfl, (v : Int), rfl, by omega, by omega, fun D1 nD1 => ?_⟩
      rw [Int.toNat_natCast]
      refine lc_all (walk_range (lo := 0) (n := v)) nD1 (by omega) (fun _ _ => trivial) (fun j y _ => y = .str (LN.text (.en a j))) (fun _ _ _ _ _ h => h) ?_ ?_
      · rintro j x H3 H4 R N hj s3 ⟨e1, e2⟩ hR
        have e2' : x = vn j := by rw [e2]; exact congrArg V.int (Int.zero_add _)
        subst e1 e2'
        refine ⟨rfl, yes_of (iteT ?_)⟩
        refine ⟨_, rfl, (a : Int), rfl, fmt_ok (by omega), _, _, rfl, rfl, add10 lc0.2.2.2.2 (lc1 a (by omega)).1, _, rfl, (j : Int), rfl, fmt_ok (by omega), _, _, rfl, rfl, add10 (lc1 a (by omega)).2.2.2.2.2.1 (lc1 j (by omega)).1, hR _ _ (Same.refl _) rfl⟩
      · intro H3 ys s3 eD1 hys hall
        have ey := ys_eq hys hall
        subst ey
        refine ⟨D, D1, _, _, rfl, rfl, s3 _ _ eD, eD1, ?_, fun r nr => ?_⟩
        · rw [txs_len, List.length_append, List.length_map, List.length_range]; exact Nat.le_of_lt (small_line (by omega))
        · refine ⟨r, _, _, _, rfl, sm.trans (s3.trans (same_new nr)), ?_, ?_⟩
          · rw [upd_same, flat_succ, ← List.append_assoc, txs_app _ (lnE v a)]
            congr 3
            unfold lnE txs
            rw [List.map_map]; rfl
          · rw [flat_succ, List.length_append]; unfold lnE at hlen2 ⊢; rw [List.length_map, List.length_range]; omega
    rintro σ H2 ⟨D, y2, y3, y4, rfl, sm, eD, hlen2⟩
    have hp2 : (p1 ++ (List.range v).flatMap (lnE v)).length ≤ 20 := by rw [List.length_append]; omega
    generalize p1 ++ (List.range v).flatMap (lnE v) = p2 at eD hp2 q
    refine ⟨sl2, fun t2 nt2 => ⟨t2, rfl, ⟨_, SqT.of upd_same⟩, ?_⟩⟩
    have et2 : (upd H2 t2 (.tup [.str (tx "0"), .str (tx "1")])) t2 = some (.tup [.str (tx "0"), .str (tx "1")]) := upd_same
    have sm2 := sm.trans (same_new (o := .tup [.str (tx "0"), .str (tx "1")]) nt2)
    have eD2 := same_new (o := .tup [.str (tx "0"), .str (tx "1")]) nt2 _ _ eD
    generalize upd H2 t2 (.tup [.str (tx "0"), .str (tx "1")]) = H3 at et2 sm2 eD2 ⊢
    refine for_tup (K := K) (a := t2) (xs := [.str (tx "0"), .str (tx "1")]) (fun i σ H4 => ∃ (D : Addr) (y2 y3 y4 : Option V), σ = [some (vn v), some (.ref D), y2, y3, y4, none, none, none] ∧ Same H3 H4 ∧ H4 D = some (.lst (txs (p2 ++ (List.range i).flatMap fun i => (List.range v).flatMap (lnR v i)))) ∧ ((List.range i).flatMap fun i => (List.range v).flatMap (lnR v i)).length ≤ 9 * i)
      ⟨D, y2, y3, y4, rfl, Same.refl _, by rw [List.range_zero, List.flatMap_nil, List.append_nil]; exact eD2, Nat.le_refl _⟩ (fun i σ H2 _ ⟨_, _, _, _, _, sm, _⟩ => SqT.of (sm _ _ et2)) ?_ ?_
    · rintro i x σ H4 hx ⟨D, y2, y3, y4, rfl, sm4, eD4, hlen4⟩
      obtain ⟨hi, rfl⟩ := dig01 hx
      refine ⟨_, rfl, (v : Int), rfl, by omega, by omega, ?_⟩
      rw [Int.toNat_natCast]
      generalize hpre : ((List.range i).flatMap fun i => (List.range v).flatMap (lnR v i)) = pre at eD4 hlen4
      refine for_range (lo := 0) (n := v) (fun o σ H5 => ∃ (D : Addr) (y3 y4 : Option V), σ = [some (vn v), some (.ref D), some (V.str (if i = 0 then tx "0" else tx "1")), y3, y4, none, none, none] ∧ Same H3 H5 ∧ H5 D = some (.lst (txs ((p2 ++ pre) ++ (List.range o).flatMap (lnR v i)))) ∧ ((List.range o).flatMap (lnR v i)).length ≤ 3 * o)
        ⟨D, y3, y4, rfl, sm4, by rw [List.range_zero, List.flatMap_nil, List.append_nil]; exact eD4, Nat.le_refl _⟩ ?_ ?_
      · rintro o σ H5 ho ⟨D, y3, y4, rfl, sm5, eD5, hlen5⟩
        rw [Int.zero_add]
        refine ⟨_, rfl, _, rfl, (v : Int), rfl, by omega, by omega, fun D1 nD1 => ?_⟩
        rw [Int.toNat_natCast]
        refine lc_all (walk_range (lo := 0) (n := v)) nD1 (by omega) (fun _ _ => trivial) (fun j y _ => y = .str (LN.text (.rb i o j))) (fun _ _ _ _ _ h => h) ?_ ?_
        · rintro j x H6 H7 R N hj s3 ⟨e1, e2⟩ hR
          have e2' : x = vn j := by rw [e2]; exact congrArg V.int (Int.zero_add _)
          subst e1 e2'
          refine ⟨rfl, yes_of (iteT ?_)⟩
          refine ⟨_, rfl, _, _, rfl, rfl, (by split; exact lc0.2.2.1; exact lc0.2.2.2.1), _, rfl, (o : Int), rfl, fmt_ok (by omega), _, _, rfl, rfl, add10 (by split; exact (lc1 0 (by decide)).2.2.2.1; exact (lc1 0 (by decide)).2.2.2.2.1) (lc1 o (by omega)).1, _, rfl, (j : Int), rfl, fmt_ok (by omega), _, _, rfl, rfl, add10 (by split; exact (lc1 o (by omega)).2.2.2.2.2.2.1; exact (lc1 o (by omega)).2.2.2.2.2.2.2) (lc1 j (by omega)).1, hR _ _ (Same.refl _) rfl⟩
        · intro H6 ys s3 eD1 hys hall
          have ey := ys_eq hys hall
          subst ey
          refine ⟨D, D1, _, _, rfl, rfl, s3 _ _ eD5, eD1, ?_, fun r nr => ?_⟩
          · rw [txs_len, List.length_append, List.length_append, List.length_map, List.length_range]; exact Nat.le_of_lt (small_line (by omega))
          · refine ⟨r, _, _, rfl, sm5.trans (s3.trans (same_new nr)), ?_, ?_⟩
            · rw [upd_same, flat_succ, ← List.append_assoc, txs_app _ (lnR v i o)]
              congr 3
              unfold lnR txs
              rw [List.map_map]; rfl
            · rw [flat_succ, List.length_append]; unfold lnR at hlen5 ⊢; rw [List.length_map, List.length_range]; omega
      · rintro σ H5 ⟨D, y3, y4, rfl, sm5, eD5, hlen5⟩
        refine ⟨D, _, _, _, rfl, sm5, by rw [flat_succ, hpre, ← List.append_assoc]; exact eD5, ?_⟩
        rw [flat_succ, hpre, List.length_append]; omega
    rintro σ H4 ⟨D, y2, y3, y4, rfl, sm4, eD4, hlen4⟩
    exact ⟨_, rfl, q _ D (sD.trans (sm2.trans sm4)) eD4⟩
end
end Rw
set_option Elab.async false
set_option linter.all false
set_option maxRecDepth 100000
set_option maxHeartbeats 4000000
/-! _law_stripe -/
namespace Rw
open PySem PySem.Spec PyProof.Rows L2
open Raised (Sk at0 Deed DeedOk Mach MachOk Good)
def subm (p o v : Nat) : Nat := (((p : Int) - (o : Int)) % (v : Int)).toNat
theorem subm_eq {p o v : Nat} (h : 0 < v) : ((p : Int) - (o : Int)) % (v : Int) = (subm p o v : Int) := by
  unfold subm
  rw [Int.toNat_of_nonneg (Int.emod_nonneg _ (by omega))]
def lawStep (v : Nat) (d : List Nat) : LN → Option (List Nat)
  | .bg i x => if at0 d 3 = 0 then some ((d.set i x).set 3 (1 + i)) else none
  | .en a b => if at0 d 3 = 0 then none else if at0 d 0 = a ∧ at0 d 1 = b then some [at0 d 0, at0 d 1, (at0 d 0 + at0 d 1) % v, 0] else none
  | .rb i o p => if at0 d 3 = 0 then (if at0 d (1 - i) = o then (if at0 d 2 = p then some (d.set i (subm (at0 d 2) (at0 d (1 - i)) v)) else none) else none) else none
def LN.let_ : LN → Str
  | .bg _ _ => tx "b"
  | .en _ _ => tx "e"
  | .rb _ _ _ => tx "r"
def LN.digs : LN → List Nat
  | .bg i x => [i, x]
  | .en a b => [a, b]
  | .rb i o p => [i, o, p]
def LN.ok : LN → Prop
  | .bg i _ => i < 2
  | .en _ _ => True
  | .rb i _ _ => i < 2
structure LnFact (n : LN) : Prop where
  len : n.text.length ≤ 10
  hd : ∃ c, n.text.cps.toList[0]? = some c ∧ (⟨#[c]⟩ : Str) = n.let_
  tl : (cutS n.text (some 1) none).cps.size = n.digs.length
  dg : ∀ (i c : Nat), (cutS n.text (some 1) none).cps[i]? = some c → ∃ m, n.digs[i]? = some m ∧ PySem.intText? ⟨#[c]⟩ = some (m : Int)
  ok : n.ok
instance (n : LN) : Decidable n.ok := by cases n <;> unfold LN.ok <;> exact inferInstance
def lnB' (n : LN) : Bool := decide (n.text.length ≤ 10) && (match n.text.cps.toList[0]? with | some c => decide ((⟨#[c]⟩ : Str) = n.let_) | none => false) && decide ((cutS n.text (some 1) none).cps.toList.map (fun c => PySem.intText? ⟨#[c]⟩) = n.digs.map fun (m : Nat) => some (m : Int)) && decide n.ok
theorem lnB_ok {n : LN} (h : lnB' n = true) : LnFact n := by
  unfold lnB' at h
  rw [Bool.and_eq_true, Bool.and_eq_true, Bool.and_eq_true] at h
  obtain ⟨⟨⟨h1, h2⟩, h3⟩, h4⟩ := h
  have h3 := of_decide_eq_true h3
  refine ⟨of_decide_eq_true h1, ?_, ?_, fun i c hc => ?_, of_decide_eq_true h4⟩
  · cases e : n.text.cps.toList[0]? with
    | none => rw [e] at h2; exact absurd h2 Bool.false_ne_true
    | some c => rw [e] at h2; exact ⟨c, rfl, of_decide_eq_true h2⟩
  · have := congrArg List.length h3
    simpa using this
  · have e : ((cutS n.text (some 1) none).cps.toList.map (fun c => PySem.intText? ⟨#[c]⟩))[i]? = some (PySem.intText? ⟨#[c]⟩) := by
      rw [List.getElem?_map, Array.getElem?_toList, hc]; rfl
    rw [h3, List.getElem?_map] at e
    cases em : n.digs[i]? with
    | none => rw [em] at e; cases e
    | some m => rw [em] at e; exact ⟨m, rfl, (Option.some.inj e).symm⟩
theorem lnAll2 : (lawL 2).all lnB' = true := by decide +kernel
theorem lnAll3 : (lawL 3).all lnB' = true := by decide +kernel
theorem ln_fact {v : Nat} (h2 : 2 ≤ v) (h3 : v ≤ 3) {n : LN} (hn : n ∈ lawL v) : LnFact n := by
  rcases (by omega : v = 2 ∨ v = 3) with rfl | rfl
  · exact lnB_ok (List.all_eq_true.mp lnAll2 n hn)
  · exact lnB_ok (List.all_eq_true.mp lnAll3 n hn)
theorem neT {m n : Nat} (h : m ≠ n) : (!decide (V.int (m : Int) = V.int (n : Int))) = true := by rw [vn_eq, decide_eq_false h]; rfl
theorem neF {m n : Nat} (h : m = n) : (!decide (V.int (m : Int) = V.int (n : Int))) = false := by rw [vn_eq, decide_eq_true h]; rfl
theorem eqT {m n : Nat} (h : m = n) : (decide (V.int (m : Int) = V.int (n : Int))) = true := by rw [vn_eq, decide_eq_true h]
theorem eqF {m n : Nat} (h : m ≠ n) : (decide (V.int (m : Int) = V.int (n : Int))) = false := by rw [vn_eq, decide_eq_false h]
theorem eqv2 (a b c d : Nat) : PyData.eqv (.tuple [.int (a : Int), .int (b : Int)]) (.tuple [.int (c : Int), .int (d : Int)]) = (decide (a = c) && decide (b = d)) := by
  have h : ∀ m n : Nat, ((m : Int) == (n : Int)) = decide (m = n) := fun m n => by rw [Bool.eq_iff_iff]; simp; omega
  simp only [PyData.eqv, PyData.eqvAll, h, Bool.and_true]
theorem sNe {s t : Str} (h : s ≠ t) : decide (V.str s = V.str t) = false := decide_eq_false fun e => h (V.str.inj e)
theorem ix4 {K : PySem.W.Frag} {H : Hp} {a : Addr} {ds : List Nat} (hd : SkAt H a ds) (hl : ds.length = 4) {j : Nat} (hj : j < 4) : SqT K H a (vns ds) ∧ atI (vns ds) (j : Int) = some (vn (at0 ds j)) := ⟨hd.sq, atI_nat (vns_get (of_at0 (by omega)))⟩
section
variable {P : Program} {w : World} {K : PySem.W.Frag} {mg : Str → Option Value} {base : Heap} {A : Ad}
def spLStripe : Sp := fun vs H Q _ => ∃ (v : Nat) (a : Addr) (ds : List Nat) (n : LN), vs = [vn v, .ref a, .str n.text] ∧ 0 < v ∧ SkAt H a ds ∧ ds.length = 4 ∧ LnFact n ∧ ∀ H' x, Same H H' → OptSk H' x (lawStep v ds n) → Q x H'
def rIntS : List V → Hp → VK → Prop := fun xs H Q => ∃ a n, xs = [.str a] ∧ PySem.intText? a = some n ∧ a.length ≤ 640 ∧ Q (.int n) H
theorem ok_law_stripe (T : Txt K mg A) : FnOk P w K mg base CX0 1 A.a_law_stripe A.d_law_stripe ["_law_values", "_law_disk", "_law_name"] spLStripe := by
  refine T.F_law_stripe.ok sc_law_stripe (fun vs H Q E h => ?_) (fun cdv Ar outer s H vs Q E hr h => ?_)
  · obtain ⟨v, a, ds, n, rfl, _⟩ := h
    rfl
  · obtain ⟨v, a, ds, n, rfl, hv, hd, hl, F, q⟩ := h
    refine ⟨_, pss_cons (ps_set (i := 3) sc_law_stripe.nd rfl (.inl rfl) (pe_ix ix_str (pv 2) pe_int (fun _ _ => rfl)))
      (pss_cons (ps_setLc (i := 4) (own := [("_law_char", 6)]) (g := gName 6) (tt := tYes) (te := tCB rIntS (tCons (tVar 6) tNil)) rfl sc_law_stripe.nd rfl rfl (sw_true rfl rfl rfl (by decide +kernel)) (pi_str (pe_slice sl_str (pv 2) (po_some pe_int) po_none))
          (blkOk_any (N := ["_law_values", "_law_disk", "_law_name", "_law_letter", "_law_digits", "_law_made", "_law_char"]) (by decide +kernel))
          (fun _ _ _ _ _ => pg_name (i := 6) sc_law_stripe.nd rfl (Or.inl rfl)) (fun _ _ _ _ _ => pts_nil) (fun _ _ _ _ _ => pe_callTy call_int_str (by rfl) T.z_int (by decide +kernel) (pa_cons (pv 6) pa_nil)))
      (pss_cons (ps_if (pt_cmpR op_eq (pv 3) pe_str (nomark _))
        (pss_cons (ps_if (pt_cmpR op_ne (pe_ix ix_tup (pv 1) pe_int (fun _ _ => rfl)) pe_int (nomark _)) (pss_one (ps_ret pe_non)) pss_nil)
        (pss_cons (ps_set (i := 5) sc_law_stripe.nd rfl (.inl rfl) (pe_callTy call_list_of (by rfl) T.z_list (by decide +kernel) (pa_cons (pv 1) pa_nil)))
        (pss_cons (ps_asg (pe_ix ix_list (pv 4) pe_int (fun _ _ => rfl)) (pg_sub (pv 5) (pe_ix ix_list (pv 4) pe_int (fun _ _ => rfl)) set_list))
        (pss_cons (ps_asg (pe_op op_add pe_int (pe_ix ix_list (pv 4) pe_int (fun _ _ => rfl))) (pg_sub (pv 5) pe_int set_list))
        (pss_one (ps_ret (pe_callTy call_tuple_of (by rfl) T.z_tuple (by decide +kernel) (pa_cons (pv 5) pa_nil)))))))) pss_nil)
      (pss_cons (ps_if (pt_cmpR op_eq (pv 3) pe_str (nomark _))
        (pss_cons (ps_if (PW.pt (pw_or (pt_cmpR op_eq (pe_ix ix_tup (pv 1) pe_int (fun _ _ => rfl)) pe_int (nomark _)) (pw_or1 (pt_cmpR (op_neD hr.units) (pe_slice sl_tupX (pv 1) po_none (po_some pe_int)) (pe_tup (pa_cons (pe_ix ix_list (pv 4) pe_int (fun _ _ => rfl)) (pa_cons (pe_ix ix_list (pv 4) pe_int (fun _ _ => rfl)) pa_nil))) (nomark _))))) (pss_one (ps_ret pe_non)) pss_nil)
        (pss_one (ps_ret (pe_tup (pa_cons (pe_ix ix_tup (pv 1) pe_int (fun _ _ => rfl)) (pa_cons (pe_ix ix_tup (pv 1) pe_int (fun _ _ => rfl)) (pa_cons (pe_op op_mod (pe_op op_add (pe_ix ix_tup (pv 1) pe_int (fun _ _ => rfl)) (pe_ix ix_tup (pv 1) pe_int (fun _ _ => rfl))) (pv 0)) (pa_cons pe_int pa_nil)))))))) pss_nil)
      (pss_cons (ps_if (PW.pt (pw_or (pt_cmpR op_ne (pe_ix ix_tup (pv 1) pe_int (fun _ _ => rfl)) pe_int (nomark _)) (pw_or (pt_cmpR op_ne (pe_ix ix_tup (pv 1) (pe_op op_sub pe_int (pe_ix ix_list (pv 4) pe_int (fun _ _ => rfl))) (fun _ _ => rfl)) (pe_ix ix_list (pv 4) pe_int (fun _ _ => rfl)) (nomark _)) (pw_or1 (pt_cmpR op_ne (pe_ix ix_tup (pv 1) pe_int (fun _ _ => rfl)) (pe_ix ix_list (pv 4) pe_int (fun _ _ => rfl)) (nomark _)))))) (pss_one (ps_ret pe_non)) pss_nil)
      (pss_cons (ps_set (i := 5) sc_law_stripe.nd rfl (.inl rfl) (pe_callTy call_list_of (by rfl) T.z_list (by decide +kernel) (pa_cons (pv 1) pa_nil)))
      (pss_cons (ps_asg (pe_op op_mod (pe_op op_sub (pe_ix ix_tup (pv 1) pe_int (fun _ _ => rfl)) (pe_ix ix_tup (pv 1) (pe_op op_sub pe_int (pe_ix ix_list (pv 4) pe_int (fun _ _ => rfl))) (fun _ _ => rfl))) (pv 0)) (pg_sub (pv 5) (pe_ix ix_list (pv 4) pe_int (fun _ _ => rfl)) set_list))
      (pss_one (ps_ret (pe_callTy call_tuple_of (by rfl) T.z_tuple (by decide +kernel) (pa_cons (pv 5) pa_nil)))))))))), ?_⟩
    obtain ⟨c0, hc0, ec0⟩ := F.hd
    have hlen : n.text.length ≤ sizeLine := Nat.le_of_lt (small_line (Nat.le_trans F.len (by decide)))
    refine ⟨_, rfl, n.text, 0, c0, rfl, rfl, hlen, atI_nat (j := 0) hc0, ?_⟩
    rw [ec0]
    refine ⟨_, rfl, 1, rfl, n.text, rfl, hlen, _, rfl, fun D nD => ?_⟩
    have hdl : n.digs.length ≤ 3 := by cases n <;> simp [LN.digs]
    refine lc_all (walk_str (z := cutS n.text (some 1) none)) nD (by rw [F.tl]; omega) (fun _ _ => trivial) (fun i y _ => (vns n.digs)[i]? = some y) (fun _ _ _ _ _ h => h) ?_ ?_
    · rintro i x H3 H4 R N hi sm ⟨rfl, c, hc, rfl⟩ hR
      obtain ⟨m, hm, em⟩ := F.dg i c hc
      refine ⟨rfl, yes_of (iteT ?_)⟩
      exact ⟨_, rfl, _, _, rfl, em, by show 1 ≤ 640; decide, hR _ _ (Same.refl _) (vns_get hm)⟩
    intro H1 ys s1 eD hys hall
    have ey : ys = vns n.digs := eq_of_get (by rw [hys, F.tl, vns_len]) hall
    subst ey
    have hd1 : SkAt H1 a ds := s1 _ _ hd
    clear hall hys hc0 ec0
    refine ⟨_, rfl, rfl, _, rfl, ?_⟩
    cases n with
    | bg i x =>
      have hi : i < 2 := F.ok
      refine ifT (decide_eq_true rfl) ?_
      refine ⟨_, rfl, a, _, 3, _, rfl, rfl, (ix4 (K := K) (j := 3) hd1 hl (by decide)).1, (ix4 (K := K) (j := 3) hd1 hl (by decide)).2, rfl, _, rfl, ?_⟩
      by_cases h3 : at0 ds 3 = 0
      · refine ifF (neF (n := 0) h3) ?_
        refine ⟨_, rfl, a, _, rfl, .inr hd1.sq, fun l nl => ?_⟩
        have dl := ne_of_none eD nl
        have eD2 := same_new (o := .lst (vns ds)) nl _ _ eD
        refine ⟨_, rfl, D, _, 1, vn x, rfl, rfl, SqL.of eD2, atI_nat (j := 1) rfl, _, rfl, _, rfl, D, _, 0, vn i, rfl, rfl, SqL.of eD2, atI_nat (j := 0) rfl, l, _, (i : Int), i, rfl, rfl, upd_same, ixN_nat (by rw [vns_len]; omega), ?_⟩
        have eD3 : (upd (upd H1 l (.lst (vns ds))) l (.lst ((vns ds).set i (vn x)))) D = some (.lst (vns [i, x])) := by rw [upd_ne dl]; exact eD2
        refine ⟨_, rfl, D, _, 0, vn i, rfl, rfl, SqL.of eD3, atI_nat (j := 0) rfl, 1, (i : Int), rfl, rfl, _, rfl, l, _, 3, 3, rfl, rfl, upd_same, ixN_nat (i := 3) (by rw [List.length_set, vns_len]; omega), ?_⟩
        refine ⟨_, rfl, l, _, rfl, .inl ⟨SqL.of upd_same, fun p np => ?_⟩⟩
        refine q _ _ (s1.trans (same_mut (same_mut (same_mut (Same.refl _) nl) nl) nl |>.trans (same_new np))) ?_
        show OptSk _ _ (if at0 ds 3 = 0 then _ else _)
        rw [if_pos h3]
        refine ⟨p, rfl, ?_⟩
        refine upd_same.trans ?_
        show some (HO.tup (((vns ds).set i (vn x)).set 3 (vn (1 + i)))) = _
        rw [vns_set, vns_set]
      · refine ifT (neT (n := 0) h3) ?_
        exact q _ _ s1 (by show OptSk H1 V.non (if at0 ds 3 = 0 then _ else _); rw [if_neg h3]; exact rfl)
    | en x y =>
      refine ifF (sNe (show tx "e" ≠ tx "b" by decide +kernel)) ?_
      refine ⟨_, rfl, rfl, _, rfl, ?_⟩
      refine ifT (decide_eq_true rfl) ?_
      refine ⟨_, rfl, a, _, 3, _, rfl, rfl, (ix4 (K := K) (j := 3) hd1 hl (by decide)).1, (ix4 (K := K) (j := 3) hd1 hl (by decide)).2, rfl, _, rfl, ?_⟩
      by_cases h3 : at0 ds 3 = 0
      · refine ifT (eqT (n := 0) h3) ?_
        exact q _ _ s1 (by show OptSk H1 V.non (if at0 ds 3 = 0 then _ else _); rw [if_pos h3]; exact rfl)
      · refine ifF (eqF (n := 0) h3) ?_
        refine ⟨_, rfl, 2, rfl, a, vns ds, rfl, hd1, fun p H2 s2 ep => ?_⟩
        have eD2 := s2 _ _ eD
        refine ⟨_, rfl, D, _, 0, vn x, rfl, rfl, SqL.of eD2, atI_nat (j := 0) rfl, _, rfl, D, _, 1, vn y, rfl, rfl, SqL.of eD2, atI_nat (j := 1) rfl, by show 2 ≤ sizeLine; rw [sizeLine_eq]; decide, fun t nt => ?_⟩
        have hcut : cutV (vns ds) none (some 2) = [vn (at0 ds 0), vn (at0 ds 1)] := by
          rw [show (some 2 : Option Int) = some ((2 : Nat) : Int) from rfl, cut_to]
          match ds, hl with
          | [d0, d1, d2, d3], _ => rfl
        rw [hcut] at ep
        have s12 := s1.trans (s2.trans (same_new (o := .tup [vn x, vn y]) nt))
        refine ⟨.tuple [.int (at0 ds 0 : Int), .int (at0 ds 1 : Int)], .tuple [.int (x : Int), .int (y : Int)], .tup (SqT.of (same_new nt _ _ ep)) (.cons (.int _) (.cons (.int _) .nil)), .tup (SqT.of upd_same) (.cons (.int _) (.cons (.int _) .nil)), rfl, rfl, ?_⟩
        rw [eqv2]
        refine ⟨_, rfl, ?_⟩
        have hd3 : SkAt (upd H2 t (.tup [vn x, vn y])) a ds := s12 _ _ hd
        by_cases hxy : at0 ds 0 = x ∧ at0 ds 1 = y
        · refine ifF (by rw [decide_eq_true hxy.1, decide_eq_true hxy.2]; rfl) ?_
          refine ⟨_, rfl, a, _, 0, _, rfl, rfl, (ix4 (K := K) (j := 0) hd3 hl (by decide)).1, (ix4 (K := K) (j := 0) hd3 hl (by decide)).2, ?_⟩
          refine ⟨_, rfl, a, _, 1, _, rfl, rfl, (ix4 (K := K) (j := 1) hd3 hl (by decide)).1, (ix4 (K := K) (j := 1) hd3 hl (by decide)).2, ?_⟩
          refine ⟨_, rfl, a, _, 0, _, rfl, rfl, (ix4 (K := K) (j := 0) hd3 hl (by decide)).1, (ix4 (K := K) (j := 0) hd3 hl (by decide)).2, ?_⟩
          refine ⟨_, rfl, a, _, 1, _, rfl, rfl, (ix4 (K := K) (j := 1) hd3 hl (by decide)).1, (ix4 (K := K) (j := 1) hd3 hl (by decide)).2, _, _, rfl, rfl, _, rfl, _, _, rfl, rfl, show (0 : Int) < (v : Int) by omega, by show 4 ≤ sizeLine; rw [sizeLine_eq]; decide, fun p np => ?_⟩
          refine q _ _ (s12.trans (same_new np)) ?_
          show OptSk _ _ (if at0 ds 3 = 0 then none else if at0 ds 0 = x ∧ at0 ds 1 = y then _ else _)
          rw [if_neg h3, if_pos hxy]
          refine ⟨p, rfl, upd_same.trans ?_⟩
          rfl
        · refine ifT ?_ ?_
          · rw [Bool.not_eq_true', Bool.and_eq_false_iff]
            by_cases h : at0 ds 0 = x
            · exact .inr (decide_eq_false fun h' => hxy ⟨h, h'⟩)
            · exact .inl (decide_eq_false h)
          · exact q _ _ s12 (by show OptSk _ V.non (if at0 ds 3 = 0 then none else if at0 ds 0 = x ∧ at0 ds 1 = y then _ else _); rw [if_neg h3, if_neg hxy]; exact rfl)
    | rb i o p =>
      have hi : i < 2 := F.ok
      refine ifF (sNe (show tx "r" ≠ tx "b" by decide +kernel)) ?_
      refine ⟨_, rfl, rfl, _, rfl, ?_⟩
      refine ifF (sNe (show tx "r" ≠ tx "e" by decide +kernel)) ?_
      refine ⟨_, rfl, a, _, 3, _, rfl, rfl, (ix4 (K := K) (j := 3) hd1 hl (by decide)).1, (ix4 (K := K) (j := 3) hd1 hl (by decide)).2, rfl, _, rfl, ?_⟩
      have e1 : (1 : Int) - (i : Int) = ((1 - i : Nat) : Int) := by omega
      have hat1 : atI (vns ds) ((1 : Int) - (i : Int)) = some (vn (at0 ds (1 - i))) := by rw [e1]; exact (ix4 (K := K) (j := 1 - i) hd1 hl (by omega)).2
      by_cases h3 : at0 ds 3 = 0
      · refine ifF (neF (n := 0) h3) ?_
        refine ⟨_, rfl, _, rfl, D, _, 0, vn i, rfl, rfl, SqL.of eD, atI_nat (j := 0) rfl, 1, (i : Int), rfl, rfl, a, _, (1 : Int) - (i : Int), _, rfl, rfl, hd1.sq, hat1, _, rfl, D, _, 1, vn o, rfl, rfl, SqL.of eD, atI_nat (j := 1) rfl, rfl, _, rfl, ?_⟩
        by_cases ho : at0 ds (1 - i) = o
        · refine ifF (neF ho) ?_
          refine ⟨_, rfl, a, _, 2, _, rfl, rfl, (ix4 (K := K) (j := 2) hd1 hl (by decide)).1, (ix4 (K := K) (j := 2) hd1 hl (by decide)).2, _, rfl, D, _, 2, vn p, rfl, rfl, SqL.of eD, atI_nat (j := 2) rfl, rfl, _, rfl, ?_⟩
          by_cases hp : at0 ds 2 = p
          · refine ifF (neF hp) ?_
            refine ⟨_, rfl, a, _, rfl, .inr hd1.sq, fun l nl => ?_⟩
            have eD2 := same_new (o := .lst (vns ds)) nl _ _ eD
            have hd2 := same_new (o := .lst (vns ds)) nl _ _ hd1
            refine ⟨_, rfl, a, _, 2, _, rfl, rfl, (ix4 (K := K) (j := 2) hd2 hl (by decide)).1, (ix4 (K := K) (j := 2) hd2 hl (by decide)).2, _, rfl, _, rfl, D, _, 0, vn i, rfl, rfl, SqL.of eD2, atI_nat (j := 0) rfl, 1, (i : Int), rfl, rfl, a, _, (1 : Int) - (i : Int), _, rfl, rfl, SkAt.sq (s := ds) hd2, hat1, _, _, rfl, rfl, _, rfl, _, _, rfl, rfl, show (0 : Int) < (v : Int) by omega, ?_⟩
            refine ⟨_, rfl, _, rfl, D, _, 0, vn i, rfl, rfl, SqL.of eD2, atI_nat (j := 0) rfl, l, _, (i : Int), i, rfl, rfl, upd_same, ixN_nat (by rw [vns_len]; omega), ?_⟩
            refine ⟨_, rfl, l, _, rfl, .inl ⟨SqL.of upd_same, fun t nt => ?_⟩⟩
            refine q _ _ (s1.trans (same_mut (same_mut (Same.refl _) nl) nl |>.trans (same_new nt))) ?_
            show OptSk _ _ (if at0 ds 3 = 0 then (if at0 ds (1 - i) = o then (if at0 ds 2 = p then _ else _) else _) else _)
            rw [if_pos h3, if_pos ho, if_pos hp]
            refine ⟨t, rfl, upd_same.trans ?_⟩
            show some (HO.tup ((vns ds).set i (V.int (((at0 ds 2 : Int) - (at0 ds (1 - i) : Int)) % (v : Int))))) = _
            rw [subm_eq hv, vns_set]
          · refine ifT (neT hp) ?_
            exact q _ _ s1 (by show OptSk H1 V.non (if at0 ds 3 = 0 then (if at0 ds (1 - i) = o then (if at0 ds 2 = p then _ else _) else _) else _); rw [if_pos h3, if_pos ho, if_neg hp]; exact rfl)
        · refine ifT (neT ho) ?_
          exact q _ _ s1 (by show OptSk H1 V.non (if at0 ds 3 = 0 then (if at0 ds (1 - i) = o then _ else _) else _); rw [if_pos h3, if_neg ho]; exact rfl)
      · refine ifT (neT (n := 0) h3) ?_
        exact q _ _ s1 (by show OptSk H1 V.non (if at0 ds 3 = 0 then _ else _); rw [if_neg h3]; exact rfl)
end
end Rw
set_option Elab.async false
set_option linter.all false
set_option maxRecDepth 100000
set_option maxHeartbeats 4000000
/-! _law_reached, _law_fits -/
namespace Rw
open PySem PySem.Spec PyProof.Rows L2
open Raised (Sk at0 Deed DeedOk Mach MachOk Good)
def goOne (v : Nat) (d : List Nat) (order : List (List Nat)) (n : LN) : List (List Nat) := match lawStep v d n with
  | none => order
  | some f => if f ∈ order then order else order ++ [f]
def goRow (v : Nat) (order : List (List Nat)) (k : Nat) : List (List Nat) := if k < order.length then (lawL v).foldl (goOne v (order.getD k [])) order else order
def reached (v t : Nat) : List (List Nat) := (List.range t).foldl (goRow v) [[0, 0, 0, 0]]
theorem reached_succ (v t : Nat) : reached v (t + 1) = goRow v (reached v t) t := by unfold reached; rw [List.range_succ, List.foldl_append]; rfl
theorem foldl_take {α β : Type} (f : α → β → α) (l : List β) (a : α) {j : Nat} {x : β} (h : l[j]? = some x) : (l.take (j + 1)).foldl f a = f ((l.take j).foldl f a) x := by
  rw [List.take_add_one, h, List.foldl_append]; rfl
def keyOf (f : List Nat) : List Key := f.map fun (n : Nat) => (Sum.inl (n : Int) : Key)
theorem keyOf_kV (f : List Nat) : (keyOf f).map kV = vns f := by unfold keyOf vns; rw [List.map_map]; rfl
theorem keyOf_inj {f g : List Nat} (h : keyOf f = keyOf g) : f = g := by
  unfold keyOf at h
  exact List.map_inj_right (fun a b e => by cases e; rfl) |>.mp h
def seenOf (o : List (List Nat)) : List (List Key × V) := o.map fun f => (keyOf f, V.bl true)
theorem seen_any (o : List (List Nat)) (g : List Nat) : ((seenOf o).any fun kv => decide (kv.1 = keyOf g)) = decide (g ∈ o) := by
  rw [Bool.eq_iff_iff, List.any_eq_true, decide_eq_true_eq]
  constructor
  · rintro ⟨kv, hm, e⟩
    obtain ⟨f, hf, rfl⟩ := List.mem_map.mp hm
    have e := of_decide_eq_true e
    rw [← keyOf_inj e]; exact hf
  · intro hg
    exact ⟨_, List.mem_map.mpr ⟨g, hg, rfl⟩, decide_eq_true rfl⟩
theorem seen_val (o : List (List Nat)) (g : List Nat) : (valV (seenOf o) (keyOf g)).isSome = decide (g ∈ o) := by rw [← valV_any, seen_any]
theorem seen_put {o : List (List Nat)} {g : List Nat} (h : ¬ g ∈ o) : putK (seenOf o) (keyOf g) (.bl true) = seenOf (o ++ [g]) := by
  unfold putK
  rw [seen_any, decide_eq_false h, if_neg Bool.false_ne_true]
  unfold seenOf
  rw [List.map_append]; rfl
theorem tk_dT {H : Hp} {p : Addr} {kvs : List (List Key × V)} {o : HO} (h : H p = some (.dT kvs)) : TK H (upd H p o) := fun b ys e => by
  rw [upd_ne (ne_of e h (fun z => (nomatch z)))]; exact e
theorem lawStep_len {v : Nat} {d f : List Nat} {n : LN} (hd : d.length = 4) (h : lawStep v d n = some f) : f.length = 4 := by
  cases n with
  | bg i x =>
    change (if at0 d 3 = 0 then some ((d.set i x).set 3 (1 + i)) else none) = some f at h
    split at h
    · cases h; rw [List.length_set, List.length_set]; exact hd
    · cases h
  | en a b =>
    change (if at0 d 3 = 0 then none else if at0 d 0 = a ∧ at0 d 1 = b then some [at0 d 0, at0 d 1, (at0 d 0 + at0 d 1) % v, 0] else none) = some f at h
    split at h
    · cases h
    · split at h
      · cases h; rfl
      · cases h
  | rb i o p =>
    change (if at0 d 3 = 0 then (if at0 d (1 - i) = o then (if at0 d 2 = p then some (d.set i (subm (at0 d 2) (at0 d (1 - i)) v)) else none) else none) else none) = some f at h
    split at h
    · split at h
      · split at h
        · cases h; rw [List.length_set]; exact hd
        · cases h
      · cases h
    · cases h
theorem goOne_ind {v : Nat} {d : List Nat} {P : List Nat → Prop} (hs : ∀ n f, lawStep v d n = some f → P f) {o : List (List Nat)} (ho : ∀ f ∈ o, P f) (n : LN) : ∀ f ∈ goOne v d o n, P f := by
  intro f hf
  unfold goOne at hf
  split at hf
  · exact ho f hf
  · rename_i g hg
    split at hf
    · exact ho f hf
    · rcases List.mem_append.mp hf with h | h
      · exact ho f h
      · rw [List.mem_singleton] at h; rw [h]; exact hs n g hg
theorem goOne_pre (v : Nat) (d : List Nat) (o : List (List Nat)) (n : LN) : ∃ e, goOne v d o n = o ++ e ∧ e.length ≤ 1 := by
  unfold goOne
  split
  · exact ⟨[], by rw [List.append_nil], Nat.zero_le _⟩
  · split
    · exact ⟨[], by rw [List.append_nil], Nat.zero_le _⟩
    · exact ⟨_, rfl, Nat.le_refl _⟩
theorem goFold_pre (v : Nat) (d : List Nat) : ∀ (l : List LN) (o : List (List Nat)), ∃ e, l.foldl (goOne v d) o = o ++ e ∧ e.length ≤ l.length
  | [], o => ⟨[], by rw [List.append_nil]; rfl, Nat.le_refl _⟩
  | n :: l, o => by
    obtain ⟨e1, h1, l1⟩ := goOne_pre v d o n
    obtain ⟨e2, h2, l2⟩ := goFold_pre v d l (goOne v d o n)
    refine ⟨e1 ++ e2, ?_, by rw [List.length_append, List.length_cons]; omega⟩
    rw [List.foldl_cons, h2, h1, List.append_assoc]
theorem goFold_ind {v : Nat} {d : List Nat} {P : List Nat → Prop} (hs : ∀ n f, lawStep v d n = some f → P f) : ∀ (l : List LN) (o : List (List Nat)), (∀ f ∈ o, P f) → ∀ f ∈ l.foldl (goOne v d) o, P f
  | [], o, ho => ho
  | n :: l, o, ho => goFold_ind hs l _ (goOne_ind hs ho n)
theorem reached_ind {v : Nat} {P : List Nat → Prop} (h0 : P [0, 0, 0, 0]) (hs : ∀ d n f, P d → lawStep v d n = some f → P f) : ∀ t, ∀ f ∈ reached v t, P f
  | 0, f, hf => by
    have : f = [0, 0, 0, 0] := List.mem_singleton.mp hf
    rw [this]; exact h0
  | t + 1, f, hf => by
    have ih := reached_ind h0 hs t
    rw [reached_succ] at hf
    unfold goRow at hf
    split at hf
    · rename_i h
      exact goFold_ind (fun n f hf => hs _ n f (ih _ (Raised.getD_mem h)) hf) _ _ ih f hf
    · exact ih f hf
theorem lawL_len {v : Nat} (h2 : 2 ≤ v) (h3 : v ≤ 3) : (lawL v).length ≤ 33 := by
  rcases (by omega : v = 2 ∨ v = 3) with rfl | rfl <;> decide
theorem reached_len {v : Nat} (h2 : 2 ≤ v) (h3 : v ≤ 3) : ∀ t, (reached v t).length ≤ 1 + 33 * t
  | 0 => Nat.le_refl _
  | t + 1 => by
    have ih := reached_len h2 h3 t
    rw [reached_succ]
    unfold goRow
    split
    · obtain ⟨e, h, l⟩ := goFold_pre v ((reached v t).getD t []) (lawL v) (reached v t)
      rw [h, List.length_append]
      have := lawL_len h2 h3
      omega
    · omega
section
variable {P : Program} {w : World} {K : PySem.W.Frag} {mg : Str → Option Value} {base : Heap} {A : Ad}
def spLReach : Sp := fun vs H Q _ => ∃ v : Nat, vs = [vn v] ∧ 2 ≤ v ∧ v ≤ 3 ∧ ∀ H' l, Same H H' → SkL H' l (reached v 1000) → Q (.ref l) H'
theorem ok_law_reached (T : Txt K mg A) : FnOk P w K mg base CX0 2 A.a_law_reached A.d_law_reached ["_law_values"] spLReach := by
  have GN : FnOk P w K mg base CX0 1 _ _ _ _ := ok_law_names T
  have GS : FnOk P w K mg base CX0 1 _ _ _ _ := ok_law_stripe T
  refine T.F_law_reached.ok sc_law_reached (fun vs H Q E h => ?_) (fun cdv Ar outer s H vs Q E hr h => ?_)
  · obtain ⟨v, rfl, _⟩ := h
    rfl
  · obtain ⟨v, rfl, h2, h3, q⟩ := h
    have hu := hr.units
    refine ⟨_, pss_cons (ps_set (i := 1) sc_law_reached.nd rfl (.inl rfl) (pe_call GN hr (by rfl) T.g_law_names T.F_law_names.kp T.b_law_names .nil pass0 (pa_cons (pv 0) pa_nil)))
      (pss_cons (ps_set (i := 2) sc_law_reached.nd rfl (.inl rfl) (pe_disT (Nat.lt_of_le_of_lt (Nat.add_le_add_left (by decide) _) hu) (pe_tup (pa_cons pe_int (pa_cons pe_int (pa_cons pe_int (pa_cons pe_int pa_nil))))) pe_bl))
      (pss_cons (ps_set (i := 3) sc_law_reached.nd rfl (.inl rfl) (pe_lst (pa_cons (pe_tup (pa_cons pe_int (pa_cons pe_int (pa_cons pe_int (pa_cons pe_int pa_nil))))) pa_nil)))
      (pss_cons (ps_for PassesOwn.never rfl (pi_range1 rfl T.z_range (pa_cons pe_int pa_nil)) (pg_name (i := 4) sc_law_reached.nd rfl (.inl rfl))
        (pss_one (ps_if (pt_cmpR op_lt (pv 4) (pe_callB call_len_seq (by rfl) T.z_len PySem.boot_len (pa_cons (pv 3) pa_nil)) (nomark _))
          (pss_one (ps_for PassesOwn.never rfl (pi_list (pv 1)) (pg_name (i := 5) sc_law_reached.nd rfl (.inl rfl))
            (pss_cons (ps_set (i := 6) sc_law_reached.nd rfl (.inl rfl) (pe_call GS hr (by rfl) T.g_law_stripe T.F_law_stripe.kp T.b_law_stripe .nil pass0 (pa_cons (pv 0) (pa_cons (pe_ix ix_list (pv 3) (pv 4) (fun _ _ => rfl)) (pa_cons (pv 5) pa_nil)))))
            (pss_one (ps_if (PW.pt (pw_and (pt_cmpR op_notN (pv 6) pe_non (nomark _)) (pw_and1 (pt_cmp (pc_dnotin (Nat.lt_of_le_of_lt (Nat.add_le_add_left (by decide) _) hu) (pv 6) (pv 2))))))
              (pss_cons (ps_dput (Nat.lt_of_le_of_lt (Nat.add_le_add_left (by decide) _) hu) (pv 2) (pv 6) pe_bl rfl)
              (pss_one (ps_expr (pe_bm PySem.F.plainAttrs_list PySem.F.slot_list_append PySem.F.type_list_append mt_append (pv 3) (pa_cons (pv 6) pa_nil))))) pss_nil))))) pss_nil)))
      (pss_one (ps_ret (pv 3)))))), ?_⟩
    refine ⟨_, rfl, v, rfl, h2, h3, fun H1 nl s1 en => ?_⟩
    have sl4 : 4 ≤ sizeLine := by rw [sizeLine_eq]; decide
    have sl1 : 1 ≤ sizeLine := by rw [sizeLine_eq]; decide
    refine fun sd nsd => ⟨sl4, fun t0 nt0 => ⟨same_new nt0 _ _ upd_same, t0, keyOf [0, 0, 0, 0], rfl, upd_same, sl4, fun t1 nt1 => ⟨sl1, fun ol nol => ?_⟩⟩⟩
    have hsd : H sd = none := s1.free nsd
    have sa : Same H (upd H1 sd (.dT [])) := same_mut s1 hsd
    have sb := sa.trans (same_new (o := .tup [.int 0, .int 0, .int 0, .int 0]) nt0)
    have sc := same_mut (o := .dT [(keyOf [0, 0, 0, 0], V.bl true)]) sb hsd
    have sd' := sc.trans (same_new (o := .tup [.int 0, .int 0, .int 0, .int 0]) nt1)
    have hol : H ol = none := sd'.free nol
    have se := sd'.trans (same_new (o := .lst [.ref t1]) nol)
    have nlsd : nl ≠ sd := ne_of_none en nsd
    have en2 : (upd (upd (upd H1 sd (.dT [])) t0 (.tup [.int 0, .int 0, .int 0, .int 0])) sd (.dT [(keyOf [0, 0, 0, 0], V.bl true)])) nl = some (.lst (txs (lawL v))) := by
      rw [upd_ne nlsd]
      exact same_new nt0 _ _ (by rw [upd_ne nlsd]; exact en)
    have en3 := same_new (o := .tup [.int 0, .int 0, .int 0, .int 0]) nt1 _ _ en2
    have nlol : nl ≠ ol := ne_of_none en3 nol
    have en4 := same_new (o := .lst [.ref t1]) nol _ _ en3
    have esd := same_new (o := .lst [.ref t1]) nol _ _ (same_new (o := .tup [.int 0, .int 0, .int 0, .int 0]) nt1 _ _ (upd_same (H := upd (upd H1 sd (.dT [])) t0 (.tup [.int 0, .int 0, .int 0, .int 0])) (a := sd) (o := .dT [(keyOf [0, 0, 0, 0], V.bl true)])))
    have et1 := same_new (o := .lst [.ref t1]) nol _ _ (upd_same (H := upd (upd (upd H1 sd (.dT [])) t0 (.tup [.int 0, .int 0, .int 0, .int 0])) sd (.dT [(keyOf [0, 0, 0, 0], V.bl true)])) (a := t1) (o := .tup [.int 0, .int 0, .int 0, .int 0]))
    have eol : (upd (upd (upd (upd (upd H1 sd (.dT [])) t0 (.tup [.int 0, .int 0, .int 0, .int 0])) sd (.dT [(keyOf [0, 0, 0, 0], V.bl true)])) t1 (.tup [.int 0, .int 0, .int 0, .int 0])) ol (.lst [.ref t1])) ol = some (.lst ([t1].map V.ref)) := upd_same
    generalize upd (upd (upd (upd (upd H1 sd (.dT [])) t0 (.tup [.int 0, .int 0, .int 0, .int 0])) sd (.dT [(keyOf [0, 0, 0, 0], V.bl true)])) t1 (.tup [.int 0, .int 0, .int 0, .int 0])) ol (.lst [.ref t1]) = H2 at se en4 esd et1 eol ⊢
    clear sa sb sc sd' en2 en3
    refine ⟨1000, rfl, by decide, by decide, ?_⟩
    refine for_range (lo := 0) (n := 1000) (fun k σ H4 => ∃ (as : List Addr) (y4 y5 y6 : Option V), σ = [some (vn v), some (.ref nl), some (.ref sd), some (.ref ol), y4, y5, y6] ∧ Same H H4 ∧ H4 nl = some (.lst (txs (lawL v))) ∧ H4 sd = some (.dT (seenOf (reached v k))) ∧ H4 ol = some (.lst (as.map V.ref)) ∧ All2 (fun a s => SkAt H4 a s) as (reached v k))
      ⟨[t1], none, none, none, rfl, se, en4, esd, eol, All2.cons et1 All2.nil⟩ ?_ ?_
    · rintro k σ H4 hk ⟨as, y4, y5, y6, rfl, s4, en, esd, eol, eas⟩
      rw [Int.zero_add]
      refine ⟨_, rfl, _, rfl, ol, _, rfl, .inl (SqL.of eol), _, _, rfl, rfl, _, rfl, ?_⟩
      refine ite2 (fun e => ?_) (fun e => ?_)
      · have hlt : k < (reached v k).length := by
          have e := of_decide_eq_true e
          rw [List.length_map, eas.1] at e
          omega
        have hrow : reached v (k + 1) = (lawL v).foldl (goOne v ((reached v k).getD k [])) (reached v k) := by rw [reached_succ]; unfold goRow; rw [if_pos hlt]
        refine ⟨_, rfl, nl, rfl, ⟨_, SqL.of en⟩, for_list (K := K) (a := nl) (xs := txs (lawL v)) (fun j σ H5 => ∃ (as : List Addr) (y5 y6 : Option V), σ = [some (vn v), some (.ref nl), some (.ref sd), some (.ref ol), some (vn k), y5, y6] ∧ Same H H5 ∧ H5 nl = some (.lst (txs (lawL v))) ∧ H5 sd = some (.dT (seenOf (((lawL v).take j).foldl (goOne v ((reached v k).getD k [])) (reached v k)))) ∧ H5 ol = some (.lst (as.map V.ref)) ∧ All2 (fun a s => SkAt H5 a s) as (((lawL v).take j).foldl (goOne v ((reached v k).getD k [])) (reached v k)))
          ⟨as, y5, y6, rfl, s4, en, esd, eol, eas⟩ (fun i σ H5 _ ⟨_, _, _, _, _, e, _⟩ => SqL.of e) ?_ ?_⟩
        · rintro j x σ H5 hx ⟨as, y5, y6, rfl, s5, en, esd, eol, eas⟩
          obtain ⟨n, hn, rfl⟩ : ∃ n, (lawL v)[j]? = some n ∧ x = .str n.text := by
            unfold txs at hx
            rw [List.getElem?_map] at hx
            cases e : (lawL v)[j]? with
            | none => rw [e] at hx; cases hx
            | some n => rw [e] at hx; exact ⟨n, rfl, (Option.some.inj hx).symm⟩
          have hj := (List.getElem?_eq_some_iff.mp hn).1
          have hl33 := lawL_len h2 h3
          have hlen0 := reached_len h2 h3 k
          obtain ⟨e5, he5, le5⟩ := goFold_pre v ((reached v k).getD k []) ((lawL v).take j) (reached v k)
          have hlen5 : as.length ≤ 40000 := by rw [eas.1, he5, List.length_append]; have := List.length_take_le j (lawL v); omega
          rw [foldl_take _ _ _ hn]
          generalize hord : ((lawL v).take j).foldl (goOne v ((reached v k).getD k [])) (reached v k) = ord at esd eas he5 ⊢
          have hdk : ord[k]? = some ((reached v k).getD k []) := by rw [he5, List.getElem?_append_left hlt, Raised.getD_at hlt, List.getElem?_eq_getElem hlt]
          obtain ⟨b, hb, eb⟩ := eas.at_ hdk
          have hd4 : ((reached v k).getD k []).length = 4 := reached_ind (P := fun f => f.length = 4) rfl (fun d n f hd h => lawStep_len hd h) k _ (Raised.getD_mem hlt)
          generalize (reached v k).getD k [] = d at hdk eb hd4 ⊢
          refine ⟨_, rfl, _, rfl, _, rfl, ol, _, (k : Int), .ref b, rfl, rfl, SqL.of eol, atI_nat (get_map hb), _, rfl, v, b, d, n, rfl, by omega, eb, hd4, ln_fact h2 h3 (List.mem_of_getElem? hn), fun H6 y s6 oy => ?_⟩
          have s06 := s5.trans s6
          have en6 := s6 _ _ en
          have esd6 := s6 _ _ esd
          have eol6 := s6 _ _ eol
          have eas6 := eas.mono fun a s e => s6 _ _ e
          cases hst : lawStep v d n with
          | none =>
            rw [hst] at oy
            obtain rfl : y = .non := oy
            refine ⟨_, rfl, rfl, _, rfl, ifF rfl ?_⟩
            have hgo : goOne v d ord n = ord := by unfold goOne; rw [hst]
            exact ⟨as, _, _, rfl, s06, en6, by rw [hgo]; exact esd6, eol6, by rw [hgo]; exact eas6⟩
          | some f =>
            rw [hst] at oy
            obtain ⟨p, rfl, ep⟩ := oy
            have epk : H6 p = some (.tup ((keyOf f).map kV)) := by rw [keyOf_kV]; exact ep
            refine ⟨_, rfl, rfl, _, rfl, ifT rfl ?_⟩
            refine ⟨_, rfl, _, rfl, sd, _, rfl, DGet.t esd6 epk, _, rfl, ?_⟩
            rw [seen_val]
            by_cases hm : f ∈ ord
            · refine ifF (by rw [decide_eq_true hm]; rfl) ?_
              have hgo : goOne v d ord n = ord := by unfold goOne; rw [hst]; exact if_pos hm
              exact ⟨as, _, _, rfl, s06, en6, by rw [hgo]; exact esd6, eol6, by rw [hgo]; exact eas6⟩
            · refine ifT (by rw [decide_eq_false hm]; rfl) ?_
              refine ⟨_, rfl, _, rfl, sd, _, rfl, DPut.t esd6 epk (by unfold seenOf; rw [List.length_map, ← eas.1, sizeLine_eq]; omega), ?_⟩
              rw [seen_put hm]
              have t7 := tk_dT (o := .dT (seenOf (ord ++ [f]))) esd6
              have s7 := same_mut (o := .dT (seenOf (ord ++ [f]))) s06 hsd
              have eol7 : (upd H6 sd (.dT (seenOf (ord ++ [f])))) ol = some (.lst (as.map V.ref)) := by rw [upd_ne (ne_of eol6 esd6 (fun z => (nomatch z)))]; exact eol6
              have en7 : (upd H6 sd (.dT (seenOf (ord ++ [f])))) nl = some (.lst (txs (lawL v))) := by rw [upd_ne nlsd]; exact en6
              refine ⟨_, rfl, .inl ⟨rfl, _, SqL.of eol7⟩, _, rfl, ol, _, _, rfl, rfl, eol7, by rw [List.length_map, sizeLine_eq]; omega, ?_⟩
              have hgo : goOne v d ord n = ord ++ [f] := by unfold goOne; rw [hst]; exact if_neg hm
              have sdol : sd ≠ ol := fun z => by rw [z] at esd6; rw [eol6] at esd6; cases esd6
              have t8 := tk_lst (o := .lst (as.map V.ref ++ [V.ref p])) eol7
              refine ⟨as ++ [p], _, _, rfl, same_mut s7 hol, by rw [upd_ne nlol]; exact en7, by rw [upd_ne sdol, hgo]; exact upd_same, by rw [upd_same, List.map_append]; rfl, ?_⟩
              rw [hgo]
              exact (eas6.mono fun a s e => t8 _ _ (t7 _ _ e)).snoc (t8 _ _ (t7 _ _ ep))
        · rintro σ H5 ⟨as, y5, y6, rfl, s5, en, esd, eol, eas⟩
          rw [List.take_of_length_le (by rw [txs_len]; exact Nat.le_refl _), ← hrow] at esd eas
          exact ⟨as, _, _, _, rfl, s5, en, esd, eol, eas⟩
      · have hge : ¬ k < (reached v k).length := fun h => e (decide_eq_true (by rw [List.length_map, eas.1]; omega))
        have hrow : reached v (k + 1) = reached v k := by rw [reached_succ]; unfold goRow; rw [if_neg hge]
        exact ⟨as, _, _, _, rfl, s4, en, by rw [hrow]; exact esd, eol, by rw [hrow]; exact eas⟩
    · rintro σ H4 ⟨as, y4, y5, y6, rfl, s4, en, esd, eol, eas⟩
      exact ⟨_, rfl, q _ _ s4 ⟨as, eol, eas⟩⟩
/-! ### _law_fits -/
def spLFits : Sp := fun vs H Q _ => ∃ (l a : Addr) (img ds : List Nat), vs = [.ref l, .ref a] ∧ H l = some (.lst (vns img)) ∧ SkAt H a ds ∧ img.length = ds.length ∧ ∀ H', Same H H' → Q (.bl (decide (Raised.has img ds))) H'
theorem ok_law_fits (T : Txt K mg A) : FnOk P w K mg base CX0 1 A.a_law_fits A.d_law_fits ["_law_image", "_law_disk"] spLFits := by
  refine T.F_law_fits.ok sc_law_fits (fun vs H Q E h => ?_) (fun cdv Ar outer s H vs Q E hr h => ?_)
  · obtain ⟨l, a, img, ds, rfl, _⟩ := h
    rfl
  · obtain ⟨l, a, img, ds, rfl, hl, ha, hlen, q⟩ := h
    refine ⟨_, pss_cons (ps_for PassesOwn.never rfl (pi_zk true false (by rfl) T.z_zip (pa_cons (pv 0) (pa_cons (pv 1) pa_nil)))
          (pg_tup rfl (pgs_cons (pg_name (i := 2) sc_law_fits.nd rfl (.inl rfl)) (pgs_cons (pg_name (i := 3) sc_law_fits.nd rfl (.inl rfl)) pgs_nil)))
        (pss_one (ps_if (pt_cmpR op_eq (pe_op op_andN (pe_op op_shrNN (pv 2) (pv 3)) pe_int) pe_int (nomark _)) (pss_one (ps_ret pe_bl)) pss_nil)))
      (pss_one (ps_ret pe_bl)), ?_⟩
    refine ⟨.ref l, rfl, .ref a, rfl, l, a, vns img, vns ds, rfl, sqk_lst hl, sqk_tup ha, ?_⟩
    refine for_zk (by rw [vns_len, vns_len, hlen]) (fun i σ H2 => ∃ y2 y3, σ = [some (.ref l), some (.ref a), y2, y3] ∧ Same H H2 ∧ ∀ j, j < i → (at0 img j).testBit (at0 ds j) = true)
      ⟨none, none, rfl, Same.refl _, fun j h => absurd h (Nat.not_lt_zero j)⟩ (fun i σ H2 ⟨_, _, _, sm, _⟩ => ⟨sqk_lst (sm _ _ hl), sqk_tup (sm _ _ ha)⟩) ?_ ?_
    · rintro i x y T' σ H2 hx hy ⟨y2, y3, rfl, sm, hall⟩ nT
      obtain ⟨m, hm, rfl⟩ := vns_at hx
      obtain ⟨n, hn, rfl⟩ := vns_at hy
      refine ⟨T', [vn m, vn n], rfl, SqT.of upd_same, rfl, _, _, rfl, _, _, rfl, rfl, ?_⟩
      refine ⟨_, rfl, _, rfl, m, n, rfl, rfl, _, 1, rfl, rfl, rfl, _, rfl, ?_⟩
      have em : at0 img i = m := at0_of hm
      have en : at0 ds i = n := at0_of hn
      rw [shr1, vn_eq0]
      by_cases hb : m.testBit n = true
      · rw [if_pos hb]
        refine ifF rfl ⟨_, _, rfl, sm.trans (same_new nT), fun j hj => ?_⟩
        by_cases e : j = i
        · rw [e, em, en]; exact hb
        · exact hall j (by omega)
      · rw [if_neg hb]
        refine ifT rfl ?_
        have hno : ¬ Raised.has img ds := fun h => hb (by rw [← em, ← en]; exact h.2 i (List.getElem?_eq_some_iff.mp hn).1)
        have := q _ (sm.trans (same_new (o := .tup [vn m, vn n]) nT))
        rw [decide_eq_false hno] at this
        exact this
    · rintro σ H2 ⟨y2, y3, rfl, sm, hall⟩
      have hyes : Raised.has img ds := ⟨hlen, fun j hj => hall j (by rw [vns_len, hlen]; exact hj)⟩
      have := q _ sm
      rw [decide_eq_true hyes] at this
      exact this
end
end Rw
set_option Elab.async false
set_option linter.all false
set_option maxRecDepth 1000000
set_option maxHeartbeats 4000000
/-! the plain law, of two and of three values -/
namespace Rw
open PySem PySem.Spec PyProof.Rows L2
open Raised (Sk at0 Deed DeedOk Mach MachOk Good Reach has doable setAll)
def R2l : List (List Nat) := [[0, 0, 0, 0], [0, 0, 0, 1], [1, 0, 0, 1], [0, 0, 0, 2], [0, 1, 0, 2], [1, 0, 1, 0], [0, 1, 1, 0], [0, 0, 1, 1], [1, 0, 1, 1], [1, 0, 1, 2], [1, 1, 1, 2], [0, 1, 1, 1], [1, 1, 1, 1], [0, 0, 1, 2], [0, 1, 1, 2], [1, 1, 0, 0], [0, 1, 0, 1], [1, 1, 0, 1], [1, 0, 0, 2], [1, 1, 0, 2]]
def R3l : List (List Nat) := [[0, 0, 0, 0], [0, 0, 0, 1], [1, 0, 0, 1], [2, 0, 0, 1], [0, 0, 0, 2], [0, 1, 0, 2], [0, 2, 0, 2], [1, 0, 1, 0], [2, 0, 2, 0], [0, 1, 1, 0], [0, 2, 2, 0], [0, 0, 1, 1], [1, 0, 1, 1], [2, 0, 1, 1], [1, 0, 1, 2], [1, 1, 1, 2], [1, 2, 1, 2], [0, 0, 2, 1], [1, 0, 2, 1], [2, 0, 2, 1], [2, 0, 2, 2], [2, 1, 2, 2], [2, 2, 2, 2], [0, 1, 1, 1], [1, 1, 1, 1], [2, 1, 1, 1], [0, 0, 1, 2], [0, 1, 1, 2], [0, 2, 1, 2], [0, 2, 2, 1], [1, 2, 2, 1], [2, 2, 2, 1], [0, 0, 2, 2], [0, 1, 2, 2], [0, 2, 2, 2], [1, 1, 2, 0], [1, 2, 0, 0], [2, 1, 0, 0], [2, 2, 1, 0], [0, 1, 2, 1], [1, 1, 2, 1], [2, 1, 2, 1], [1, 0, 2, 2], [1, 1, 2, 2], [1, 2, 2, 2], [0, 2, 0, 1], [1, 2, 0, 1], [2, 2, 0, 1], [1, 0, 0, 2], [1, 1, 0, 2], [1, 2, 0, 2], [0, 1, 0, 1], [1, 1, 0, 1], [2, 1, 0, 1], [2, 0, 0, 2], [2, 1, 0, 2], [2, 2, 0, 2], [0, 2, 1, 1], [1, 2, 1, 1], [2, 2, 1, 1], [2, 0, 1, 2], [2, 1, 1, 2], [2, 2, 1, 2]]
theorem reached2 : reached 2 20 = R2l := by decide +kernel
theorem reached3 : reached 3 63 = R3l := by decide +kernel
theorem reached_stay {v t : Nat} (h : (reached v t).length ≤ t) : ∀ k, reached v (t + k) = reached v t
  | 0 => rfl
  | k + 1 => by
    have ih := reached_stay h k
    rw [show t + (k + 1) = (t + k) + 1 by omega, reached_succ, ih]
    unfold goRow
    rw [if_neg (by omega)]
structure RF (v : Nat) (R : List (List Nat)) : Prop where
  eq : reached v 1000 = R
  z : [0, 0, 0, 0] ∈ R
  cl : ∀ d ∈ R, ∀ D ∈ (stripeM v).deeds, doable D d → setAll D.changes d ∈ R
  st : ∀ d ∈ R, ∀ n ∈ lawL v, ∀ f, lawStep v d n = some f → f ∈ R ∧ ∃ D ∈ (stripeM v).deeds, doable D d ∧ f = setAll D.changes d
  able : ∀ d ∈ R, ∃ n ∈ lawL v, lawStep v d n ≠ none
  shape : ∀ d ∈ R, d.length = 4 ∧ at0 d 0 < v ∧ at0 d 1 < v ∧ at0 d 2 < v ∧ at0 d 3 < 3
  par : ∀ d ∈ R, at0 d 3 = 0 → at0 d 2 = (at0 d 0 + at0 d 1) % v
def stB (v : Nat) (R : List (List Nat)) : Bool := R.all fun d => (lawL v).all fun n => match lawStep v d n with
  | none => true
  | some f => R.contains f && (stripeM v).deeds.any fun D => decide (doable D d) && decide (f = setAll D.changes d)
theorem stB_ok {v : Nat} {R : List (List Nat)} (h : stB v R = true) : ∀ d ∈ R, ∀ n ∈ lawL v, ∀ f, lawStep v d n = some f → f ∈ R ∧ ∃ D ∈ (stripeM v).deeds, doable D d ∧ f = setAll D.changes d := by
  intro d hd n hn f hf
  have h1 := List.all_eq_true.mp (List.all_eq_true.mp h d hd) n hn
  rw [hf] at h1
  simp only [Bool.and_eq_true, List.any_eq_true, decide_eq_true_eq] at h1
  exact ⟨List.contains_iff_mem.mp h1.1, h1.2⟩
theorem st2 : stB 2 R2l = true := by decide +kernel
theorem st3 : stB 3 R3l = true := by decide +kernel
theorem cl2 : ∀ d ∈ R2l, ∀ D ∈ (stripeM 2).deeds, doable D d → setAll D.changes d ∈ R2l := by decide +kernel
theorem cl3 : ∀ d ∈ R3l, ∀ D ∈ (stripeM 3).deeds, doable D d → setAll D.changes d ∈ R3l := by decide +kernel
theorem ab2 : ∀ d ∈ R2l, ∃ n ∈ lawL 2, lawStep 2 d n ≠ none := by decide +kernel
theorem ab3 : ∀ d ∈ R3l, ∃ n ∈ lawL 3, lawStep 3 d n ≠ none := by decide +kernel
theorem rf2 : RF 2 R2l where
  eq := by rw [show (1000 : Nat) = 20 + 980 from rfl, reached_stay (by rw [reached2]; decide), reached2]
  z := by decide
  cl := cl2
  st := stB_ok st2
  able := ab2
  shape := by decide +kernel
  par := by decide +kernel
theorem rf3 : RF 3 R3l where
  eq := by rw [show (1000 : Nat) = 63 + 937 from rfl, reached_stay (by rw [reached3]; decide +kernel), reached3]
  z := by decide
  cl := cl3
  st := stB_ok st3
  able := ab3
  shape := by decide +kernel
  par := by decide +kernel
def Rl (v : Nat) : List (List Nat) := if v = 2 then R2l else R3l
theorem rf {v : Nat} (h2 : 2 ≤ v) (h3 : v ≤ 3) : RF v (Rl v) := by
  rcases (by omega : v = 2 ∨ v = 3) with rfl | rfl
  · exact rf2
  · exact rf3
end Rw
set_option Elab.async false
set_option linter.all false
set_option maxRecDepth 100000
set_option maxHeartbeats 4000000
/-! the plain law -/
namespace Rw
open PySem PySem.Spec PyProof.Rows L2
open Raised (Sk at0 Deed DeedOk Mach MachOk Good Reach has doable setAll incl withoutS)
theorem goFold_ind' {v : Nat} {d : List Nat} {P : List Nat → Prop} : ∀ (l : List LN) (o : List (List Nat)), (∀ n ∈ l, ∀ f, lawStep v d n = some f → P f) → (∀ f ∈ o, P f) → ∀ f ∈ l.foldl (goOne v d) o, P f
  | [], o, _, ho => ho
  | n :: l, o, hs, ho => goFold_ind' l _ (fun m hm => hs m (List.mem_cons_of_mem _ hm)) fun f hf => by
    unfold goOne at hf
    split at hf
    · exact ho f hf
    · rename_i g hg
      split at hf
      · exact ho f hf
      · rcases List.mem_append.mp hf with h | h
        · exact ho f h
        · rw [List.mem_singleton] at h; rw [h]; exact hs n List.mem_cons_self g hg
theorem reached_ind' {v : Nat} {P : List Nat → Prop} (h0 : P [0, 0, 0, 0]) (hs : ∀ d, P d → ∀ n ∈ lawL v, ∀ f, lawStep v d n = some f → P f) : ∀ t, ∀ f ∈ reached v t, P f
  | 0, f, hf => by
    have : f = [0, 0, 0, 0] := List.mem_singleton.mp hf
    rw [this]; exact h0
  | t + 1, f, hf => by
    have ih := reached_ind' h0 hs t
    rw [reached_succ] at hf
    unfold goRow at hf
    split at hf
    · rename_i h
      exact goFold_ind' _ _ (hs _ (ih _ (Raised.getD_mem h))) ih f hf
    · exact ih f hf
theorem bit_pow {m n : Nat} : (1 <<< m).testBit n = decide (m = n) := by rw [Nat.one_shiftLeft]; exact Nat.testBit_two_pow
theorem bit_one {n : Nat} : Nat.testBit 1 n = decide (0 = n) := bit_pow (m := 0)
theorem list4 {d : List Nat} (h : d.length = 4) : d = [at0 d 0, at0 d 1, at0 d 2, at0 d 3] := by
  match d, h with
  | [_, _, _, _], _ => rfl
theorem first_has {d : List Nat} (h : has [1, 1, 1, 1] d) : d = [0, 0, 0, 0] := by
  have hl : d.length = 4 := h.1.symm
  have key : ∀ i, i < 4 → at0 [1, 1, 1, 1] i = 1 → at0 d i = 0 := fun i hi e => by
    have := h.2 i (by omega)
    rw [e, bit_one, decide_eq_true_eq] at this
    exact this.symm
  rw [list4 hl, key 0 (by decide) rfl, key 1 (by decide) rfl, key 2 (by decide) rfl, key 3 (by decide) rfl]
section
variable {v : Nat} (h2 : 2 ≤ v) (h3 : v ≤ 3)
include h2 h3
theorem reach_iff {d : List Nat} : Reach (stripeM v) d ↔ d ∈ Rl v := by
  have F := rf h2 h3
  constructor
  · intro h
    induction h with
    | first h => rw [first_has h]; exact F.z
    | step h hD hd ih => exact F.cl _ ih _ hD hd
  · intro h
    rw [← F.eq] at h
    refine (reached_ind' (P := fun d => d ∈ Rl v ∧ Reach (stripeM v) d) ⟨F.z, .first (show has [1, 1, 1, 1] [0, 0, 0, 0] by decide)⟩ ?_ 1000 d h).2
    rintro d ⟨hd, hr⟩ n hn f hf
    obtain ⟨a, D, hD, hdo, rfl⟩ := F.st d hd n hn f hf
    exact ⟨a, hr.step hD hdo⟩
def fullL (v : Nat) : List Nat := [(1 <<< v) - 1, (1 <<< v) - 1, (1 <<< v) - 1, 7]
omit h2 h3 in
theorem full_eq : (stripeM v).full = fullL v := by
  show [2 ^ v - 1, 2 ^ v - 1, 2 ^ v - 1, 2 ^ 3 - 1] = _
  unfold fullL
  rw [Nat.one_shiftLeft]
def topC (v k : Nat) : Nat := if k < 3 then v else 3
omit h2 h3 in
theorem at_full {k : Nat} (hk : k < 4) : at0 (fullL v) k = 2 ^ topC v k - 1 := by
  unfold fullL topC
  rw [Nat.one_shiftLeft]
  match k, hk with
  | 0, _ => rfl
  | 1, _ => rfl
  | 2, _ => rfl
  | 3, _ => rfl
theorem shapeC {d : List Nat} (hd : d ∈ Rl v) {k : Nat} (hk : k < 4) : at0 d k < topC v k := by
  obtain ⟨_, s0, s1, s2, s3⟩ := (rf h2 h3).shape d hd
  match k, hk with
  | 0, _ => exact s0
  | 1, _ => exact s1
  | 2, _ => exact s2
  | 3, _ => exact s3
theorem has_full {d : List Nat} (hd : d ∈ Rl v) : has (fullL v) d := by
  have hl := ((rf h2 h3).shape d hd).1
  refine ⟨hl.symm, fun i hi => ?_⟩
  rw [at_full (by omega), Nat.testBit_two_pow_sub_one, decide_eq_true_eq]
  exact shapeC h2 h3 hd (by omega)
/-- the image that the law builds from a disk -/
structure Img (v : Nat) (d img : List Nat) : Prop where
  len : img.length = 4
  at_ : ∀ k, k < 4 → at0 img k = 1 <<< at0 d k ∨ at0 img k = at0 (fullL v) k
theorem img_good {d img : List Nat} (hd : d ∈ Rl v) (I : Img v d img) : Good (stripeM v) img := by
  have hl : img.length = (stripeM v).full.length := I.len
  have key : ∀ i, i < 4 → ∀ k, (at0 img i).testBit k = true → (at0 (fullL v) i).testBit k = true := fun i hi k hk => by
    rcases I.at_ i hi with e | e
    · rw [e, bit_pow, decide_eq_true_eq] at hk
      rw [at_full hi, Nat.testBit_two_pow_sub_one, ← hk, decide_eq_true_eq]
      exact shapeC h2 h3 hd hi
    · rw [← e]; exact hk
  refine ⟨hl, ?_, Raised.incl_of hl fun i hi k hk => by rw [full_eq]; exact key i (by rw [I.len] at hi; exact hi) k hk⟩
  rw [Raised.mem_zero]
  rintro ⟨i, hi, e⟩
  rw [I.len] at hi
  rcases I.at_ i hi with e' | e'
  · rw [e, Nat.one_shiftLeft] at e'
    exact absurd e'.symm (Nat.ne_of_gt (Nat.two_pow_pos _))
  · rw [e, at_full hi] at e'
    have : 1 < 2 ^ topC v i := Nat.one_lt_two_pow (by unfold topC; split <;> omega)
    omega
theorem img_has {d img : List Nat} (hd : d ∈ Rl v) (I : Img v d img) : has img d := by
  have hl := ((rf h2 h3).shape d hd).1
  refine ⟨by rw [I.len, hl], fun i hi => ?_⟩
  rcases I.at_ i (by omega) with e | e
  · rw [e, bit_pow, decide_eq_true_eq]
  · rw [e]; exact (has_full h2 h3 hd).2 i hi
def pieceL (v c x : Nat) : List Nat := (fullL v).take c ++ [1 <<< x] ++ (fullL v).drop (c + 1)
omit h2 h3 in
theorem piece_set {c x : Nat} (hc : c < 3) : pieceL v c x = (fullL v).set c (1 <<< x) := by
  unfold pieceL
  match c, hc with
  | 0, _ => rfl
  | 1, _ => rfl
  | 2, _ => rfl
theorem piece_good {c x : Nat} (hc : c < 3) (hx : x < v) : Good (stripeM v) (pieceL v c x) := by
  have at_ : ∀ j, j < 4 → at0 (pieceL v c x) j = if j = c then 1 <<< x else at0 (fullL v) j := fun j hj => by
    rw [piece_set hc]; exact Raised.at0_set _ _ _ _ (by show c < 4; omega)
  have pl : (pieceL v c x).length = 4 := by rw [piece_set hc, List.length_set]; rfl
  refine ⟨pl, ?_, Raised.incl_of pl fun i hi k hk => ?_⟩
  · rw [Raised.mem_zero]
    rintro ⟨i, hi, e⟩
    rw [pl] at hi
    rw [at_ i hi] at e
    split at e
    · rw [Nat.one_shiftLeft] at e
      exact absurd e (Nat.ne_of_gt (Nat.two_pow_pos _))
    · rw [at_full hi] at e
      have : 1 < 2 ^ topC v i := Nat.one_lt_two_pow (by unfold topC; split <;> omega)
      omega
  · rw [pl] at hi
    rw [at_ i hi] at hk
    rw [full_eq]
    split at hk
    · rename_i e
      subst e
      rw [bit_pow, decide_eq_true_eq] at hk
      rw [at_full hi, Nat.testBit_two_pow_sub_one, ← hk, decide_eq_true_eq]
      unfold topC
      rw [if_pos hc]; exact hx
    · exact hk
theorem piece_has {c x : Nat} (hc : c < 3) {d : List Nat} (hd : d ∈ Rl v) : has (pieceL v c x) d ↔ at0 d c = x := by
  have hl := ((rf h2 h3).shape d hd).1
  have at_ : ∀ j, j < 4 → at0 (pieceL v c x) j = if j = c then 1 <<< x else at0 (fullL v) j := fun j hj => by
    rw [piece_set hc]; exact Raised.at0_set _ _ _ _ (by show c < 4; omega)
  have pl : (pieceL v c x).length = 4 := by rw [piece_set hc, List.length_set]; rfl
  constructor
  · intro h
    have := h.2 c (by omega)
    rw [at_ c (by omega), if_pos rfl, bit_pow, decide_eq_true_eq] at this
    exact this.symm
  · intro h
    refine ⟨by rw [pl, hl], fun i hi => ?_⟩
    rw [at_ i (by omega)]
    split
    · rename_i e
      rw [e, bit_pow, decide_eq_true_eq, h]
    · exact (has_full h2 h3 hd).2 i hi
/-- what the law finds -/
def dueB (v : Nat) (img : List Nat) (c x : Nat) : Bool := decide (∀ o ∈ Rl v, has img o → at0 o c = x)
theorem told_due {img : List Nat} {c x : Nat} {t : Bool} (hl : img.length = 4) (hc : c < 3) (h : t = true ↔ ∀ r ∈ withoutS img [pieceL v c x], ¬ ∃ d, Reach (stripeM v) d ∧ has r d) : t = dueB v img c x := by
  rw [Raised.without_one] at h
  have pl : (pieceL v c x).length = 4 := by rw [piece_set hc, List.length_set]; rfl
  unfold dueB
  rw [Bool.eq_iff_iff, h, decide_eq_true_eq]
  constructor
  · intro hh o ho hi
    apply Classical.byContradiction
    intro hn
    obtain ⟨r, hr, hro⟩ := (Raised.splitS_has (d := o) (by rw [hl, pl])).mpr ⟨hi, fun hp => hn ((piece_has h2 h3 hc ho).mp hp)⟩
    exact hh r hr ⟨o, (reach_iff h2 h3).mpr ho, hro⟩
  · rintro hh r hr ⟨d, hd, hrd⟩
    have hm := (reach_iff h2 h3).mp hd
    obtain ⟨a, b⟩ := (Raised.splitS_has (by rw [hl, pl])).mp ⟨r, hr, hrd⟩
    exact b ((piece_has h2 h3 hc hm).mpr (hh d hm a))
omit h2 h3 in
theorem due_len {img : List Nat} {c x : Nat} : decide ((((Rl v).filter fun o => decide (has img o)).filter fun o => !decide (at0 o c = x)).length = 0) = dueB v img c x := by
  unfold dueB
  rw [Bool.eq_iff_iff, decide_eq_true_eq, decide_eq_true_eq, List.length_eq_zero_iff, List.filter_eq_nil_iff]
  constructor
  · intro h o ho hi
    have := h o (List.mem_filter.mpr ⟨ho, decide_eq_true hi⟩)
    simpa using this
  · intro h o ho
    obtain ⟨a, b⟩ := List.mem_filter.mp ho
    have := h o a (of_decide_eq_true b)
    simp [this]
theorem two_known {d img : List Nat} (hd : d ∈ Rl v) (I : Img v d img) (hw : at0 d 3 = 0) (hi : at0 img 3 = 1) (hu : ((List.range 3).filter fun k => decide (at0 img k = at0 (fullL v) k)).length < 2) {c x : Nat} (hc : c < 3) : dueB v img c x = decide (x = at0 d c) := by
  have F := rf h2 h3
  have kn : ∀ o ∈ Rl v, has img o → ∀ k, k < 3 → at0 img k ≠ at0 (fullL v) k → at0 o k = at0 d k := fun o ho hio k hk hne => by
    have hol := (F.shape o ho).1
    rcases I.at_ k (by omega) with e | e
    · have := hio.2 k (by omega)
      rw [e, bit_pow, decide_eq_true_eq] at this
      exact this.symm
    · exact absurd e hne
  have all : ∀ o ∈ Rl v, has img o → at0 o c = at0 d c := fun o ho hio => by
    obtain ⟨hol, o0, o1, o2, o3⟩ := F.shape o ho
    obtain ⟨hdl, d0, d1, d2, d3⟩ := F.shape d hd
    have hw' : at0 o 3 = 0 := by
      have := hio.2 3 (by omega)
      rw [hi, bit_one, decide_eq_true_eq] at this
      exact this.symm
    have p1 := F.par o ho hw'
    have p2 := F.par d hd hw
    have k0 := kn o ho hio 0 (by decide)
    have k1 := kn o ho hio 1 (by decide)
    have k2 := kn o ho hio 2 (by decide)
    have h012 : at0 o 0 = at0 d 0 ∧ at0 o 1 = at0 d 1 ∧ at0 o 2 = at0 d 2 := by
      rw [show List.range 3 = [0, 1, 2] from rfl] at hu
      by_cases e0 : at0 img 0 = at0 (fullL v) 0
      · by_cases e1 : at0 img 1 = at0 (fullL v) 1
        · exfalso; simp [List.filter_cons, e0, e1] at hu
          split at hu <;> simp at hu
        · by_cases e2 : at0 img 2 = at0 (fullL v) 2
          · exfalso; simp [List.filter_cons, e0, e1, e2] at hu
          · have a1 := k1 e1
            have a2 := k2 e2
            refine ⟨?_, a1, a2⟩
            rw [a1, a2, p2] at p1
            rcases (by omega : v = 2 ∨ v = 3) with rfl | rfl <;> omega
      · by_cases e1 : at0 img 1 = at0 (fullL v) 1
        · by_cases e2 : at0 img 2 = at0 (fullL v) 2
          · exfalso; simp [List.filter_cons, e0, e1, e2] at hu
          · have a0 := k0 e0
            have a2 := k2 e2
            refine ⟨a0, ?_, a2⟩
            rw [a0, a2, p2] at p1
            rcases (by omega : v = 2 ∨ v = 3) with rfl | rfl <;> omega
        · have a0 := k0 e0
          have a1 := k1 e1
          exact ⟨a0, a1, by rw [p1, p2, a0, a1]⟩
    match c, hc with
    | 0, _ => exact h012.1
    | 1, _ => exact h012.2.1
    | 2, _ => exact h012.2.2
  unfold dueB
  rw [Bool.eq_iff_iff, decide_eq_true_eq, decide_eq_true_eq]
  constructor
  · intro h; exact (h d hd (img_has h2 h3 hd I)).symm
  · intro h o ho hio; rw [h]; exact all o ho hio
end
end Rw
set_option Elab.async false
set_option linter.all false
set_option maxRecDepth 100000
set_option maxHeartbeats 8000000
/-! the law's walk: rules -/
namespace Rw
open PySem PySem.Spec PyProof.Rows L2
open Raised (Sk at0 Deed DeedOk Mach MachOk Good Reach has)
section
variable {X : Cx}
/-- a statement with a point in between: what stands behind it is shown once -/
def sMid (t : TS) : TS := fun D σ H => ∃ J : L2.St → Hp → Prop, t { D with nx := J } σ H ∧ ∀ σ' H', J σ' H' → D.nx σ' H'
theorem ps_mid {st : Stmt} {t : TS} (h : PS X st t) : PS X st (sMid t) := by
  refine ⟨fun pins s σ H D I ⟨J, q, j⟩ => thn (h.run pins s σ H _ I q) fun fl s' x => ?_⟩
  cases fl with
  | next => obtain ⟨σ', H', I', q'⟩ := x; exact ⟨σ', H', I', j σ' H' q'⟩
  | brk => exact x
  | cont => exact x
  | ret u => exact x
def rNotN : R2 := fun x y H Q => y = .non ∧ Q (.bl (!decide (x = .non))) H
theorem op_notN1 : OpR X (compareOp .IsNot) rNotN := op_notN
/-- int operators, the answer named -/
def rAddE : R2 := fun x y H Q => ∃ i j k : Int, x = .int i ∧ y = .int j ∧ i + j = k ∧ Q (.int k) H
def rSubE : R2 := fun x y H Q => ∃ i j k : Int, x = .int i ∧ y = .int j ∧ i - j = k ∧ Q (.int k) H
def rModE : R2 := fun x y H Q => ∃ i j k : Int, x = .int i ∧ y = .int j ∧ 0 < j ∧ i % j = k ∧ Q (.int k) H
theorem op_addE : OpR X (binaryOp .Add) rAddE := by
  intro pins s σ H x y v u Q I rx ry ⟨i, j, k, e1, e2, e3, q⟩
  exact op_add pins s σ H x y v u Q I rx ry ⟨i, j, e1, e2, by subst e3; exact q⟩
theorem op_subE : OpR X (binaryOp .Sub) rSubE := by
  intro pins s σ H x y v u Q I rx ry ⟨i, j, k, e1, e2, e3, q⟩
  exact op_sub pins s σ H x y v u Q I rx ry ⟨i, j, e1, e2, by subst e3; exact q⟩
theorem op_modE : OpR X (binaryOp .Mod) rModE := by
  intro pins s σ H x y v u Q I rx ry ⟨i, j, k, e1, e2, e3, e4, q⟩
  exact op_mod pins s σ H x y v u Q I rx ry ⟨i, j, e1, e2, e3, by subst e4; exact q⟩
end
theorem sql_same {K : PySem.W.Frag} {H H' : Hp} {a : Addr} {xs : List V} (h : SqL K H a xs) (s : Same H H') : SqL K H' a xs := by
  rcases h with (h | ⟨ob, h⟩) | h
  · exact .inl (.inl (s _ _ h))
  · exact .inl (.inr ⟨ob, s _ _ h⟩)
  · exact .inr h
def spLaw (K : PySem.W.Frag) : Sp := fun vs H Q _ => ∃ (a : Addr) (ns : List Int), vs = [.ref a] ∧ SqL K H a (ns.map V.int) ∧ ns.length ≤ 63 ∧ ∀ H', Q (.bl true) H'
abbrev lawN : List Str := ["_law_script", "_law_values", "_law_machine", "_law_names_here", "_law_disk", "_law_k", "_law_able", "_law_full", "_law_image", "_law_lost", "_law_ends", "_law_cell_here", "_law_value", "_law_piece", "_law_due", "_law_actual", "_law_unknown", "_law_name", "_law_other"]
section
variable {P : Program} {w : World} {K : PySem.W.Frag} {mg : Str → Option Value} {base : Heap} {A : Ad}
theorem txs_at {l : List LN} {i : Nat} {x : V} (h : (txs l)[i]? = some x) : ∃ n, l[i]? = some n ∧ x = .str n.text := by
  unfold txs at h
  rw [List.getElem?_map] at h
  cases e : l[i]? with
  | none => rw [e] at h; cases h
  | some n => rw [e] at h; exact ⟨n, rfl, (Option.some.inj h).symm⟩
def rEqB : R2 := fun x y H Q => ∃ b, scal x y = true ∧ decide (x = y) = b ∧ Q (.bl b) H
theorem op_eqB {X : Cx} : OpR X (compareOp .Eq) rEqB := by
  intro pins s σ H x y v u Q I rx ry ⟨b, e1, e2, q⟩
  exact op_eq pins s σ H x y v u Q I rx ry ⟨e1, by rw [e2]; exact q⟩
theorem ok_law (T : Txt K mg A) : FnOk P w K mg base CX0 9 A.a_law A.d_law ["_law_script"] (spLaw K) := by
  have GC : FnOk P w K mg base CX0 1 _ _ _ _ := ok_law_cell T
  have GX : FnOk P w K mg base CX0 1 _ _ _ _ := ok_law_mix T
  have GN : FnOk P w K mg base CX0 1 _ _ _ _ := ok_law_names T
  have GS : FnOk P w K mg base CX0 1 _ _ _ _ := ok_law_stripe T
  have GR : FnOk P w K mg base CX0 2 _ _ _ _ := ok_law_reached T
  have GI : FnOk P w K mg base CX0 1 _ _ _ _ := ok_law_fits T
  have GF : FnOk P w K mg base CX0 2 _ _ _ _ := ok_form T
  have GM : FnOk P w K mg base CX0 5 _ _ _ _ := ok_stripe T
  have GT : FnOk P w K mg base CX0 7 _ _ _ _ := ok_told T
  refine T.F_law.ok sc_law (fun vs H Q E h => ?_) (fun cdv Ar outer s H vs Q E hr h => ?_)
  · obtain ⟨a, ns, rfl, _⟩ := h
    rfl
  · obtain ⟨a, ns, rfl, hs, hl, q⟩ := h
    have r1 := hr.mono (show 1 ≤ 8 by decide)
    have r2 := hr.mono (show 2 ≤ 8 by decide)
    have r3 := hr.mono (show 3 ≤ 8 by decide)
    have r5 := hr.mono (show 5 ≤ 8 by decide)
    have r7 := hr.mono (show 7 ≤ 8 by decide)
    refine ⟨_, pss_cons (ps_set (i := 1) sc_law.nd rfl (.inr rfl) (pe_op op_addE pe_int (pe_op op_mod (pe_call GC r1 (by rfl) T.g_law_cell T.F_law_cell.kp T.b_law_cell .nil pass0 (pa_cons (pv 0) (pa_cons pe_int pa_nil))) pe_int)))
      (pss_cons (ps_set (i := 2) sc_law.nd rfl (.inl rfl) (pe_call GM r5 (by rfl) T.g_stripe_machine T.F_stripe_machine.kp T.b_stripe_machine .nil pass0 (pa_cons (pe_make T.m_StripeForm_init GF r3 (by rfl) T.g_StripeForm T.b_StripeForm_init .nil pass0 (pa_cons (pv 1) pa_nil)) pa_nil)))
      (pss_cons (ps_set (i := 3) sc_law.nd rfl (.inl rfl) (pe_call GN r1 (by rfl) T.g_law_names T.F_law_names.kp T.b_law_names .nil pass0 (pa_cons (pv 1) pa_nil)))
      (pss_cons (ps_set (i := 4) sc_law.nd rfl (.inr rfl) (pe_tup (pa_cons pe_int (pa_cons pe_int (pa_cons pe_int (pa_cons pe_int pa_nil))))))
      (pss_cons (ps_for PassesOwn.never rfl (pi_range1 rfl T.z_range (pa_cons (pe_op op_mod (pe_call GC r1 (by rfl) T.g_law_cell T.F_law_cell.kp T.b_law_cell .nil pass0 (pa_cons (pv 0) (pa_cons pe_int pa_nil))) pe_int) pa_nil)) (pg_name (i := 5) sc_law.nd rfl (.inl rfl))
        (pss_cons (ps_setLc (i := 6) (own := [("_law_name", 17)]) (g := gName 17) (tt := tTest (tOp rNotN (tCall spLStripe [] E0 (tCons (tVar 1) (tCons (tVar 4) (tCons (tVar 17) tNil)))) (tC .non))) (te := tVar 17) rfl sc_law.nd rfl rfl (sw_true rfl rfl rfl (by decide +kernel)) (pi_list (pv 3))
            (blkOk_by (N := lawN) (sc := defScope s_law) (by decide +kernel))
            (fun _ _ _ _ _ => pg_name (i := 17) sc_law.nd rfl (Or.inl rfl)) (fun _ _ _ _ _ => pts_one (pt_cmpR op_notN1 (pe_call GS r1 (by rfl) T.g_law_stripe T.F_law_stripe.kp T.b_law_stripe .nil pass0 (pa_cons (pv 1) (pa_cons (pv 4) (pa_cons (pv 17) pa_nil)))) pe_non (nomark _))) (fun _ _ _ _ _ => pv 17))
        (pss_one (ps_set (i := 4) sc_law.nd rfl (.inr rfl) (pe_call GS r1 (by rfl) T.g_law_stripe T.F_law_stripe.kp T.b_law_stripe .nil pass0 (pa_cons (pv 1) (pa_cons (pv 4) (pa_cons
          (pe_ix ix_list (pv 6) (pe_op op_modE (pe_call GX r1 (by rfl) T.g_law_mix T.F_law_mix.kp T.b_law_mix .nil pass0 (pa_cons (pe_call GC r1 (by rfl) T.g_law_cell T.F_law_cell.kp T.b_law_cell .nil pass0 (pa_cons (pv 0) (pa_cons (pe_op op_add pe_int (pv 5)) pa_nil))) (pa_cons (pv 5) pa_nil)))
            (pe_callB call_len_seq (by rfl) T.z_len PySem.boot_len (pa_cons (pv 6) pa_nil))) (fun _ _ => rfl)) pa_nil))))))))
      (pss_cons (ps_set (i := 7) sc_law.nd rfl (.inr rfl) (pe_tup (pa_cons (pe_op op_subE (pe_op op_shlNN pe_int (pv 1)) pe_int) (pa_cons (pe_op op_subE (pe_op op_shlNN pe_int (pv 1)) pe_int) (pa_cons (pe_op op_subE (pe_op op_shlNN pe_int (pv 1)) pe_int) (pa_cons pe_int pa_nil))))))
      (pss_cons (ps_set (i := 8) sc_law.nd rfl (.inr rfl) (pe_lc (own := [("_law_value", 12)]) (g := gName 12) (tt := tYes) (te := tOp rShlNN (tC (.int 1)) (tVar 12)) rfl sc_law.nd (pi_tup (pv 4)) (blkOk_any (N := lawN) (by decide +kernel))
          (fun _ _ _ _ _ => pg_name (i := 12) sc_law.nd rfl (Or.inl rfl)) (fun _ _ _ _ _ => pts_nil) (fun _ _ _ _ _ => pe_op op_shlNN pe_int (pv 12))))
      (pss_cons (ps_set (i := 9) sc_law.nd rfl (.inl rfl) (pe_op op_mod (pe_call GC r1 (by rfl) T.g_law_cell T.F_law_cell.kp T.b_law_cell .nil pass0 (pa_cons (pv 0) (pa_cons pe_int pa_nil))) pe_int))
      (pss_cons (ps_mid (ps_if (pt_cmpR op_eq (pe_op op_mod (pe_call GC r1 (by rfl) T.g_law_cell T.F_law_cell.kp T.b_law_cell .nil pass0 (pa_cons (pv 0) (pa_cons pe_int pa_nil))) pe_int) pe_int (nomark _))
          (pss_one (ps_if (pt_cmpR op_lt (pv 9) pe_int (nomark _)) (pss_one (ps_asg (pe_ix ix_tup (pv 7) (pv 9) (fun _ _ => rfl)) (pg_sub (pv 8) (pv 9) set_list))) pss_nil))
          (pss_one (ps_for PassesOwn.never rfl (pi_range1 rfl T.z_range (pa_cons pe_int pa_nil)) (pg_name (i := 5) sc_law.nd rfl (.inl rfl))
            (pss_one (ps_if (pt_cmpR op_lt (pe_op op_mod (pe_call GX r1 (by rfl) T.g_law_mix T.F_law_mix.kp T.b_law_mix .nil pass0 (pa_cons (pe_call GC r1 (by rfl) T.g_law_cell T.F_law_cell.kp T.b_law_cell .nil pass0 (pa_cons (pv 0) (pa_cons pe_int pa_nil))) (pa_cons (pv 5) pa_nil))) pe_int) pe_int (nomark _))
              (pss_one (ps_asg (pe_ix ix_tup (pv 7) (pv 5) (fun _ _ => rfl)) (pg_sub (pv 8) (pv 5) set_list))) pss_nil))))))
      (pss_cons (ps_setLc (i := 10) (own := [("_law_other", 18)]) (g := gName 18) (tt := tB (tCall spLFits [] E0 (tCons (tVar 8) (tCons (tVar 18) tNil)))) (te := tVar 18) rfl sc_law.nd rfl rfl (sw_true rfl rfl rfl (by decide +kernel))
          (pi_list (pe_call GR r2 (by rfl) T.g_law_reached T.F_law_reached.kp T.b_law_reached .nil pass0 (pa_cons (pv 1) pa_nil))) (blkOk_by (N := lawN) (sc := defScope s_law) (by decide +kernel))
          (fun _ _ _ _ _ => pg_name (i := 18) sc_law.nd rfl (Or.inl rfl)) (fun _ _ _ _ _ => pts_one (pt_val (pe_call GI r1 (by rfl) T.g_law_fits T.F_law_fits.kp T.b_law_fits .nil pass0 (pa_cons (pv 8) (pa_cons (pv 18) pa_nil))))) (fun _ _ _ _ _ => pv 18))
      (pss_cons (ps_for PassesOwn.never rfl (pi_range1 rfl T.z_range (pa_cons pe_int pa_nil)) (pg_name (i := 11) sc_law.nd rfl (.inr rfl))
        (pss_one (ps_for PassesOwn.never rfl (pi_range1 rfl T.z_range (pa_cons (pv 1) pa_nil)) (pg_name (i := 12) sc_law.nd rfl (.inr rfl))
          (pss_cons (ps_set (i := 13) sc_law.nd rfl (.inl rfl) (pe_lst (pa_cons (pe_op op_catX (pe_op op_catX (pe_slice sl_tupX (pv 7) po_none (po_some (pv 11))) (pe_tup (pa_cons (pe_op op_shlNN pe_int (pv 12)) pa_nil))) (pe_slice sl_tupX (pv 7) (po_some (pe_op op_add (pv 11) pe_int)) po_none)) pa_nil)))
          (pss_cons (ps_set (i := 14) sc_law.nd rfl (.inl rfl) (pe_cmpR op_eqB (pe_callB call_len_seq (by rfl) T.z_len PySem.boot_len (pa_cons
            (pe_lc (own := [("_law_other", 18)]) (g := gName 18) (tt := tTest (tOp rNe (tOp (rIxT K) (tVar 18) (tVar 11)) (tVar 12))) (te := tC (.int 1)) rfl sc_law.nd (pi_list (pv 10)) (blkOk_by (N := lawN) (sc := defScope s_law) (by decide +kernel))
              (fun _ _ _ _ _ => pg_name (i := 18) sc_law.nd rfl (Or.inl rfl)) (fun _ _ _ _ _ => pts_one (pt_cmpR op_ne (pe_ix ix_tup (pv 18) (pv 11) (fun _ _ => rfl)) (pv 12) (nomark _))) (fun _ _ _ _ _ => pe_int)) pa_nil)) pe_int (nomark _)))
          (pss_cons (ps_set (i := 15) sc_law.nd rfl (.inl rfl) (pe_call GT r7 (by rfl) T.g_told_at_end T.F_told_at_end.kp T.b_told_at_end .nil pass0 (pa_cons (pv 2) (pa_cons (pe_callTy call_tuple_of (by rfl) T.z_tuple (by decide +kernel) (pa_cons (pv 8) pa_nil)) (pa_cons (pv 13) pa_nil)))))
          (pss_cons (ps_if (PW.pt (pw_or (pt_not (pt_val (pe_callB call_isi (by rfl) T.z_isinstance PyProof.Rows.boot_isinstance (pa_cons (pv 15) (pa_cons (pe_bltn (v := .ty "bool") rfl T.z_bool PyProof.Rows.boot_bool rfl) pa_nil))))) (pw_or1 (pt_cmpR op_ne (pv 15) (pv 14) (nomark _))))) (pss_one (ps_ret pe_bl)) pss_nil)
          (pss_cons (ps_set (i := 16) sc_law.nd rfl (.inl rfl) (pe_callB call_len_seq (by rfl) T.z_len PySem.boot_len (pa_cons
            (pe_lc (own := [("_law_k", 5)]) (g := gName 5) (tt := tTest (tOp rEq (tOp (rIxL K) (tVar 8) (tVar 5)) (tOp (rIxT K) (tVar 7) (tVar 5)))) (te := tC (.int 1)) rfl sc_law.nd (pi_range1 rfl T.z_range (pa_cons pe_int pa_nil)) (blkOk_by (N := lawN) (sc := defScope s_law) (by decide +kernel))
              (fun _ _ _ _ _ => pg_name (i := 5) sc_law.nd rfl (Or.inl rfl)) (fun _ _ _ _ _ => pts_one (pt_cmpR op_eq (pe_ix ix_list (pv 8) (pv 5) (fun _ _ => rfl)) (pe_ix ix_tup (pv 7) (pv 5) (fun _ _ => rfl)) (nomark _))) (fun _ _ _ _ _ => pe_int)) pa_nil)))
          (pss_one (ps_if (PW.pt (pw_and (pt_cmpR op_eq (pe_ix ix_tup (pv 4) pe_int (fun _ _ => rfl)) pe_int (nomark _)) (pw_and (pt_cmpR op_eq (pe_ix ix_list (pv 8) pe_int (fun _ _ => rfl)) pe_int (nomark _)) (pw_and (pt_cmpR op_lt (pv 16) pe_int (nomark _))
            (pw_and1 (pt_cmpR op_ne (pv 15) (pe_cmpR op_eq (pv 12) (pe_ix ix_tup (pv 4) (pv 11) (fun _ _ => rfl)) (nomark _)) (nomark _))))))) (pss_one (ps_ret pe_bl)) pss_nil))))))))))
      (pss_one (ps_ret pe_bl)))))))))))), ?_⟩
    have sl1 : 1 ≤ sizeLine := by rw [sizeLine_eq]; decide
    have sl4 : 4 ≤ sizeLine := by rw [sizeLine_eq]; decide
    refine ⟨_, rfl, a, 0, ns, rfl, Int.le_refl _, hs, hl, fun r => ?_⟩
    obtain ⟨v, hv, h2, h3⟩ : ∃ v : Nat, 2 + r % 2 = (v : Int) ∧ 2 ≤ v ∧ v ≤ 3 := ⟨(2 + r % 2).toNat, by omega, by omega, by omega⟩
    have F := rf h2 h3
    refine ⟨_, _, rfl, rfl, show (0 : Int) < 2 by decide, 2, r % 2, (v : Int), rfl, rfl, hv, ?_⟩
    refine ⟨_, rfl, fun x dx nx ndx nex => ⟨x, dx, v, rfl, upd_same, h2, by omega, rfl, x, v, rfl, ⟨dx, upd_same⟩, h2, h3, fun H1 m cc dd ff s1 hM => ?_⟩⟩
    have s01 : Same H H1 := fun c o e => s1 c o (by rw [upd_ne (ne_of_none e nx), upd_ne (ne_of_none e nx), upd_ne (ne_of_none e ndx)]; exact e)
    clear s1 nx ndx nex
    refine ⟨_, rfl, v, rfl, h2, h3, fun H2 nl s2 en => ⟨sl4, fun da0 nda => ?_⟩⟩
    have s03 := (s01.trans s2).trans (same_new (o := .tup [.int 0, .int 0, .int 0, .int 0]) nda)
    have hM3 := (hM.same s2).same (same_new (o := .tup [.int 0, .int 0, .int 0, .int 0]) nda)
    have en3 := same_new (o := .tup [.int 0, .int 0, .int 0, .int 0]) nda _ _ en
    have eda : SkAt (upd H2 da0 (.tup [.int 0, .int 0, .int 0, .int 0])) da0 [0, 0, 0, 0] := upd_same
    generalize upd H2 da0 (.tup [.int 0, .int 0, .int 0, .int 0]) = H3 at s03 hM3 en3 eda ⊢
    have hs3 := sql_same hs s03
    clear hM en s2 nda s01 hs s03
    refine ⟨_, rfl, a, 1, ns, rfl, by decide, hs3, hl, fun r1 => ⟨_, _, rfl, rfl, show (0 : Int) < 26 by decide, r1 % 26, rfl, by omega, by omega, ?_⟩⟩
    refine for_range (lo := 0) (n := (r1 % 26).toNat) (fun k σ H' => ∃ (da : Addr) (d : List Nat) (y5 y6 : Option V), σ = [some (.ref a), some (vn v), some (.ref m), some (.ref nl), some (.ref da), y5, y6, none, none, none, none, none, none, none, none, none, none, none, none] ∧ Same H3 H' ∧ SkAt H' da d ∧ d ∈ Rl v)
      ⟨da0, _, none, none, rfl, Same.refl _, eda, F.z⟩ ?_ ?_
    · rintro k σ H4 hk ⟨da, d, y5, y6, rfl, s4, ed, hd⟩
      rw [Int.zero_add]
      have hdl := (F.shape d hd).1
      have en4 := s4 _ _ en3
      refine ⟨_, rfl, nl, rfl, ⟨_, SqL.of en4⟩, fun D nD => ?_⟩
      refine lc_list (K := K) (a := nl) (xs := txs (lawL v)) (fun i H' => Same H4 H' ∧ H' D = some (.lst (txs (((lawL v).take i).filter fun n => (lawStep v d n).isSome)))) ⟨same_new nD, upd_same⟩ (fun i H' _ ⟨sm, _⟩ => SqL.of (sm _ _ en4)) ?_ ?_
      · rintro i x H5 hx ⟨sm, eD⟩
        obtain ⟨n, hn, rfl⟩ := txs_at hx
        have hi := (List.getElem?_eq_some_iff.mp hn).1
        have hll := lawL_len h2 h3
        refine ⟨rfl, ?_⟩
        refine ⟨_, rfl, _, rfl, _, rfl, v, da, d, n, rfl, by omega, sm _ _ ed, hdl, ln_fact h2 h3 (List.mem_of_getElem? hn), fun H6 y s6 oy => ⟨rfl, _, rfl, ?_⟩⟩
        rw [List.take_add_one, hn, Option.toList_some, List.filter_append]
        cases hst : lawStep v d n with
        | none =>
          rw [hst] at oy
          obtain rfl : y = .non := oy
          refine ifF rfl ⟨sm.trans s6, ?_⟩
          rw [List.filter_cons, hst, s6 _ _ eD]
          simp
        | some f =>
          rw [hst] at oy
          obtain ⟨p, rfl, ep⟩ := oy
          refine ifT rfl ⟨_, rfl, _, s6 _ _ eD, ?_, same_mut (sm.trans s6) nD, ?_⟩
          · rw [txs_len]
            exact small_line (Nat.le_trans (List.length_filter_le _ _) (by rw [List.length_take]; omega))
          · rw [upd_same, List.filter_cons, hst, txs_app]
            simp [txs]
      rintro H5 ⟨sm, eD⟩
      rw [List.take_of_length_le (by rw [txs_len]; exact Nat.le_refl _)] at eD
      generalize hab : ((lawL v).filter fun n => (lawStep v d n).isSome) = able at eD
      have habl : 0 < able.length := by
        obtain ⟨n, hn, hne⟩ := F.able d hd
        refine List.length_pos_of_mem (a := n) ?_
        rw [← hab]
        refine List.mem_filter.mpr ⟨hn, ?_⟩
        cases e : lawStep v d n with
        | none => exact absurd e hne
        | some f => rfl
      refine ⟨_, rfl, _, rfl, _, rfl, _, rfl, _, rfl, _, _, rfl, rfl, a, _, ns, rfl, by omega, sql_same hs3 (s4.trans sm), hl, fun r2 => ⟨_, rfl, r2, (k : Int), rfl, fun r3 => ?_⟩⟩
      obtain ⟨j, hj, hjl⟩ : ∃ j : Nat, r3 % (able.length : Int) = (j : Int) ∧ j < able.length := ⟨(r3 % (able.length : Int)).toNat, by rw [Int.toNat_of_nonneg (Int.emod_nonneg _ (by omega))], by have := Int.emod_lt_of_pos r3 (show (0 : Int) < (able.length : Int) by omega); have := Int.emod_nonneg r3 (show (able.length : Int) ≠ 0 by omega); omega⟩
      refine ⟨_, rfl, D, _, rfl, .inl (SqL.of eD), r3, (able.length : Int), (j : Int), rfl, by rw [txs_len], by omega, hj, ?_⟩
      have hn : able[j]? = some able[j] := List.getElem?_eq_getElem hjl
      have hmem : able[j] ∈ able := List.getElem_mem hjl
      generalize able[j] = n at hn hmem
      rw [← hab] at hmem
      obtain ⟨hm1, hm2⟩ := List.mem_filter.mp hmem
      refine ⟨D, _, (j : Int), .str n.text, rfl, rfl, SqL.of eD, atI_nat (by unfold txs; rw [List.getElem?_map, hn]; rfl), v, da, d, n, rfl, by omega, sm _ _ ed, hdl, ln_fact h2 h3 hm1, fun H6 y s6 oy => ?_⟩
      cases hst : lawStep v d n with
      | none => rw [hst] at hm2; exact absurd hm2 Bool.false_ne_true
      | some f =>
        rw [hst] at oy
        obtain ⟨p, rfl, ep⟩ := oy
        exact ⟨p, f, _, _, rfl, s4.trans (sm.trans s6), ep, (F.st d hd n hm1 f hst).1⟩
    rintro σ H4 ⟨da, d, y5, y6, rfl, s4, ed, hd⟩
    have hdl := (F.shape d hd).1
    have hM4 := hM3.same s4
    have hs4 := sql_same hs3 s4
    clear hM3 hs3 en3 eda
    have h1v : 1 ≤ 1 <<< v := by rw [Nat.one_shiftLeft]; exact Nat.two_pow_pos v
    have hsub : (((1 <<< v : Nat)) : Int) - 1 = (((1 <<< v) - 1 : Nat) : Int) := by omega
    refine ⟨_, rfl, 1, v, rfl, rfl, by omega, by decide, _, 1, _, rfl, rfl, hsub, _, rfl, 1, v, rfl, rfl, by omega, by decide, _, 1, _, rfl, rfl, hsub, _, rfl, 1, v, rfl, rfl, by omega, by decide, _, 1, _, rfl, rfl, hsub, sl4, fun fa nfa => ?_⟩
    have s5 := same_new (o := .tup [vn ((1 <<< v) - 1), vn ((1 <<< v) - 1), vn ((1 <<< v) - 1), .int 7]) nfa
    have efa : SkAt (upd H4 fa (.tup [vn ((1 <<< v) - 1), vn ((1 <<< v) - 1), vn ((1 <<< v) - 1), .int 7])) fa (fullL v) := upd_same
    generalize upd H4 fa (.tup [vn ((1 <<< v) - 1), vn ((1 <<< v) - 1), vn ((1 <<< v) - 1), .int 7]) = H5 at s5 efa ⊢
    have ed5 : SkAt H5 da d := s5 _ _ ed
    have hM5 := hM4.same s5
    have hs5 := sql_same hs4 s5
    clear hM4 hs4 s4 s5 ed nfa
    have hbig : ∀ k, k < 4 → at0 d k < 4 := fun k hk => by
      have := shapeC h2 h3 hd hk
      unfold topC at this
      split at this <;> omega
    refine ⟨_, rfl, da, rfl, ⟨_, ed5.sq⟩, fun il nil => ?_⟩
    refine lc_tup (K := K) (a := da) (xs := vns d) (fun i H' => Same H5 H' ∧ H' il = some (.lst (vns ((d.take i).map fun m => 1 <<< m)))) ⟨same_new nil, upd_same⟩ (fun i H' _ ⟨sm, _⟩ => SkAt.sq (s := d) (sm _ _ ed5)) ?_ ?_
    · rintro i x H6 hx ⟨sm, eD⟩
      obtain ⟨m, hm, rfl⟩ := vns_at hx
      have hi := (List.getElem?_eq_some_iff.mp hm).1
      have hm4 : m < 4 := by rw [← at0_of hm]; exact hbig i (by omega)
      refine ⟨rfl, yes_of (iteT ?_)⟩
      refine ⟨_, rfl, 1, m, rfl, rfl, by omega, by decide, _, eD, small_line (by rw [vns_len, List.length_map, List.length_take]; omega), same_mut sm nil, ?_⟩
      rw [upd_same, List.take_add_one, hm, List.map_append, vns_app]; rfl
    rintro H6 ⟨s6, eil⟩
    rw [List.take_of_length_le (by rw [vns_len]; exact Nat.le_refl _)] at eil
    have hI0 : Img v d (d.map fun m => 1 <<< m) := ⟨by rw [List.length_map]; exact hdl, fun k hk => .inl (at0_of (by rw [List.getElem?_map, of_at0 (show k < d.length by omega)]; rfl))⟩
    generalize (d.map fun m => 1 <<< m) = img0 at eil hI0
    have ed6 : SkAt H6 da d := s6 _ _ ed5
    have efa6 : SkAt H6 fa (fullL v) := s6 _ _ efa
    have hM6 := hM5.same s6
    have hs6 := sql_same hs5 s6
    clear hM5 ed5 efa
    refine ⟨_, rfl, a, 2, ns, rfl, by decide, hs6, hl, fun r2 => ⟨_, _, rfl, rfl, show (0 : Int) < 4 by decide, ?_⟩⟩
    have ilm : il ≠ m := by obtain ⟨mdx, ob⟩ := hM6.ob; exact lst_ne_ins eil ob
    -- one more cell is unreadable
    have put : ∀ (H : Hp) (img : List Nat) (j : Nat), MachAt A.c_Machine H m cc dd ff (stripeZ v) (stripeM v) → SkAt H da d → SkAt H fa (fullL v) → H il = some (.lst (vns img)) → Img v d img → j < 4 →
        MachAt A.c_Machine (upd H il (.lst ((vns img).set j (vn (at0 (fullL v) j))))) m cc dd ff (stripeZ v) (stripeM v) ∧ SkAt (upd H il (.lst ((vns img).set j (vn (at0 (fullL v) j))))) da d ∧ SkAt (upd H il (.lst ((vns img).set j (vn (at0 (fullL v) j))))) fa (fullL v) ∧
        (upd H il (.lst ((vns img).set j (vn (at0 (fullL v) j))))) il = some (.lst (vns (img.set j (at0 (fullL v) j)))) ∧ Img v d (img.set j (at0 (fullL v) j)) := fun H img j hM hd' hf' hi hI hj => by
      have t := tk_lst (o := .lst ((vns img).set j (vn (at0 (fullL v) j)))) hi
      refine ⟨hM.keep t (upd_ne (Ne.symm ilm)), t _ _ hd', t _ _ hf', by rw [upd_same, vns_set], by rw [List.length_set]; exact hI.len, fun k hk => ?_⟩
      rw [Raised.at0_set _ _ _ _ (by rw [hI.len]; exact hj)]
      split
      · rename_i e; rw [e]; exact .inr rfl
      · exact hI.at_ k hk
    have hfl : (fullL v).length = 4 := rfl
    refine ⟨fun σ' H' => ∃ (img : List Nat) (y5 y9 : Option V), σ' = [some (.ref a), some (vn v), some (.ref m), some (.ref nl), some (.ref da), y5, y6, some (.ref fa), some (.ref il), y9, none, none, none, none, none, none, none, none, none] ∧
      MachAt A.c_Machine H' m cc dd ff (stripeZ v) (stripeM v) ∧ SkAt H' da d ∧ SkAt H' fa (fullL v) ∧ H' il = some (.lst (vns img)) ∧ Img v d img, ?_, ?_⟩
    · refine ⟨_, rfl, a, 3, ns, rfl, by decide, hs6, hl, fun r3 => ⟨_, _, rfl, rfl, show (0 : Int) < 3 by decide, rfl, _, rfl, ?_⟩⟩
      refine ite2 (fun e => ?_) (fun e => ?_)
      · refine ⟨_, rfl, _, _, rfl, rfl, _, rfl, ?_⟩
        refine ite2 (fun e => ?_) (fun e => ?_)
        · have e := of_decide_eq_true e
          obtain ⟨j, hj, hj3⟩ : ∃ j : Nat, r2 % 4 = (j : Int) ∧ j < 3 := ⟨(r2 % 4).toNat, by omega, by omega⟩
          have hat : atI (vns (fullL v)) (r2 % 4) = some (vn (at0 (fullL v) j)) := by rw [hj]; exact atI_nat (vns_get (of_at0 (by rw [hfl]; omega)))
          obtain ⟨p1, p2, p3, p4, p5⟩ := put H6 img0 j hM6 ed6 efa6 eil hI0 (by omega)
          refine ⟨_, rfl, _, rfl, fa, _, r2 % 4, _, rfl, rfl, efa6.sq, hat, _, rfl, _, rfl, il, _, r2 % 4, j, rfl, rfl, eil, by rw [hj]; exact ixN_nat (by rw [vns_len, hI0.len]; omega), ?_⟩
          exact ⟨_, _, _, rfl, p1, p2, p3, p4, p5⟩
        · exact ⟨img0, _, _, rfl, hM6, ed6, efa6, eil, hI0⟩
      · refine ⟨4, rfl, by decide, by decide, ?_⟩
        refine for_range (lo := 0) (n := 4) (fun k σ H' => ∃ (img : List Nat) (y5 : Option V), σ = [some (.ref a), some (vn v), some (.ref m), some (.ref nl), some (.ref da), y5, y6, some (.ref fa), some (.ref il), some (.int (r2 % 4)), none, none, none, none, none, none, none, none, none] ∧
          Same H5 H' ∧ MachAt A.c_Machine H' m cc dd ff (stripeZ v) (stripeM v) ∧ SkAt H' da d ∧ SkAt H' fa (fullL v) ∧ H' il = some (.lst (vns img)) ∧ Img v d img)
          ⟨img0, y5, rfl, s6, hM6, ed6, efa6, eil, hI0⟩ ?_ ?_
        · rintro k σ H7 hk ⟨img, y5, rfl, hs7, hM7, ed7, efa7, eil7, hI7⟩
          rw [Int.zero_add]
          refine ⟨_, rfl, a, 2, ns, rfl, by decide, sql_same hs5 hs7, hl, fun r4 => ⟨_, rfl, r4, (k : Int), rfl, fun r5 => ⟨_, _, rfl, rfl, show (0 : Int) < 5 by decide, _, _, rfl, rfl, _, rfl, ?_⟩⟩⟩
          refine ite2 (fun e => ?_) (fun e => ?_)
          · obtain ⟨p1, p2, p3, p4, p5⟩ := put H7 img k hM7 ed7 efa7 eil7 hI7 hk
            refine ⟨_, rfl, _, rfl, fa, _, (k : Int), _, rfl, rfl, efa7.sq, atI_nat (vns_get (of_at0 (by rw [hfl]; omega))), _, rfl, _, rfl, il, _, (k : Int), k, rfl, rfl, eil7, ixN_nat (by rw [vns_len, hI7.len]; omega), ?_⟩
            exact ⟨_, _, rfl, same_mut hs7 nil, p1, p2, p3, p4, p5⟩
          · exact ⟨img, _, rfl, hs7, hM7, ed7, efa7, eil7, hI7⟩
        · rintro σ H7 ⟨img, y5, rfl, hs7, hM7, ed7, efa7, eil7, hI7⟩
          exact ⟨img, _, _, rfl, hM7, ed7, efa7, eil7, hI7⟩
    clear put hM6 hs6 ed6 efa6 eil hI0 hs5 s6 nil
    rintro σ' H6 ⟨img, y5, y9, rfl, hM6, ed6, efa6, eil, hI⟩
    refine ⟨_, rfl, v, rfl, h2, h3, fun H7 rl s7 hR => ?_⟩
    obtain ⟨ras, erl, eras⟩ := hR
    rw [F.eq] at eras
    have eil7 := s7 _ _ eil
    refine ⟨rl, rfl, ⟨_, SqL.of erl⟩, fun el nel => ?_⟩
    have hRl : (Rl v).length ≤ 100 := by
      unfold Rl
      split <;> decide
    refine lc_list (K := K) (a := rl) (xs := ras.map V.ref) (fun i H' => Same H7 H' ∧ ∃ es : List Addr, H' el = some (.lst (es.map V.ref)) ∧ All2 (fun a s => SkAt H' a s) es (((Rl v).take i).filter fun o => decide (has img o))) ⟨same_new nel, [], upd_same, All2.nil⟩ (fun i H' _ ⟨sm, _⟩ => SqL.of (sm _ _ erl)) ?_ ?_
    · rintro i x H8 hx ⟨sm, es, eD, hes⟩
      obtain ⟨b, hb, rfl⟩ := map_ref_at hx
      obtain ⟨o, ho, eb⟩ := eras.at' hb
      have hi := (List.getElem?_eq_some_iff.mp ho).1
      have hol := (F.shape o (List.mem_of_getElem? ho)).1
      refine ⟨rfl, ?_⟩
      refine ⟨_, rfl, _, rfl, il, b, img, o, rfl, sm _ _ eil7, sm _ _ eb, by rw [hI.len, hol], fun H9 s9 => ⟨_, rfl, ?_⟩⟩
      rw [List.take_add_one, ho, Option.toList_some, List.filter_append]
      refine ite2 (fun e => ?_) (fun e => ?_)
      · refine ⟨_, rfl, _, s9 _ _ eD, ?_, same_mut (sm.trans s9) nel, es ++ [b], ?_, ?_⟩
        · rw [List.length_map, hes.1]
          exact small_line (Nat.le_trans (List.length_filter_le _ _) (by rw [List.length_take]; omega))
        · rw [upd_same, List.map_append]; rfl
        · have t := tk_lst (o := .lst (es.map V.ref ++ [V.ref b])) (s9 _ _ eD)
          have : List.filter (fun o => decide (has img o)) [o] = [o] := by rw [List.filter_cons, if_pos e]; rfl
          rw [this]
          exact (hes.mono fun x y z => t _ _ (s9 _ _ z)).snoc (t _ _ (s9 _ _ (sm _ _ eb)))
      · have : List.filter (fun o => decide (has img o)) [o] = [] := by rw [List.filter_cons, if_neg e]; rfl
        rw [this, List.append_nil]
        exact ⟨sm.trans s9, es, s9 _ _ eD, hes.mono fun x y z => s9 _ _ z⟩
    rintro H8 ⟨s8, es, eel, hes⟩
    rw [List.take_of_length_le (by rw [List.length_map, eras.1]; exact Nat.le_refl _)] at hes
    have s78 := s7.trans s8
    have hM8 := hM6.same s78
    have ed8 : SkAt H8 da d := s78 _ _ ed6
    have efa8 : SkAt H8 fa (fullL v) := s78 _ _ efa6
    have eil8 := s78 _ _ eil
    clear hM6 ed6 efa6 eil eil7 s7 s8 s78 erl eras nel
    have hes100 : es.length ≤ 100 := by rw [hes.1]; exact Nat.le_trans (List.length_filter_le _ _) hRl
    generalize hEn : (Rl v).filter (fun o => decide (has img o)) = En at hes
    refine ⟨3, rfl, by decide, by decide, ?_⟩
    refine for_range (lo := 0) (n := 3) (fun c σ H' => ∃ y5 y11 y12 y13 y14 y15 y16 : Option V, σ = [some (.ref a), some (vn v), some (.ref m), some (.ref nl), some (.ref da), y5, y6, some (.ref fa), some (.ref il), y9, some (.ref el), y11, y12, y13, y14, y15, y16, none, none] ∧ Same H8 H')
      ⟨y5, none, none, none, none, none, none, rfl, Same.refl _⟩ ?_ ?_
    · rintro c σ H9 hc ⟨y5, y11, y12, y13, y14, y15, y16, rfl, s9⟩
      rw [Int.zero_add]
      refine ⟨_, rfl, (v : Int), rfl, by omega, by omega, ?_⟩
      rw [Int.toNat_natCast]
      refine for_range (lo := 0) (n := v) (fun x σ H' => ∃ y5 y12 y13 y14 y15 y16 : Option V, σ = [some (.ref a), some (vn v), some (.ref m), some (.ref nl), some (.ref da), y5, y6, some (.ref fa), some (.ref il), y9, some (.ref el), some (vn c), y12, y13, y14, y15, y16, none, none] ∧ Same H8 H')
        ⟨y5, y12, y13, y14, y15, y16, rfl, s9⟩ ?_ ?_
      · rintro x σ H10 hx ⟨y5, y12, y13, y14, y15, y16, rfl, s10⟩
        rw [Int.zero_add]
        have ef10 : SkAt H10 fa (fullL v) := s10 _ _ efa8
        have hfl : (fullL v).length = 4 := rfl
        -- the piece
        refine ⟨_, rfl, _, rfl, (c : Int), rfl, fa, vns (fullL v), rfl, ef10, fun p1 H11 s11 ep1 => ?_⟩
        refine ⟨_, rfl, 1, x, rfl, rfl, by omega, by decide, sl1, fun t1 nt1 => ?_⟩
        refine ⟨p1, t1, _, _, rfl, rfl, same_new nt1 _ _ ep1, upd_same, ?_, fun p2 H12 s12 ep2 => ?_⟩
        · rw [cut_to, List.length_take, vns_len, hfl]
          exact Nat.le_of_lt (small_line (by show min c 4 + 1 ≤ 10000; omega))
        have s1012 := s11.trans ((same_new (o := .tup [vn (1 <<< x)]) nt1).trans s12)
        refine ⟨_, rfl, _, rfl, _, _, rfl, rfl, ((c + 1 : Nat) : Int), rfl, fa, vns (fullL v), rfl, s1012 _ _ ef10, fun p3 H13 s13 ep3 => ?_⟩
        have e2p : H12 p2 = some (.tup (vns ((fullL v).take c ++ [1 <<< x]))) := by
          rw [ep2, cut_to]
          unfold vns
          rw [List.map_append, List.map_take]; rfl
        have e3p : H13 p3 = some (.tup (vns ((fullL v).drop (c + 1)))) := by
          rw [ep3, cut_from]
          unfold vns
          rw [List.map_drop]
        refine ⟨p2, p3, _, _, rfl, rfl, s13 _ _ e2p, e3p, ?_, fun p4 H14 s14 ep4 => ⟨sl1, fun pl npl => ?_⟩⟩
        · rw [vns_len, vns_len, List.length_append, List.length_take, List.length_drop, hfl]
          exact Nat.le_of_lt (small_line (by show min c 4 + 1 + (4 - (c + 1)) ≤ 10000; omega))
        have e4p : SkAt H14 p4 (pieceL v c x) := by
          show H14 p4 = _
          rw [ep4, ← vns_app]; rfl
        have s15 : Same H8 (upd H14 pl (.lst [.ref p4])) := s10.trans (s1012.trans (s13.trans (s14.trans (same_new npl))))
        have hpl : SkL (upd H14 pl (.lst [.ref p4])) pl [pieceL v c x] := ⟨[p4], upd_same, All2.cons (same_new npl _ _ e4p) All2.nil⟩
        generalize upd H14 pl (.lst [.ref p4]) = H15 at s15 hpl ⊢
        clear e4p e2p e3p ep1 ep2 ep3 ep4 s1012 s11 s12 s13 s14 npl nt1 ef10 s10
        -- what is due
        have eel15 := s15 _ _ eel
        have hes15 := hes.mono fun a o z => s15 _ _ z
        refine ⟨_, rfl, el, rfl, ⟨_, SqL.of eel15⟩, fun D nD => ?_⟩
        refine lc_list (K := K) (a := el) (xs := es.map V.ref) (fun i H' => Same H15 H' ∧ H' D = some (.lst (List.replicate ((En.take i).filter fun o => !decide (at0 o c = x)).length (V.int 1)))) ⟨same_new nD, upd_same⟩ (fun i H' _ ⟨sm, _⟩ => SqL.of (sm _ _ eel15)) ?_ ?_
        · rintro i y H16 hy ⟨sm, eD⟩
          obtain ⟨b, hb, rfl⟩ := map_ref_at hy
          obtain ⟨o, ho, eb⟩ := hes15.at' hb
          have hi := (List.getElem?_eq_some_iff.mp hb).1
          have hom : o ∈ Rl v := by
            have := List.mem_of_getElem? ho
            rw [← hEn] at this
            exact (List.mem_filter.mp this).1
          have hol := (F.shape o hom).1
          refine ⟨rfl, ?_⟩
          refine ⟨_, rfl, _, rfl, b, _, (c : Int), vn (at0 o c), rfl, rfl, SkAt.sq (s := o) (sm _ _ eb), atI_nat (vns_get (of_at0 (by omega))), _, rfl, rfl, _, rfl, ?_⟩
          rw [List.take_add_one, ho, Option.toList_some, List.filter_append, List.length_append]
          by_cases hox : at0 o c = x
          · refine ifF (neF hox) ⟨sm, ?_⟩
            rw [List.filter_cons, if_neg (by rw [decide_eq_true hox]; exact Bool.false_ne_true)]
            exact eD
          · refine ifT (neT hox) ⟨_, eD, ?_, same_mut sm nD, ?_⟩
            · rw [List.length_replicate]
              exact small_line (Nat.le_trans (List.length_filter_le _ _) (by rw [List.length_take, ← hes.1]; omega))
            · rw [upd_same, List.filter_cons, if_pos (by rw [decide_eq_false hox]; rfl), List.filter_nil, List.length_singleton, List.replicate_succ']
        rintro H16 ⟨s16, eD⟩
        rw [List.take_of_length_le (by rw [List.length_map, hes.1]; exact Nat.le_refl _), ← hEn] at eD
        refine ⟨D, _, rfl, .inl (SqL.of eD), dueB v img c x, rfl, ?_, ?_⟩
        · rw [List.length_replicate]
          exact (vn_eq (n := 0)).trans due_len
        -- what is told
        have s816 := s15.trans s16
        have eil16 := s816 _ _ eil8
        refine ⟨_, rfl, _, rfl, il, _, rfl, .inl ⟨SqL.of eil16, fun tp ntp => ?_⟩⟩
        have s17 := s816.trans (same_new (o := .tup (vns img)) ntp)
        have etp : SkAt (upd H16 tp (.tup (vns img))) tp img := upd_same
        have hpl17 := (hpl.same s16).same (same_new (o := .tup (vns img)) ntp)
        generalize upd H16 tp (.tup (vns img)) = H17 at s17 etp hpl17 ⊢
        have gi : Good (stripeM v) img := img_good h2 h3 hd hI
        have gp : Good (stripeM v) (pieceL v c x) := piece_good h2 h3 hc hx
        refine ⟨_, rfl, m, cc, dd, ff, tp, pl, stripeZ v, stripeM v, img, [pieceL v c x], rfl, hM8.same s17, etp, hpl17, mok h2 h3, gi, fun t ht => by rw [List.mem_singleton] at ht; rw [ht]; exact gp, fun i hi => ?_, fun r hr => ?_, fun H18 t s18 ht => ?_⟩
        · match i, hi with
          | 0, _ => show 1 ≤ 5000; decide
          | 1, _ =>
            show (Raised.withoutS img [pieceL v c x]).length ≤ 5000
            rw [Raised.without_one]
            have := Raised.splitS_len img (pieceL v c x)
            rw [hI.len] at this
            omega
        · rw [Raised.without_one] at hr
          exact Raised.splitS_good gi gp hr
        have htd := told_due h2 h3 hI.len hc ht
        have s818 := s17.trans s18
        have ed18 : SkAt H18 da d := s818 _ _ ed8
        have ef18 : SkAt H18 fa (fullL v) := s818 _ _ efa8
        have eil18 := s818 _ _ eil8
        clear ht s17 etp hpl17 eil16 s816 hes15 eel15 s15 eD s16 hpl
        subst htd
        refine ⟨_, rfl, _, .ty "bool", .type "bool", .type "bool", true, rfl, .ty _, .base (.bl _), rfl, _, rfl, ifF rfl ?_⟩
        refine ⟨_, rfl, _, rfl, rfl, _, rfl, ifF (by rw [decide_eq_true rfl]; rfl) ?_⟩
        -- how many are unknown
        refine ⟨3, rfl, by decide, by decide, fun D nD => ?_⟩
        refine lc_range (lo := 0) (n := 3) (fun i H' => Same H18 H' ∧ H' D = some (.lst (List.replicate ((List.range i).filter fun k => decide (at0 img k = at0 (fullL v) k)).length (V.int 1)))) ⟨same_new nD, upd_same⟩ ?_ ?_
        · rintro i H19 hi ⟨sm, eD⟩
          refine ⟨rfl, ?_⟩
          refine ⟨_, rfl, _, rfl, il, _, 0 + (i : Int), vn (at0 img i), rfl, rfl, SqL.of (sm _ _ eil18), by rw [Int.zero_add]; exact atI_nat (vns_get (of_at0 (by rw [hI.len]; omega))), _, rfl, _, rfl, fa, _, 0 + (i : Int), vn (at0 (fullL v) i), rfl, rfl, SkAt.sq (s := fullL v) (sm _ _ ef18), by rw [Int.zero_add]; exact atI_nat (vns_get (of_at0 (by rw [hfl]; omega))), rfl, _, rfl, ?_⟩
          rw [List.range_succ, List.filter_append, List.length_append]
          by_cases hk : at0 img i = at0 (fullL v) i
          · refine ifT (eqT hk) ⟨_, eD, ?_, same_mut sm nD, ?_⟩
            · rw [List.length_replicate]
              exact small_line (Nat.le_trans (List.length_filter_le _ _) (by rw [List.length_range]; omega))
            · rw [upd_same, List.filter_cons, if_pos (decide_eq_true hk), List.filter_nil, List.length_singleton, List.replicate_succ']
          · refine ifF (eqF hk) ⟨sm, ?_⟩
            rw [List.filter_cons, if_neg (by rw [decide_eq_false hk]; exact Bool.false_ne_true)]
            exact eD
        rintro H19 ⟨s19, eD⟩
        refine ⟨D, _, rfl, .inl (SqL.of eD), ?_⟩
        have hnext : Same H8 H19 := s818.trans s19
        have ed19 : SkAt H19 da d := s19 _ _ ed18
        have eil19 := s19 _ _ eil18
        refine ⟨_, rfl, da, _, 3, _, rfl, rfl, (ix4 (K := K) (j := 3) ed19 hdl (by decide)).1, (ix4 (K := K) (j := 3) ed19 hdl (by decide)).2, rfl, _, rfl, ?_⟩
        by_cases hw : at0 d 3 = 0
        · refine ifT (eqT (n := 0) hw) ?_
          refine ⟨_, rfl, il, _, 3, vn (at0 img 3), rfl, rfl, SqL.of eil19, atI_nat (j := 3) (vns_get (of_at0 (by rw [hI.len]; decide))), rfl, _, rfl, ?_⟩
          by_cases hi1 : at0 img 3 = 1
          · refine ifT (eqT (n := 1) hi1) ?_
            refine ⟨_, rfl, _, _, rfl, rfl, _, rfl, ?_⟩
            refine ite2 (fun e => ?_) (fun e => ⟨_, _, _, _, _, _, rfl, hnext⟩)
            have e := of_decide_eq_true e
            rw [List.length_replicate] at e
            have htw := two_known h2 h3 hd hI hw hi1 (by omega) hc (x := x)
            refine ⟨_, rfl, _, rfl, _, rfl, _, rfl, da, _, (c : Int), vn (at0 d c), rfl, rfl, SkAt.sq (s := d) ed19, atI_nat (vns_get (of_at0 (by omega))), rfl, rfl, _, rfl, ifF ?_ ⟨_, _, _, _, _, _, rfl, hnext⟩⟩
            rw [htw, vn_eq, decide_eq_true rfl]; rfl
          · exact ifF (eqF (n := 1) hi1) ⟨_, _, _, _, _, _, rfl, hnext⟩
        · exact ifF (eqF (n := 0) hw) ⟨_, _, _, _, _, _, rfl, hnext⟩
      · rintro σ H10 ⟨y5, y12, y13, y14, y15, y16, rfl, s10⟩
        exact ⟨_, _, _, _, _, _, _, rfl, s10⟩
    · rintro σ H9 ⟨y5, y11, y12, y13, y14, y15, y16, rfl, s9⟩
      exact q _
end
end Rw
namespace Rw
open PySem L2
set_option maxRecDepth 100000
set_option maxHeartbeats 4000000 in
theorem all_mk {K : PySem.W.Frag} {h : Heap} {mg : Str → Option Value} {fa : Addr} (X : K.In h) (G : h.Ns mainGlobals mg) (hfa : mg "law" = some (.ref fa))
    {f0 f1 f2 f3 f4 f5 f6 f7 f8 f9 f10 f11 f12 f13 f14 f15 f16 f17 f18 f19 f20 f21 f22 f23 f24 f25 f26 f27 f28 f29 f30 f31 f32 f33 f34 f35 f36 f37 f38 f39 C_Machine C_Paper C_Answer C_Search C_StripeForm pfull : Addr}
    {od0 an0 : Option Addr} {sl0 : Array (Option Value)} {oc0 kV0 dc0 pm0 cd0 ct0 : Value}
    {od1 an1 : Option Addr} {sl1 : Array (Option Value)} {oc1 kV1 dc1 pm1 cd1 ct1 : Value}
    {od2 an2 : Option Addr} {sl2 : Array (Option Value)} {oc2 kV2 dc2 pm2 cd2 ct2 : Value}
    {od3 an3 : Option Addr} {sl3 : Array (Option Value)} {oc3 kV3 dc3 pm3 cd3 ct3 : Value}
    {od4 an4 : Option Addr} {sl4 : Array (Option Value)} {oc4 kV4 dc4 pm4 cd4 ct4 : Value}
    {od5 an5 : Option Addr} {sl5 : Array (Option Value)} {oc5 kV5 dc5 pm5 cd5 ct5 : Value}
    {od6 an6 : Option Addr} {sl6 : Array (Option Value)} {oc6 kV6 dc6 pm6 cd6 ct6 : Value}
    {od7 an7 : Option Addr} {sl7 : Array (Option Value)} {oc7 kV7 dc7 pm7 cd7 ct7 : Value}
    {od8 an8 : Option Addr} {sl8 : Array (Option Value)} {oc8 kV8 dc8 pm8 cd8 ct8 : Value}
    {od9 an9 : Option Addr} {sl9 : Array (Option Value)} {oc9 kV9 dc9 pm9 cd9 ct9 : Value}
    {od10 an10 : Option Addr} {sl10 : Array (Option Value)} {oc10 kV10 dc10 pm10 cd10 ct10 : Value}
    {od11 an11 : Option Addr} {sl11 : Array (Option Value)} {oc11 kV11 dc11 pm11 cd11 ct11 : Value}
    {od12 an12 : Option Addr} {sl12 : Array (Option Value)} {oc12 kV12 dc12 pm12 cd12 ct12 : Value}
    {od13 an13 : Option Addr} {sl13 : Array (Option Value)} {oc13 kV13 dc13 pm13 cd13 ct13 : Value}
    {od14 an14 : Option Addr} {sl14 : Array (Option Value)} {oc14 kV14 dc14 pm14 cd14 ct14 : Value}
    {od15 an15 : Option Addr} {sl15 : Array (Option Value)} {oc15 kV15 dc15 pm15 cd15 ct15 : Value}
    {od16 an16 : Option Addr} {sl16 : Array (Option Value)} {oc16 kV16 dc16 pm16 cd16 ct16 : Value}
    {od17 an17 : Option Addr} {sl17 : Array (Option Value)} {oc17 kV17 dc17 pm17 cd17 ct17 : Value}
    {od18 an18 : Option Addr} {sl18 : Array (Option Value)} {oc18 kV18 dc18 pm18 cd18 ct18 : Value}
    {od19 an19 : Option Addr} {sl19 : Array (Option Value)} {oc19 kV19 dc19 pm19 cd19 ct19 : Value}
    {od20 an20 : Option Addr} {sl20 : Array (Option Value)} {oc20 kV20 dc20 pm20 cd20 ct20 : Value}
    {od21 an21 : Option Addr} {sl21 : Array (Option Value)} {oc21 kV21 dc21 pm21 cd21 ct21 : Value}
    {od22 an22 : Option Addr} {sl22 : Array (Option Value)} {oc22 kV22 dc22 pm22 cd22 ct22 : Value}
    {od23 an23 : Option Addr} {sl23 : Array (Option Value)} {oc23 kV23 dc23 pm23 cd23 ct23 : Value}
    {od24 an24 : Option Addr} {sl24 : Array (Option Value)} {oc24 kV24 dc24 pm24 cd24 ct24 : Value}
    {od25 an25 : Option Addr} {sl25 : Array (Option Value)} {oc25 kV25 dc25 pm25 cd25 ct25 : Value}
    {od26 an26 : Option Addr} {sl26 : Array (Option Value)} {oc26 kV26 dc26 pm26 cd26 ct26 : Value}
    {od27 an27 : Option Addr} {sl27 : Array (Option Value)} {oc27 kV27 dc27 pm27 cd27 ct27 : Value}
    {od28 an28 : Option Addr} {sl28 : Array (Option Value)} {oc28 kV28 dc28 pm28 cd28 ct28 : Value}
    {od29 an29 : Option Addr} {sl29 : Array (Option Value)} {oc29 kV29 dc29 pm29 cd29 ct29 : Value}
    {od30 an30 : Option Addr} {sl30 : Array (Option Value)} {oc30 kV30 dc30 pm30 cd30 ct30 : Value}
    {od31 an31 : Option Addr} {sl31 : Array (Option Value)} {oc31 kV31 dc31 pm31 cd31 ct31 : Value}
    {od32 an32 : Option Addr} {sl32 : Array (Option Value)} {oc32 kV32 dc32 pm32 cd32 ct32 : Value}
    {od33 an33 : Option Addr} {sl33 : Array (Option Value)} {oc33 kV33 dc33 pm33 cd33 ct33 : Value}
    {od34 an34 : Option Addr} {sl34 : Array (Option Value)} {oc34 kV34 dc34 pm34 cd34 ct34 : Value}
    {od35 an35 : Option Addr} {sl35 : Array (Option Value)} {oc35 kV35 dc35 pm35 cd35 ct35 : Value}
    {od36 an36 : Option Addr} {sl36 : Array (Option Value)} {oc36 kV36 dc36 pm36 cd36 ct36 : Value}
    {od37 an37 : Option Addr} {sl37 : Array (Option Value)} {oc37 kV37 dc37 pm37 cd37 ct37 : Value}
    {od38 an38 : Option Addr} {sl38 : Array (Option Value)} {oc38 kV38 dc38 pm38 cd38 ct38 : Value}
    {od39 an39 : Option Addr} {sl39 : Array (Option Value)} {oc39 kV39 dc39 pm39 cd39 ct39 : Value}
    {rfull : List Value} {tkMOST_CELLS tkMOST_VALUES tkMOST_DEEDS tkLONGEST_NAME tkPARITY tkWORK tkNO_WORK tkSOME_WORK tkLOWER tkDIGITS : Tok}
    (nsMachine : PySem.W.nsIn K mainGlobals "Machine" = some (some (.ref C_Machine)))
    (nsPaper : PySem.W.nsIn K mainGlobals "Paper" = some (some (.ref C_Paper)))
    (nsAnswer : PySem.W.nsIn K mainGlobals "Answer" = some (some (.ref C_Answer)))
    (nsSearch : PySem.W.nsIn K mainGlobals "Search" = some (some (.ref C_Search)))
    (nsStripeForm : PySem.W.nsIn K mainGlobals "StripeForm" = some (some (.ref C_StripeForm)))
    (a0 : PySem.W.nsIn K mainGlobals "is_name" = some (some (.ref f0)))
    (l0 : K.lookup f0 = some ⟨oc0, od0, .func (PySem.W.fnOf "is_name" "is_name" (defArgs s_is_name) (defBody s_is_name) (defScope s_is_name) .none kV0 dc0 pm0 an0 cd0 ct0), sl0⟩)
    (c0 : PySem.W.codeIn K cd0 "is_name" = true)
    (k0 : PySem.W.keepIn K (.ref f0) = true)
    (a1 : PySem.W.nsIn K mainGlobals "_check_names" = some (some (.ref f1)))
    (l1 : K.lookup f1 = some ⟨oc1, od1, .func (PySem.W.fnOf "_check_names" "_check_names" (defArgs s_check_names) (defBody s_check_names) (defScope s_check_names) .none kV1 dc1 pm1 an1 cd1 ct1), sl1⟩)
    (c1 : PySem.W.codeIn K cd1 "_check_names" = true)
    (k1 : PySem.W.keepIn K (.ref f1) = true)
    (a2 : PySem.W.nsIn K mainGlobals "is_mask" = some (some (.ref f2)))
    (l2 : K.lookup f2 = some ⟨oc2, od2, .func (PySem.W.fnOf "is_mask" "is_mask" (defArgs s_is_mask) (defBody s_is_mask) (defScope s_is_mask) .none kV2 dc2 pm2 an2 cd2 ct2), sl2⟩)
    (c2 : PySem.W.codeIn K cd2 "is_mask" = true)
    (k2 : PySem.W.keepIn K (.ref f2) = true)
    (a3 : PySem.W.nsIn K mainGlobals "_check_order" = some (some (.ref f3)))
    (l3 : K.lookup f3 = some ⟨oc3, od3, .func (PySem.W.fnOf "_check_order" "_check_order" (defArgs s_check_order) (defBody s_check_order) (defScope s_check_order) .none kV3 dc3 pm3 an3 cd3 ct3), sl3⟩)
    (c3 : PySem.W.codeIn K cd3 "_check_order" = true)
    (k3 : PySem.W.keepIn K (.ref f3) = true)
    (a4 : PySem.W.findIn K (.ref C_Machine) "__init__" = some (some (.ref f4)))
    (i4 : PySem.W.isFn K (.ref f4) = true)
    (l4 : K.lookup f4 = some ⟨oc4, od4, .func (PySem.W.fnOf "__init__" "Machine.__init__" (defArgs s_Machine_init) (defBody s_Machine_init) (defScope s_Machine_init) .none kV4 dc4 pm4 an4 cd4 ct4), sl4⟩)
    (c4 : PySem.W.codeIn K cd4 "Machine.__init__" = true)
    (k4 : PySem.W.keepIn K (.ref f4) = true)
    (a5 : PySem.W.findIn K (.ref C_Machine) "_check_deed" = some (some (.ref f5)))
    (i5 : PySem.W.isFn K (.ref f5) = true)
    (l5 : K.lookup f5 = some ⟨oc5, od5, .func (PySem.W.fnOf "_check_deed" "Machine._check_deed" (defArgs s_Machine_check_deed) (defBody s_Machine_check_deed) (defScope s_Machine_check_deed) .none kV5 dc5 pm5 an5 cd5 ct5), sl5⟩)
    (c5 : PySem.W.codeIn K cd5 "Machine._check_deed" = true)
    (k5 : PySem.W.keepIn K (.ref f5) = true)
    (a6 : PySem.W.findIn K (.ref C_Machine) "full" = some (some (.ref pfull)))
    (a6g : PySem.W.specialIn K (.ref pfull) "__get__" = some (some (.builtin "property.__get__")))
    (a6t : PySem.W.takesIn K (.ref pfull) = some true)
    (a6r : PySem.W.recIn K pfull "property" = some (.ref f6 :: rfull))
    (l6 : K.lookup f6 = some ⟨oc6, od6, .func (PySem.W.fnOf "full" "Machine.full" (defArgs s_Machine_full) (defBody s_Machine_full) (defScope s_Machine_full) .none kV6 dc6 pm6 an6 cd6 ct6), sl6⟩)
    (c6 : PySem.W.codeIn K cd6 "Machine.full" = true)
    (k6 : PySem.W.keepIn K (.ref f6) = true)
    (a7 : PySem.W.nsIn K mainGlobals "check_sketch" = some (some (.ref f7)))
    (l7 : K.lookup f7 = some ⟨oc7, od7, .func (PySem.W.fnOf "check_sketch" "check_sketch" (defArgs s_check_sketch) (defBody s_check_sketch) (defScope s_check_sketch) .none kV7 dc7 pm7 an7 cd7 ct7), sl7⟩)
    (c7 : PySem.W.codeIn K cd7 "check_sketch" = true)
    (k7 : PySem.W.keepIn K (.ref f7) = true)
    (a8 : PySem.W.nsIn K mainGlobals "sketch_before" = some (some (.ref f8)))
    (l8 : K.lookup f8 = some ⟨oc8, od8, .func (PySem.W.fnOf "sketch_before" "sketch_before" (defArgs s_sketch_before) (defBody s_sketch_before) (defScope s_sketch_before) .none kV8 dc8 pm8 an8 cd8 ct8), sl8⟩)
    (c8 : PySem.W.codeIn K cd8 "sketch_before" = true)
    (k8 : PySem.W.keepIn K (.ref f8) = true)
    (a9 : PySem.W.nsIn K mainGlobals "meet" = some (some (.ref f9)))
    (l9 : K.lookup f9 = some ⟨oc9, od9, .func (PySem.W.fnOf "meet" "meet" (defArgs s_meet) (defBody s_meet) (defScope s_meet) .none kV9 dc9 pm9 an9 cd9 ct9), sl9⟩)
    (c9 : PySem.W.codeIn K cd9 "meet" = true)
    (k9 : PySem.W.keepIn K (.ref f9) = true)
    (a10 : PySem.W.nsIn K mainGlobals "_split" = some (some (.ref f10)))
    (l10 : K.lookup f10 = some ⟨oc10, od10, .func (PySem.W.fnOf "_split" "_split" (defArgs s_split) (defBody s_split) (defScope s_split) .none kV10 dc10 pm10 an10 cd10 ct10), sl10⟩)
    (c10 : PySem.W.codeIn K cd10 "_split" = true)
    (k10 : PySem.W.keepIn K (.ref f10) = true)
    (a11 : PySem.W.nsIn K mainGlobals "without" = some (some (.ref f11)))
    (l11 : K.lookup f11 = some ⟨oc11, od11, .func (PySem.W.fnOf "without" "without" (defArgs s_without) (defBody s_without) (defScope s_without) .none kV11 dc11 pm11 an11 cd11 ct11), sl11⟩)
    (c11 : PySem.W.codeIn K cd11 "without" = true)
    (k11 : PySem.W.keepIn K (.ref f11) = true)
    (a12 : PySem.W.nsIn K mainGlobals "values_of" = some (some (.ref f12)))
    (l12 : K.lookup f12 = some ⟨oc12, od12, .func (PySem.W.fnOf "values_of" "values_of" (defArgs s_values_of) (defBody s_values_of) (defScope s_values_of) .none kV12 dc12 pm12 an12 cd12 ct12), sl12⟩)
    (c12 : PySem.W.codeIn K cd12 "values_of" = true)
    (k12 : PySem.W.keepIn K (.ref f12) = true)
    (a13 : PySem.W.nsIn K mainGlobals "least_disk" = some (some (.ref f13)))
    (l13 : K.lookup f13 = some ⟨oc13, od13, .func (PySem.W.fnOf "least_disk" "least_disk" (defArgs s_least_disk) (defBody s_least_disk) (defScope s_least_disk) .none kV13 dc13 pm13 an13 cd13 ct13), sl13⟩)
    (c13 : PySem.W.codeIn K cd13 "least_disk" = true)
    (k13 : PySem.W.keepIn K (.ref f13) = true)
    (a14 : PySem.W.findIn K (.ref C_Paper) "__init__" = some (some (.ref f14)))
    (i14 : PySem.W.isFn K (.ref f14) = true)
    (l14 : K.lookup f14 = some ⟨oc14, od14, .func (PySem.W.fnOf "__init__" "Paper.__init__" (defArgs s_Paper_init) (defBody s_Paper_init) (defScope s_Paper_init) .none kV14 dc14 pm14 an14 cd14 ct14), sl14⟩)
    (c14 : PySem.W.codeIn K cd14 "Paper.__init__" = true)
    (k14 : PySem.W.keepIn K (.ref f14) = true)
    (a15 : PySem.W.findIn K (.ref C_Answer) "__init__" = some (some (.ref f15)))
    (i15 : PySem.W.isFn K (.ref f15) = true)
    (l15 : K.lookup f15 = some ⟨oc15, od15, .func (PySem.W.fnOf "__init__" "Answer.__init__" (defArgs s_Answer_init) (defBody s_Answer_init) (defScope s_Answer_init) .none kV15 dc15 pm15 an15 cd15 ct15), sl15⟩)
    (c15 : PySem.W.codeIn K cd15 "Answer.__init__" = true)
    (k15 : PySem.W.keepIn K (.ref f15) = true)
    (a16 : PySem.W.nsIn K mainGlobals "check_question" = some (some (.ref f16)))
    (l16 : K.lookup f16 = some ⟨oc16, od16, .func (PySem.W.fnOf "check_question" "check_question" (defArgs s_check_question) (defBody s_check_question) (defScope s_check_question) .none kV16 dc16 pm16 an16 cd16 ct16), sl16⟩)
    (c16 : PySem.W.codeIn K cd16 "check_question" = true)
    (k16 : PySem.W.keepIn K (.ref f16) = true)
    (a17 : PySem.W.nsIn K mainGlobals "packed_sketch" = some (some (.ref f17)))
    (l17 : K.lookup f17 = some ⟨oc17, od17, .func (PySem.W.fnOf "packed_sketch" "packed_sketch" (defArgs s_packed_sketch) (defBody s_packed_sketch) (defScope s_packed_sketch) .none kV17 dc17 pm17 an17 cd17 ct17), sl17⟩)
    (c17 : PySem.W.codeIn K cd17 "packed_sketch" = true)
    (k17 : PySem.W.keepIn K (.ref f17) = true)
    (a18 : PySem.W.findIn K (.ref C_Search) "__init__" = some (some (.ref f18)))
    (i18 : PySem.W.isFn K (.ref f18) = true)
    (l18 : K.lookup f18 = some ⟨oc18, od18, .func (PySem.W.fnOf "__init__" "Search.__init__" (defArgs s_Search_init) (defBody s_Search_init) (defScope s_Search_init) .none kV18 dc18 pm18 an18 cd18 ct18), sl18⟩)
    (c18 : PySem.W.codeIn K cd18 "Search.__init__" = true)
    (k18 : PySem.W.keepIn K (.ref f18) = true)
    (a19 : PySem.W.findIn K (.ref C_Search) "place" = some (some (.ref f19)))
    (i19 : PySem.W.isFn K (.ref f19) = true)
    (l19 : K.lookup f19 = some ⟨oc19, od19, .func (PySem.W.fnOf "place" "Search.place" (defArgs s_Search_place) (defBody s_Search_place) (defScope s_Search_place) .none kV19 dc19 pm19 an19 cd19 ct19), sl19⟩)
    (c19 : PySem.W.codeIn K cd19 "Search.place" = true)
    (k19 : PySem.W.keepIn K (.ref f19) = true)
    (a20 : PySem.W.findIn K (.ref C_Search) "places" = some (some (.ref f20)))
    (i20 : PySem.W.isFn K (.ref f20) = true)
    (l20 : K.lookup f20 = some ⟨oc20, od20, .func (PySem.W.fnOf "places" "Search.places" (defArgs s_Search_places) (defBody s_Search_places) (defScope s_Search_places) .none kV20 dc20 pm20 an20 cd20 ct20), sl20⟩)
    (c20 : PySem.W.codeIn K cd20 "Search.places" = true)
    (k20 : PySem.W.keepIn K (.ref f20) = true)
    (a21 : PySem.W.findIn K (.ref C_Search) "row" = some (some (.ref f21)))
    (i21 : PySem.W.isFn K (.ref f21) = true)
    (l21 : K.lookup f21 = some ⟨oc21, od21, .func (PySem.W.fnOf "row" "Search.row" (defArgs s_Search_row) (defBody s_Search_row) (defScope s_Search_row) .none kV21 dc21 pm21 an21 cd21 ct21), sl21⟩)
    (c21 : PySem.W.codeIn K cd21 "Search.row" = true)
    (k21 : PySem.W.keepIn K (.ref f21) = true)
    (a22 : PySem.W.findIn K (.ref C_Search) "history" = some (some (.ref f22)))
    (i22 : PySem.W.isFn K (.ref f22) = true)
    (l22 : K.lookup f22 = some ⟨oc22, od22, .func (PySem.W.fnOf "history" "Search.history" (defArgs s_Search_history) (defBody s_Search_history) (defScope s_Search_history) .none kV22 dc22 pm22 an22 cd22 ct22), sl22⟩)
    (c22 : PySem.W.codeIn K cd22 "Search.history" = true)
    (k22 : PySem.W.keepIn K (.ref f22) = true)
    (a23 : PySem.W.nsIn K mainGlobals "tell" = some (some (.ref f23)))
    (l23 : K.lookup f23 = some ⟨oc23, od23, .func (PySem.W.fnOf "tell" "tell" (defArgs s_tell) (defBody s_tell) (defScope s_tell) .none kV23 dc23 pm23 an23 cd23 ct23), sl23⟩)
    (c23 : PySem.W.codeIn K cd23 "tell" = true)
    (k23 : PySem.W.keepIn K (.ref f23) = true)
    (a24 : PySem.W.nsIn K mainGlobals "told_at_end" = some (some (.ref f24)))
    (l24 : K.lookup f24 = some ⟨oc24, od24, .func (PySem.W.fnOf "told_at_end" "told_at_end" (defArgs s_told_at_end) (defBody s_told_at_end) (defScope s_told_at_end) .none kV24 dc24 pm24 an24 cd24 ct24), sl24⟩)
    (c24 : PySem.W.codeIn K cd24 "told_at_end" = true)
    (k24 : PySem.W.keepIn K (.ref f24) = true)
    (a25 : PySem.W.nsIn K mainGlobals "check_range" = some (some (.ref f25)))
    (l25 : K.lookup f25 = some ⟨oc25, od25, .func (PySem.W.fnOf "check_range" "check_range" (defArgs s_check_range) (defBody s_check_range) (defScope s_check_range) .none kV25 dc25 pm25 an25 cd25 ct25), sl25⟩)
    (c25 : PySem.W.codeIn K cd25 "check_range" = true)
    (k25 : PySem.W.keepIn K (.ref f25) = true)
    (a26 : PySem.W.nsIn K mainGlobals "one" = some (some (.ref f26)))
    (l26 : K.lookup f26 = some ⟨oc26, od26, .func (PySem.W.fnOf "one" "one" (defArgs s_one) (defBody s_one) (defScope s_one) .none kV26 dc26 pm26 an26 cd26 ct26), sl26⟩)
    (c26 : PySem.W.codeIn K cd26 "one" = true)
    (k26 : PySem.W.keepIn K (.ref f26) = true)
    (a27 : PySem.W.nsIn K mainGlobals "set_to" = some (some (.ref f27)))
    (l27 : K.lookup f27 = some ⟨oc27, od27, .func (PySem.W.fnOf "set_to" "set_to" (defArgs s_set_to) (defBody s_set_to) (defScope s_set_to) .none kV27 dc27 pm27 an27 cd27 ct27), sl27⟩)
    (c27 : PySem.W.codeIn K cd27 "set_to" = true)
    (k27 : PySem.W.keepIn K (.ref f27) = true)
    (a28 : PySem.W.findIn K (.ref C_StripeForm) "__init__" = some (some (.ref f28)))
    (i28 : PySem.W.isFn K (.ref f28) = true)
    (l28 : K.lookup f28 = some ⟨oc28, od28, .func (PySem.W.fnOf "__init__" "StripeForm.__init__" (defArgs s_StripeForm_init) (defBody s_StripeForm_init) (defScope s_StripeForm_init) .none kV28 dc28 pm28 an28 cd28 ct28), sl28⟩)
    (c28 : PySem.W.codeIn K cd28 "StripeForm.__init__" = true)
    (k28 : PySem.W.keepIn K (.ref f28) = true)
    (a29 : PySem.W.nsIn K mainGlobals "_begin_deeds" = some (some (.ref f29)))
    (l29 : K.lookup f29 = some ⟨oc29, od29, .func (PySem.W.fnOf "_begin_deeds" "_begin_deeds" (defArgs s_begin_deeds) (defBody s_begin_deeds) (defScope s_begin_deeds) .none kV29 dc29 pm29 an29 cd29 ct29), sl29⟩)
    (c29 : PySem.W.codeIn K cd29 "_begin_deeds" = true)
    (k29 : PySem.W.keepIn K (.ref f29) = true)
    (a30 : PySem.W.nsIn K mainGlobals "_end_deeds" = some (some (.ref f30)))
    (l30 : K.lookup f30 = some ⟨oc30, od30, .func (PySem.W.fnOf "_end_deeds" "_end_deeds" (defArgs s_end_deeds) (defBody s_end_deeds) (defScope s_end_deeds) .none kV30 dc30 pm30 an30 cd30 ct30), sl30⟩)
    (c30 : PySem.W.codeIn K cd30 "_end_deeds" = true)
    (k30 : PySem.W.keepIn K (.ref f30) = true)
    (a31 : PySem.W.nsIn K mainGlobals "_rebuild_deeds" = some (some (.ref f31)))
    (l31 : K.lookup f31 = some ⟨oc31, od31, .func (PySem.W.fnOf "_rebuild_deeds" "_rebuild_deeds" (defArgs s_rebuild_deeds) (defBody s_rebuild_deeds) (defScope s_rebuild_deeds) .none kV31 dc31 pm31 an31 cd31 ct31), sl31⟩)
    (c31 : PySem.W.codeIn K cd31 "_rebuild_deeds" = true)
    (k31 : PySem.W.keepIn K (.ref f31) = true)
    (a32 : PySem.W.nsIn K mainGlobals "stripe_machine" = some (some (.ref f32)))
    (l32 : K.lookup f32 = some ⟨oc32, od32, .func (PySem.W.fnOf "stripe_machine" "stripe_machine" (defArgs s_stripe_machine) (defBody s_stripe_machine) (defScope s_stripe_machine) .none kV32 dc32 pm32 an32 cd32 ct32), sl32⟩)
    (c32 : PySem.W.codeIn K cd32 "stripe_machine" = true)
    (k32 : PySem.W.keepIn K (.ref f32) = true)
    (a33 : PySem.W.nsIn K mainGlobals "_law_cell" = some (some (.ref f33)))
    (l33 : K.lookup f33 = some ⟨oc33, od33, .func (PySem.W.fnOf "_law_cell" "_law_cell" (defArgs s_law_cell) (defBody s_law_cell) (defScope s_law_cell) .none kV33 dc33 pm33 an33 cd33 ct33), sl33⟩)
    (c33 : PySem.W.codeIn K cd33 "_law_cell" = true)
    (k33 : PySem.W.keepIn K (.ref f33) = true)
    (a34 : PySem.W.nsIn K mainGlobals "_law_mix" = some (some (.ref f34)))
    (l34 : K.lookup f34 = some ⟨oc34, od34, .func (PySem.W.fnOf "_law_mix" "_law_mix" (defArgs s_law_mix) (defBody s_law_mix) (defScope s_law_mix) .none kV34 dc34 pm34 an34 cd34 ct34), sl34⟩)
    (c34 : PySem.W.codeIn K cd34 "_law_mix" = true)
    (k34 : PySem.W.keepIn K (.ref f34) = true)
    (a35 : PySem.W.nsIn K mainGlobals "_law_stripe" = some (some (.ref f35)))
    (l35 : K.lookup f35 = some ⟨oc35, od35, .func (PySem.W.fnOf "_law_stripe" "_law_stripe" (defArgs s_law_stripe) (defBody s_law_stripe) (defScope s_law_stripe) .none kV35 dc35 pm35 an35 cd35 ct35), sl35⟩)
    (c35 : PySem.W.codeIn K cd35 "_law_stripe" = true)
    (k35 : PySem.W.keepIn K (.ref f35) = true)
    (a36 : PySem.W.nsIn K mainGlobals "_law_names" = some (some (.ref f36)))
    (l36 : K.lookup f36 = some ⟨oc36, od36, .func (PySem.W.fnOf "_law_names" "_law_names" (defArgs s_law_names) (defBody s_law_names) (defScope s_law_names) .none kV36 dc36 pm36 an36 cd36 ct36), sl36⟩)
    (c36 : PySem.W.codeIn K cd36 "_law_names" = true)
    (k36 : PySem.W.keepIn K (.ref f36) = true)
    (a37 : PySem.W.nsIn K mainGlobals "_law_reached" = some (some (.ref f37)))
    (l37 : K.lookup f37 = some ⟨oc37, od37, .func (PySem.W.fnOf "_law_reached" "_law_reached" (defArgs s_law_reached) (defBody s_law_reached) (defScope s_law_reached) .none kV37 dc37 pm37 an37 cd37 ct37), sl37⟩)
    (c37 : PySem.W.codeIn K cd37 "_law_reached" = true)
    (k37 : PySem.W.keepIn K (.ref f37) = true)
    (a38 : PySem.W.nsIn K mainGlobals "_law_fits" = some (some (.ref f38)))
    (l38 : K.lookup f38 = some ⟨oc38, od38, .func (PySem.W.fnOf "_law_fits" "_law_fits" (defArgs s_law_fits) (defBody s_law_fits) (defScope s_law_fits) .none kV38 dc38 pm38 an38 cd38 ct38), sl38⟩)
    (c38 : PySem.W.codeIn K cd38 "_law_fits" = true)
    (k38 : PySem.W.keepIn K (.ref f38) = true)
    (a39 : PySem.W.nsIn K mainGlobals "law" = some (some (.ref f39)))
    (l39 : K.lookup f39 = some ⟨oc39, od39, .func (PySem.W.fnOf "law" "law" (defArgs s_law) (defBody s_law) (defScope s_law) .none kV39 dc39 pm39 an39 cd39 ct39), sl39⟩)
    (c39 : PySem.W.codeIn K cd39 "law" = true)
    (k39 : PySem.W.keepIn K (.ref f39) = true)
    (pgMachine : PySem.W.plainGet K C_Machine Str.empty = true)
    (hdMachine : PySem.W.hasDictIn K C_Machine = true)
    (poMachine : PySem.W.plainOver K C_Machine = true)
    (saMachine : PySem.W.findIn K (.ref C_Machine) "__setattr__" = some (some (.builtin "object.__setattr__")))
    (mkMachine : PySem.W.makesIn K C_Machine = true)
    (kcMachine : PySem.W.keepIn K (.ref C_Machine) = true)
    (n_Machine_cells : PySem.W.findIn K (.ref C_Machine) "cells" = some none)
    (n_Machine_deeds : PySem.W.findIn K (.ref C_Machine) "deeds" = some none)
    (n_Machine_first : PySem.W.findIn K (.ref C_Machine) "first" = some none)
    (pgPaper : PySem.W.plainGet K C_Paper Str.empty = true)
    (hdPaper : PySem.W.hasDictIn K C_Paper = true)
    (poPaper : PySem.W.plainOver K C_Paper = true)
    (saPaper : PySem.W.findIn K (.ref C_Paper) "__setattr__" = some (some (.builtin "object.__setattr__")))
    (mkPaper : PySem.W.makesIn K C_Paper = true)
    (kcPaper : PySem.W.keepIn K (.ref C_Paper) = true)
    (n_Paper_sketches : PySem.W.findIn K (.ref C_Paper) "sketches" = some none)
    (n_Paper_cover : PySem.W.findIn K (.ref C_Paper) "cover" = some none)
    (n_Paper_table : PySem.W.findIn K (.ref C_Paper) "table" = some none)
    (pgAnswer : PySem.W.plainGet K C_Answer Str.empty = true)
    (hdAnswer : PySem.W.hasDictIn K C_Answer = true)
    (poAnswer : PySem.W.plainOver K C_Answer = true)
    (saAnswer : PySem.W.findIn K (.ref C_Answer) "__setattr__" = some (some (.builtin "object.__setattr__")))
    (mkAnswer : PySem.W.makesIn K C_Answer = true)
    (kcAnswer : PySem.W.keepIn K (.ref C_Answer) = true)
    (n_Answer_told : PySem.W.findIn K (.ref C_Answer) "told" = some none)
    (n_Answer_paper : PySem.W.findIn K (.ref C_Answer) "paper" = some none)
    (n_Answer_disk : PySem.W.findIn K (.ref C_Answer) "disk" = some none)
    (n_Answer_deeds : PySem.W.findIn K (.ref C_Answer) "deeds" = some none)
    (pgSearch : PySem.W.plainGet K C_Search Str.empty = true)
    (hdSearch : PySem.W.hasDictIn K C_Search = true)
    (poSearch : PySem.W.plainOver K C_Search = true)
    (saSearch : PySem.W.findIn K (.ref C_Search) "__setattr__" = some (some (.builtin "object.__setattr__")))
    (mkSearch : PySem.W.makesIn K C_Search = true)
    (kcSearch : PySem.W.keepIn K (.ref C_Search) = true)
    (n_Search__machine : PySem.W.findIn K (.ref C_Search) "_machine" = some none)
    (n_Search__piece : PySem.W.findIn K (.ref C_Search) "_piece" = some none)
    (n_Search__packed : PySem.W.findIn K (.ref C_Search) "_packed" = some none)
    (n_Search_sketches : PySem.W.findIn K (.ref C_Search) "sketches" = some none)
    (n_Search_origins : PySem.W.findIn K (.ref C_Search) "origins" = some none)
    (n_Search_found : PySem.W.findIn K (.ref C_Search) "found" = some none)
    (pgStripeForm : PySem.W.plainGet K C_StripeForm Str.empty = true)
    (hdStripeForm : PySem.W.hasDictIn K C_StripeForm = true)
    (poStripeForm : PySem.W.plainOver K C_StripeForm = true)
    (saStripeForm : PySem.W.findIn K (.ref C_StripeForm) "__setattr__" = some (some (.builtin "object.__setattr__")))
    (mkStripeForm : PySem.W.makesIn K C_StripeForm = true)
    (kcStripeForm : PySem.W.keepIn K (.ref C_StripeForm) = true)
    (n_StripeForm_alphabet : PySem.W.findIn K (.ref C_StripeForm) "alphabet" = some none)
    (i_MOST_CELLS : PySem.W.nsIn K mainGlobals "MOST_CELLS" = some (some (.int 24 tkMOST_CELLS)))
    (i_MOST_VALUES : PySem.W.nsIn K mainGlobals "MOST_VALUES" = some (some (.int 16 tkMOST_VALUES)))
    (i_MOST_DEEDS : PySem.W.nsIn K mainGlobals "MOST_DEEDS" = some (some (.int 400 tkMOST_DEEDS)))
    (i_LONGEST_NAME : PySem.W.nsIn K mainGlobals "LONGEST_NAME" = some (some (.int 12 tkLONGEST_NAME)))
    (i_PARITY : PySem.W.nsIn K mainGlobals "PARITY" = some (some (.int 2 tkPARITY)))
    (i_WORK : PySem.W.nsIn K mainGlobals "WORK" = some (some (.int 3 tkWORK)))
    (i_NO_WORK : PySem.W.nsIn K mainGlobals "NO_WORK" = some (some (.int 0 tkNO_WORK)))
    (i_SOME_WORK : PySem.W.nsIn K mainGlobals "SOME_WORK" = some (some (.int 6 tkSOME_WORK)))
    (i_LOWER : PySem.W.nsIn K mainGlobals "LOWER" = some (some (.str "abcdefghijklmnopqrstuvwxyz" tkLOWER)))
    (i_DIGITS : PySem.W.nsIn K mainGlobals "DIGITS" = some (some (.str "0123456789" tkDIGITS)))
    (z_len : PySem.W.nsIn K mainGlobals "len" = some none)
    (z_all : PySem.W.nsIn K mainGlobals "all" = some none)
    (z_set : PySem.W.nsIn K mainGlobals "set" = some none)
    (z_tuple : PySem.W.nsIn K mainGlobals "tuple" = some none)
    (z_list : PySem.W.nsIn K mainGlobals "list" = some none)
    (z_zip : PySem.W.nsIn K mainGlobals "zip" = some none)
    (z_range : PySem.W.nsIn K mainGlobals "range" = some none)
    (z_enumerate : PySem.W.nsIn K mainGlobals "enumerate" = some none)
    (z_int : PySem.W.nsIn K mainGlobals "int" = some none)
    (z_str : PySem.W.nsIn K mainGlobals "str" = some none)
    (z_isinstance : PySem.W.nsIn K mainGlobals "isinstance" = some none)
    (z_bool : PySem.W.nsIn K mainGlobals "bool" = some none)
    : ∃ A : Ad, A.a_law = fa ∧ Txt K mg A ∧ ∀ (s : Shared) (v : Value), BindsTo s A.d_law ⟨[v], []⟩ [("_law_script", v)] := by
  have e := hfa.symm.trans (PySem.W.mg_of X G a39)
  cases e
  have F0 := fun_mk (st := s_is_name) l0 c0 k0
  have b0 := F0.binds (ps := ["text"]) fun _ _ _ _ _ _ us hl => match us, hl with | [_], _ => rfl
  have F1 := fun_mk (st := s_check_names) l1 c1 k1
  have b1 := F1.binds (ps := ["names"]) fun _ _ _ _ _ _ us hl => match us, hl with | [_], _ => rfl
  have F2 := fun_mk (st := s_is_mask) l2 c2 k2
  have b2 := F2.binds (ps := ["mask", "size"]) fun _ _ _ _ _ _ us hl => match us, hl with | [_, _], _ => rfl
  have F3 := fun_mk (st := s_check_order) l3 c3 k3
  have b3 := F3.binds (ps := ["pairs", "count"]) fun _ _ _ _ _ _ us hl => match us, hl with | [_, _], _ => rfl
  have F4 := fun_mk (st := s_Machine_init) l4 c4 k4
  have b4 := F4.binds (ps := ["self", "cells", "deeds", "first"]) fun _ _ _ _ _ _ us hl => match us, hl with | [_, _, _, _], _ => rfl
  have F5 := fun_mk (st := s_Machine_check_deed) l5 c5 k5
  have b5 := F5.binds (ps := ["self", "sizes", "guard", "changes"]) fun _ _ _ _ _ _ us hl => match us, hl with | [_, _, _, _], _ => rfl
  have F6 := fun_mk (st := s_Machine_full) l6 c6 k6
  have b6 := F6.binds (ps := ["self"]) fun _ _ _ _ _ _ us hl => match us, hl with | [_], _ => rfl
  have F7 := fun_mk (st := s_check_sketch) l7 c7 k7
  have b7 := F7.binds (ps := ["machine", "sketch"]) fun _ _ _ _ _ _ us hl => match us, hl with | [_, _], _ => rfl
  have F8 := fun_mk (st := s_sketch_before) l8 c8 k8
  have b8 := F8.binds (ps := ["machine", "sketch", "deed"]) fun _ _ _ _ _ _ us hl => match us, hl with | [_, _, _], _ => rfl
  have F9 := fun_mk (st := s_meet) l9 c9 k9
  have b9 := F9.binds (ps := ["a", "b"]) fun _ _ _ _ _ _ us hl => match us, hl with | [_, _], _ => rfl
  have F10 := fun_mk (st := s_split) l10 c10 k10
  have b10 := F10.binds (ps := ["a", "b"]) fun _ _ _ _ _ _ us hl => match us, hl with | [_, _], _ => rfl
  have F11 := fun_mk (st := s_without) l11 c11 k11
  have b11 := F11.binds (ps := ["a", "piece"]) fun _ _ _ _ _ _ us hl => match us, hl with | [_, _], _ => rfl
  have F12 := fun_mk (st := s_values_of) l12 c12 k12
  have b12 := F12.binds (ps := ["mask"]) fun _ _ _ _ _ _ us hl => match us, hl with | [_], _ => rfl
  have F13 := fun_mk (st := s_least_disk) l13 c13 k13
  have b13 := F13.binds (ps := ["sketch"]) fun _ _ _ _ _ _ us hl => match us, hl with | [_], _ => rfl
  have F14 := fun_mk (st := s_Paper_init) l14 c14 k14
  have b14 := F14.binds (ps := ["self", "sketches", "cover", "table"]) fun _ _ _ _ _ _ us hl => match us, hl with | [_, _, _, _], _ => rfl
  have F15 := fun_mk (st := s_Answer_init) l15 c15 k15
  have b15 := F15.binds (ps := ["self", "told", "paper", "disk", "deeds"]) fun _ _ _ _ _ _ us hl => match us, hl with | [_, _, _, _, _], _ => rfl
  have F16 := fun_mk (st := s_check_question) l16 c16 k16
  have b16 := F16.binds (ps := ["machine", "image", "piece"]) fun _ _ _ _ _ _ us hl => match us, hl with | [_, _, _], _ => rfl
  have F17 := fun_mk (st := s_packed_sketch) l17 c17 k17
  have b17 := F17.binds (ps := ["sketch"]) fun _ _ _ _ _ _ us hl => match us, hl with | [_], _ => rfl
  have F18 := fun_mk (st := s_Search_init) l18 c18 k18
  have b18 := F18.binds (ps := ["self", "machine", "piece"]) fun _ _ _ _ _ _ us hl => match us, hl with | [_, _, _], _ => rfl
  have F19 := fun_mk (st := s_Search_place) l19 c19 k19
  have b19 := F19.binds (ps := ["self", "sketch", "origin"]) fun _ _ _ _ _ _ us hl => match us, hl with | [_, _, _], _ => rfl
  have F20 := fun_mk (st := s_Search_places) l20 c20 k20
  have b20 := F20.binds (ps := ["self", "sketch", "origin"]) fun _ _ _ _ _ _ us hl => match us, hl with | [_, _, _], _ => rfl
  have F21 := fun_mk (st := s_Search_row) l21 c21 k21
  have b21 := F21.binds (ps := ["self", "number"]) fun _ _ _ _ _ _ us hl => match us, hl with | [_, _], _ => rfl
  have F22 := fun_mk (st := s_Search_history) l22 c22 k22
  have b22 := F22.binds (ps := ["self"]) fun _ _ _ _ _ _ us hl => match us, hl with | [_], _ => rfl
  have F23 := fun_mk (st := s_tell) l23 c23 k23
  have b23 := F23.binds (ps := ["machine", "image", "piece"]) fun _ _ _ _ _ _ us hl => match us, hl with | [_, _, _], _ => rfl
  have F24 := fun_mk (st := s_told_at_end) l24 c24 k24
  have b24 := F24.binds (ps := ["machine", "image", "piece"]) fun _ _ _ _ _ _ us hl => match us, hl with | [_, _, _], _ => rfl
  have F25 := fun_mk (st := s_check_range) l25 c25 k25
  have b25 := F25.binds (ps := ["number", "least", "greatest"]) fun _ _ _ _ _ _ us hl => match us, hl with | [_, _, _], _ => rfl
  have F26 := fun_mk (st := s_one) l26 c26 k26
  have b26 := F26.binds (ps := ["value"]) fun _ _ _ _ _ _ us hl => match us, hl with | [_], _ => rfl
  have F27 := fun_mk (st := s_set_to) l27 c27 k27
  have b27 := F27.binds (ps := ["cell", "value"]) fun _ _ _ _ _ _ us hl => match us, hl with | [_, _], _ => rfl
  have F28 := fun_mk (st := s_StripeForm_init) l28 c28 k28
  have b28 := F28.binds (ps := ["self", "alphabet"]) fun _ _ _ _ _ _ us hl => match us, hl with | [_, _], _ => rfl
  have F29 := fun_mk (st := s_begin_deeds) l29 c29 k29
  have b29 := F29.binds (ps := ["form"]) fun _ _ _ _ _ _ us hl => match us, hl with | [_], _ => rfl
  have F30 := fun_mk (st := s_end_deeds) l30 c30 k30
  have b30 := F30.binds (ps := ["form"]) fun _ _ _ _ _ _ us hl => match us, hl with | [_], _ => rfl
  have F31 := fun_mk (st := s_rebuild_deeds) l31 c31 k31
  have b31 := F31.binds (ps := ["form"]) fun _ _ _ _ _ _ us hl => match us, hl with | [_], _ => rfl
  have F32 := fun_mk (st := s_stripe_machine) l32 c32 k32
  have b32 := F32.binds (ps := ["form"]) fun _ _ _ _ _ _ us hl => match us, hl with | [_], _ => rfl
  have F33 := fun_mk (st := s_law_cell) l33 c33 k33
  have b33 := F33.binds (ps := ["_law_script", "_law_k"]) fun _ _ _ _ _ _ us hl => match us, hl with | [_, _], _ => rfl
  have F34 := fun_mk (st := s_law_mix) l34 c34 k34
  have b34 := F34.binds (ps := ["_law_cell_here", "_law_k"]) fun _ _ _ _ _ _ us hl => match us, hl with | [_, _], _ => rfl
  have F35 := fun_mk (st := s_law_stripe) l35 c35 k35
  have b35 := F35.binds (ps := ["_law_values", "_law_disk", "_law_name"]) fun _ _ _ _ _ _ us hl => match us, hl with | [_, _, _], _ => rfl
  have F36 := fun_mk (st := s_law_names) l36 c36 k36
  have b36 := F36.binds (ps := ["_law_values"]) fun _ _ _ _ _ _ us hl => match us, hl with | [_], _ => rfl
  have F37 := fun_mk (st := s_law_reached) l37 c37 k37
  have b37 := F37.binds (ps := ["_law_values"]) fun _ _ _ _ _ _ us hl => match us, hl with | [_], _ => rfl
  have F38 := fun_mk (st := s_law_fits) l38 c38 k38
  have b38 := F38.binds (ps := ["_law_image", "_law_disk"]) fun _ _ _ _ _ _ us hl => match us, hl with | [_, _], _ => rfl
  have F39 := fun_mk (st := s_law) l39 c39 k39
  have b39 := F39.binds (ps := ["_law_script"]) fun _ _ _ _ _ _ us hl => match us, hl with | [_], _ => rfl
  refine ⟨{ a_is_name := f0, d_is_name := PySem.W.fnOf "is_name" "is_name" (defArgs s_is_name) (defBody s_is_name) (defScope s_is_name) .none kV0 dc0 pm0 an0 cd0 ct0, a_check_names := f1, d_check_names := PySem.W.fnOf "_check_names" "_check_names" (defArgs s_check_names) (defBody s_check_names) (defScope s_check_names) .none kV1 dc1 pm1 an1 cd1 ct1, a_is_mask := f2, d_is_mask := PySem.W.fnOf "is_mask" "is_mask" (defArgs s_is_mask) (defBody s_is_mask) (defScope s_is_mask) .none kV2 dc2 pm2 an2 cd2 ct2, a_check_order := f3, d_check_order := PySem.W.fnOf "_check_order" "_check_order" (defArgs s_check_order) (defBody s_check_order) (defScope s_check_order) .none kV3 dc3 pm3 an3 cd3 ct3, a_Machine_init := f4, d_Machine_init := PySem.W.fnOf "__init__" "Machine.__init__" (defArgs s_Machine_init) (defBody s_Machine_init) (defScope s_Machine_init) .none kV4 dc4 pm4 an4 cd4 ct4, a_Machine_check_deed := f5, d_Machine_check_deed := PySem.W.fnOf "_check_deed" "Machine._check_deed" (defArgs s_Machine_check_deed) (defBody s_Machine_check_deed) (defScope s_Machine_check_deed) .none kV5 dc5 pm5 an5 cd5 ct5, a_Machine_full := f6, d_Machine_full := PySem.W.fnOf "full" "Machine.full" (defArgs s_Machine_full) (defBody s_Machine_full) (defScope s_Machine_full) .none kV6 dc6 pm6 an6 cd6 ct6, a_check_sketch := f7, d_check_sketch := PySem.W.fnOf "check_sketch" "check_sketch" (defArgs s_check_sketch) (defBody s_check_sketch) (defScope s_check_sketch) .none kV7 dc7 pm7 an7 cd7 ct7, a_sketch_before := f8, d_sketch_before := PySem.W.fnOf "sketch_before" "sketch_before" (defArgs s_sketch_before) (defBody s_sketch_before) (defScope s_sketch_before) .none kV8 dc8 pm8 an8 cd8 ct8, a_meet := f9, d_meet := PySem.W.fnOf "meet" "meet" (defArgs s_meet) (defBody s_meet) (defScope s_meet) .none kV9 dc9 pm9 an9 cd9 ct9, a_split := f10, d_split := PySem.W.fnOf "_split" "_split" (defArgs s_split) (defBody s_split) (defScope s_split) .none kV10 dc10 pm10 an10 cd10 ct10, a_without := f11, d_without := PySem.W.fnOf "without" "without" (defArgs s_without) (defBody s_without) (defScope s_without) .none kV11 dc11 pm11 an11 cd11 ct11, a_values_of := f12, d_values_of := PySem.W.fnOf "values_of" "values_of" (defArgs s_values_of) (defBody s_values_of) (defScope s_values_of) .none kV12 dc12 pm12 an12 cd12 ct12, a_least_disk := f13, d_least_disk := PySem.W.fnOf "least_disk" "least_disk" (defArgs s_least_disk) (defBody s_least_disk) (defScope s_least_disk) .none kV13 dc13 pm13 an13 cd13 ct13, a_Paper_init := f14, d_Paper_init := PySem.W.fnOf "__init__" "Paper.__init__" (defArgs s_Paper_init) (defBody s_Paper_init) (defScope s_Paper_init) .none kV14 dc14 pm14 an14 cd14 ct14, a_Answer_init := f15, d_Answer_init := PySem.W.fnOf "__init__" "Answer.__init__" (defArgs s_Answer_init) (defBody s_Answer_init) (defScope s_Answer_init) .none kV15 dc15 pm15 an15 cd15 ct15, a_check_question := f16, d_check_question := PySem.W.fnOf "check_question" "check_question" (defArgs s_check_question) (defBody s_check_question) (defScope s_check_question) .none kV16 dc16 pm16 an16 cd16 ct16, a_packed_sketch := f17, d_packed_sketch := PySem.W.fnOf "packed_sketch" "packed_sketch" (defArgs s_packed_sketch) (defBody s_packed_sketch) (defScope s_packed_sketch) .none kV17 dc17 pm17 an17 cd17 ct17, a_Search_init := f18, d_Search_init := PySem.W.fnOf "__init__" "Search.__init__" (defArgs s_Search_init) (defBody s_Search_init) (defScope s_Search_init) .none kV18 dc18 pm18 an18 cd18 ct18, a_Search_place := f19, d_Search_place := PySem.W.fnOf "place" "Search.place" (defArgs s_Search_place) (defBody s_Search_place) (defScope s_Search_place) .none kV19 dc19 pm19 an19 cd19 ct19, a_Search_places := f20, d_Search_places := PySem.W.fnOf "places" "Search.places" (defArgs s_Search_places) (defBody s_Search_places) (defScope s_Search_places) .none kV20 dc20 pm20 an20 cd20 ct20, a_Search_row := f21, d_Search_row := PySem.W.fnOf "row" "Search.row" (defArgs s_Search_row) (defBody s_Search_row) (defScope s_Search_row) .none kV21 dc21 pm21 an21 cd21 ct21, a_Search_history := f22, d_Search_history := PySem.W.fnOf "history" "Search.history" (defArgs s_Search_history) (defBody s_Search_history) (defScope s_Search_history) .none kV22 dc22 pm22 an22 cd22 ct22, a_tell := f23, d_tell := PySem.W.fnOf "tell" "tell" (defArgs s_tell) (defBody s_tell) (defScope s_tell) .none kV23 dc23 pm23 an23 cd23 ct23, a_told_at_end := f24, d_told_at_end := PySem.W.fnOf "told_at_end" "told_at_end" (defArgs s_told_at_end) (defBody s_told_at_end) (defScope s_told_at_end) .none kV24 dc24 pm24 an24 cd24 ct24, a_check_range := f25, d_check_range := PySem.W.fnOf "check_range" "check_range" (defArgs s_check_range) (defBody s_check_range) (defScope s_check_range) .none kV25 dc25 pm25 an25 cd25 ct25, a_one := f26, d_one := PySem.W.fnOf "one" "one" (defArgs s_one) (defBody s_one) (defScope s_one) .none kV26 dc26 pm26 an26 cd26 ct26, a_set_to := f27, d_set_to := PySem.W.fnOf "set_to" "set_to" (defArgs s_set_to) (defBody s_set_to) (defScope s_set_to) .none kV27 dc27 pm27 an27 cd27 ct27, a_StripeForm_init := f28, d_StripeForm_init := PySem.W.fnOf "__init__" "StripeForm.__init__" (defArgs s_StripeForm_init) (defBody s_StripeForm_init) (defScope s_StripeForm_init) .none kV28 dc28 pm28 an28 cd28 ct28, a_begin_deeds := f29, d_begin_deeds := PySem.W.fnOf "_begin_deeds" "_begin_deeds" (defArgs s_begin_deeds) (defBody s_begin_deeds) (defScope s_begin_deeds) .none kV29 dc29 pm29 an29 cd29 ct29, a_end_deeds := f30, d_end_deeds := PySem.W.fnOf "_end_deeds" "_end_deeds" (defArgs s_end_deeds) (defBody s_end_deeds) (defScope s_end_deeds) .none kV30 dc30 pm30 an30 cd30 ct30, a_rebuild_deeds := f31, d_rebuild_deeds := PySem.W.fnOf "_rebuild_deeds" "_rebuild_deeds" (defArgs s_rebuild_deeds) (defBody s_rebuild_deeds) (defScope s_rebuild_deeds) .none kV31 dc31 pm31 an31 cd31 ct31, a_stripe_machine := f32, d_stripe_machine := PySem.W.fnOf "stripe_machine" "stripe_machine" (defArgs s_stripe_machine) (defBody s_stripe_machine) (defScope s_stripe_machine) .none kV32 dc32 pm32 an32 cd32 ct32, a_law_cell := f33, d_law_cell := PySem.W.fnOf "_law_cell" "_law_cell" (defArgs s_law_cell) (defBody s_law_cell) (defScope s_law_cell) .none kV33 dc33 pm33 an33 cd33 ct33, a_law_mix := f34, d_law_mix := PySem.W.fnOf "_law_mix" "_law_mix" (defArgs s_law_mix) (defBody s_law_mix) (defScope s_law_mix) .none kV34 dc34 pm34 an34 cd34 ct34, a_law_stripe := f35, d_law_stripe := PySem.W.fnOf "_law_stripe" "_law_stripe" (defArgs s_law_stripe) (defBody s_law_stripe) (defScope s_law_stripe) .none kV35 dc35 pm35 an35 cd35 ct35, a_law_names := f36, d_law_names := PySem.W.fnOf "_law_names" "_law_names" (defArgs s_law_names) (defBody s_law_names) (defScope s_law_names) .none kV36 dc36 pm36 an36 cd36 ct36, a_law_reached := f37, d_law_reached := PySem.W.fnOf "_law_reached" "_law_reached" (defArgs s_law_reached) (defBody s_law_reached) (defScope s_law_reached) .none kV37 dc37 pm37 an37 cd37 ct37, a_law_fits := f38, d_law_fits := PySem.W.fnOf "_law_fits" "_law_fits" (defArgs s_law_fits) (defBody s_law_fits) (defScope s_law_fits) .none kV38 dc38 pm38 an38 cd38 ct38, a_law := fa, d_law := PySem.W.fnOf "law" "law" (defArgs s_law) (defBody s_law) (defScope s_law) .none kV39 dc39 pm39 an39 cd39 ct39, c_Machine := C_Machine, c_Paper := C_Paper, c_Answer := C_Answer, c_Search := C_Search, c_StripeForm := C_StripeForm, p_full := pfull }, rfl, ?_, fun s v => .of_eq rfl⟩
  exact {
    F_is_name := F0
    b_is_name := b0
    g_is_name := PySem.W.mg_of X G a0
    F_check_names := F1
    b_check_names := b1
    g_check_names := PySem.W.mg_of X G a1
    F_is_mask := F2
    b_is_mask := b2
    g_is_mask := PySem.W.mg_of X G a2
    F_check_order := F3
    b_check_order := b3
    g_check_order := PySem.W.mg_of X G a3
    F_Machine_init := F4
    b_Machine_init := b4
    m_Machine_init := ⟨mkMachine, a4, i4, kcMachine⟩
    F_Machine_check_deed := F5
    b_Machine_check_deed := b5
    m_Machine_check_deed := ⟨a5, i5, k5⟩
    F_Machine_full := F6
    b_Machine_full := b6
    m_Machine_full := ⟨a6, a6g, a6t, ⟨rfull, a6r⟩⟩
    F_check_sketch := F7
    b_check_sketch := b7
    g_check_sketch := PySem.W.mg_of X G a7
    F_sketch_before := F8
    b_sketch_before := b8
    g_sketch_before := PySem.W.mg_of X G a8
    F_meet := F9
    b_meet := b9
    g_meet := PySem.W.mg_of X G a9
    F_split := F10
    b_split := b10
    g_split := PySem.W.mg_of X G a10
    F_without := F11
    b_without := b11
    g_without := PySem.W.mg_of X G a11
    F_values_of := F12
    b_values_of := b12
    g_values_of := PySem.W.mg_of X G a12
    F_least_disk := F13
    b_least_disk := b13
    g_least_disk := PySem.W.mg_of X G a13
    F_Paper_init := F14
    b_Paper_init := b14
    m_Paper_init := ⟨mkPaper, a14, i14, kcPaper⟩
    F_Answer_init := F15
    b_Answer_init := b15
    m_Answer_init := ⟨mkAnswer, a15, i15, kcAnswer⟩
    F_check_question := F16
    b_check_question := b16
    g_check_question := PySem.W.mg_of X G a16
    F_packed_sketch := F17
    b_packed_sketch := b17
    g_packed_sketch := PySem.W.mg_of X G a17
    F_Search_init := F18
    b_Search_init := b18
    m_Search_init := ⟨mkSearch, a18, i18, kcSearch⟩
    F_Search_place := F19
    b_Search_place := b19
    m_Search_place := ⟨a19, i19, k19⟩
    F_Search_places := F20
    b_Search_places := b20
    m_Search_places := ⟨a20, i20, k20⟩
    F_Search_row := F21
    b_Search_row := b21
    m_Search_row := ⟨a21, i21, k21⟩
    F_Search_history := F22
    b_Search_history := b22
    m_Search_history := ⟨a22, i22, k22⟩
    F_tell := F23
    b_tell := b23
    g_tell := PySem.W.mg_of X G a23
    F_told_at_end := F24
    b_told_at_end := b24
    g_told_at_end := PySem.W.mg_of X G a24
    F_check_range := F25
    b_check_range := b25
    g_check_range := PySem.W.mg_of X G a25
    F_one := F26
    b_one := b26
    g_one := PySem.W.mg_of X G a26
    F_set_to := F27
    b_set_to := b27
    g_set_to := PySem.W.mg_of X G a27
    F_StripeForm_init := F28
    b_StripeForm_init := b28
    m_StripeForm_init := ⟨mkStripeForm, a28, i28, kcStripeForm⟩
    F_begin_deeds := F29
    b_begin_deeds := b29
    g_begin_deeds := PySem.W.mg_of X G a29
    F_end_deeds := F30
    b_end_deeds := b30
    g_end_deeds := PySem.W.mg_of X G a30
    F_rebuild_deeds := F31
    b_rebuild_deeds := b31
    g_rebuild_deeds := PySem.W.mg_of X G a31
    F_stripe_machine := F32
    b_stripe_machine := b32
    g_stripe_machine := PySem.W.mg_of X G a32
    F_law_cell := F33
    b_law_cell := b33
    g_law_cell := PySem.W.mg_of X G a33
    F_law_mix := F34
    b_law_mix := b34
    g_law_mix := PySem.W.mg_of X G a34
    F_law_stripe := F35
    b_law_stripe := b35
    g_law_stripe := PySem.W.mg_of X G a35
    F_law_names := F36
    b_law_names := b36
    g_law_names := PySem.W.mg_of X G a36
    F_law_reached := F37
    b_law_reached := b37
    g_law_reached := PySem.W.mg_of X G a37
    F_law_fits := F38
    b_law_fits := b38
    g_law_fits := PySem.W.mg_of X G a38
    F_law := F39
    b_law := b39
    g_law := PySem.W.mg_of X G a39
    cl_Machine := ⟨pgMachine, hdMachine, poMachine, saMachine⟩
    g_Machine := PySem.W.mg_of X G nsMachine
    n_Machine_cells := n_Machine_cells
    n_Machine_deeds := n_Machine_deeds
    n_Machine_first := n_Machine_first
    cl_Paper := ⟨pgPaper, hdPaper, poPaper, saPaper⟩
    g_Paper := PySem.W.mg_of X G nsPaper
    n_Paper_sketches := n_Paper_sketches
    n_Paper_cover := n_Paper_cover
    n_Paper_table := n_Paper_table
    cl_Answer := ⟨pgAnswer, hdAnswer, poAnswer, saAnswer⟩
    g_Answer := PySem.W.mg_of X G nsAnswer
    n_Answer_told := n_Answer_told
    n_Answer_paper := n_Answer_paper
    n_Answer_disk := n_Answer_disk
    n_Answer_deeds := n_Answer_deeds
    cl_Search := ⟨pgSearch, hdSearch, poSearch, saSearch⟩
    g_Search := PySem.W.mg_of X G nsSearch
    n_Search__machine := n_Search__machine
    n_Search__piece := n_Search__piece
    n_Search__packed := n_Search__packed
    n_Search_sketches := n_Search_sketches
    n_Search_origins := n_Search_origins
    n_Search_found := n_Search_found
    cl_StripeForm := ⟨pgStripeForm, hdStripeForm, poStripeForm, saStripeForm⟩
    g_StripeForm := PySem.W.mg_of X G nsStripeForm
    n_StripeForm_alphabet := n_StripeForm_alphabet
    i_MOST_CELLS := ⟨_, PySem.W.mg_of X G i_MOST_CELLS⟩
    i_MOST_VALUES := ⟨_, PySem.W.mg_of X G i_MOST_VALUES⟩
    i_MOST_DEEDS := ⟨_, PySem.W.mg_of X G i_MOST_DEEDS⟩
    i_LONGEST_NAME := ⟨_, PySem.W.mg_of X G i_LONGEST_NAME⟩
    i_PARITY := ⟨_, PySem.W.mg_of X G i_PARITY⟩
    i_WORK := ⟨_, PySem.W.mg_of X G i_WORK⟩
    i_NO_WORK := ⟨_, PySem.W.mg_of X G i_NO_WORK⟩
    i_SOME_WORK := ⟨_, PySem.W.mg_of X G i_SOME_WORK⟩
    i_LOWER := ⟨_, PySem.W.mg_of X G i_LOWER⟩
    i_DIGITS := ⟨_, PySem.W.mg_of X G i_DIGITS⟩
    z_len := PySem.W.mg_none_of X G z_len
    z_all := PySem.W.mg_none_of X G z_all
    z_set := PySem.W.mg_none_of X G z_set
    z_tuple := PySem.W.mg_none_of X G z_tuple
    z_list := PySem.W.mg_none_of X G z_list
    z_zip := PySem.W.mg_none_of X G z_zip
    z_range := PySem.W.mg_none_of X G z_range
    z_enumerate := PySem.W.mg_none_of X G z_enumerate
    z_int := PySem.W.mg_none_of X G z_int
    z_str := PySem.W.mg_none_of X G z_str
    z_isinstance := PySem.W.mg_none_of X G z_isinstance
    z_bool := PySem.W.mg_none_of X G z_bool }
theorem fin_of {l : PySem.W.OpenLaw} {w : World} {K : PySem.W.Frag} {mg : Str → Option Value} {fa : Addr} {k : Nat} (m : ∃ A : Ad, A.a_law = fa ∧ Txt K mg A ∧ ∀ (s : Shared) (v : Value), BindsTo s A.d_law ⟨[v], []⟩ [("_law_script", v)])
    (ok_law : ∀ (P : Program) (w : World) (base : Heap) (A : Ad), Txt K mg A → FnOk P w K mg base CX0 k A.a_law A.d_law ["_law_script"] (spLaw K)) :
    ∃ fd : FuncData, (∀ (s : Shared) (v : Value), BindsTo s fd ⟨[v], []⟩ [("_law_script", v)]) ∧ ∀ base : Heap, K.In base → base.Ns mainGlobals mg → FnOk l.prog w K mg base CX0 k fa fd ["_law_script"] (spLaw K) := by
  obtain ⟨A, rfl, T, hb⟩ := m
  exact ⟨A.d_law, hb, fun base _ _ => ok_law l.prog w base A T⟩
end Rw
open PySem PySem.W PyProof.Rows
set_option Elab.async false
set_option maxRecDepth 100000 in
set_option maxHeartbeats 0 in
open_top hd for PySem.Challenge.rw_raisedwreck_k46_whole_stripes
set_option maxRecDepth 100000 in
set_option maxHeartbeats 0 in
theorem PySem.Challenge.cw_raisedwreck_k46_whole_stripes_holds : PySem.Challenge.rw_raisedwreck_k46_whole_stripes.Holds :=
  hd (by
  k_fill
  refine L2.walk_of (l := PySem.Challenge.rw_raisedwreck_k46_whole_stripes) (n := 63) (k := 9) (x := "_law_script") (CX := fun _ => L2.CX0) (sp := fun w => Rw.spLaw _) rfl (by decide) rfl ⟨rfl, by decide, by decide⟩ (fun w h Y => PySem.W.kIn_of Y) ?F (fun _ _ a ns hl _ hS => ⟨a, ns, rfl, hS, hl, fun _ => rfl⟩) (fun _ _ _ _ _ h => h)
  case F =>
    intro w mg fa h KX G hmg
    refine Rw.fin_of ?_ (fun P w base A T => Rw.ok_law T)
    refine' Rw.all_mk KX G hmg ?nsMachine ?nsPaper ?nsAnswer ?nsSearch ?nsStripeForm ?a0 ?l0 ?c0 ?k0 ?a1 ?l1 ?c1 ?k1 ?a2 ?l2 ?c2 ?k2 ?a3 ?l3 ?c3 ?k3 ?a4 ?i4 ?l4 ?c4 ?k4 ?a5 ?i5 ?l5 ?c5 ?k5 ?a6 ?a6g ?a6t ?a6r ?l6 ?c6 ?k6 ?a7 ?l7 ?c7 ?k7 ?a8 ?l8 ?c8 ?k8 ?a9 ?l9 ?c9 ?k9 ?a10 ?l10 ?c10 ?k10 ?a11 ?l11 ?c11 ?k11 ?a12 ?l12 ?c12 ?k12 ?a13 ?l13 ?c13 ?k13 ?a14 ?i14 ?l14 ?c14 ?k14 ?a15 ?i15 ?l15 ?c15 ?k15 ?a16 ?l16 ?c16 ?k16 ?a17 ?l17 ?c17 ?k17 ?a18 ?i18 ?l18 ?c18 ?k18 ?a19 ?i19 ?l19 ?c19 ?k19 ?a20 ?i20 ?l20 ?c20 ?k20 ?a21 ?i21 ?l21 ?c21 ?k21 ?a22 ?i22 ?l22 ?c22 ?k22 ?a23 ?l23 ?c23 ?k23 ?a24 ?l24 ?c24 ?k24 ?a25 ?l25 ?c25 ?k25 ?a26 ?l26 ?c26 ?k26 ?a27 ?l27 ?c27 ?k27 ?a28 ?i28 ?l28 ?c28 ?k28 ?a29 ?l29 ?c29 ?k29 ?a30 ?l30 ?c30 ?k30 ?a31 ?l31 ?c31 ?k31 ?a32 ?l32 ?c32 ?k32 ?a33 ?l33 ?c33 ?k33 ?a34 ?l34 ?c34 ?k34 ?a35 ?l35 ?c35 ?k35 ?a36 ?l36 ?c36 ?k36 ?a37 ?l37 ?c37 ?k37 ?a38 ?l38 ?c38 ?k38 ?a39 ?l39 ?c39 ?k39 ?pgMachine ?hdMachine ?poMachine ?saMachine ?mkMachine ?kcMachine ?n_Machine_cells ?n_Machine_deeds ?n_Machine_first ?pgPaper ?hdPaper ?poPaper ?saPaper ?mkPaper ?kcPaper ?n_Paper_sketches ?n_Paper_cover ?n_Paper_table ?pgAnswer ?hdAnswer ?poAnswer ?saAnswer ?mkAnswer ?kcAnswer ?n_Answer_told ?n_Answer_paper ?n_Answer_disk ?n_Answer_deeds ?pgSearch ?hdSearch ?poSearch ?saSearch ?mkSearch ?kcSearch ?n_Search__machine ?n_Search__piece ?n_Search__packed ?n_Search_sketches ?n_Search_origins ?n_Search_found ?pgStripeForm ?hdStripeForm ?poStripeForm ?saStripeForm ?mkStripeForm ?kcStripeForm ?n_StripeForm_alphabet ?i_MOST_CELLS ?i_MOST_VALUES ?i_MOST_DEEDS ?i_LONGEST_NAME ?i_PARITY ?i_WORK ?i_NO_WORK ?i_SOME_WORK ?i_LOWER ?i_DIGITS ?z_len ?z_all ?z_set ?z_tuple ?z_list ?z_zip ?z_range ?z_enumerate ?z_int ?z_str ?z_isinstance ?z_bool
    (case nsMachine => k_is)
    (case nsPaper => k_is)
    (case nsAnswer => k_is)
    (case nsSearch => k_is)
    (case nsStripeForm => k_is)
    (case a0 => k_is)
    (case l0 => k_is)
    (case c0 => k_is)
    (case k0 => k_is)
    (case a1 => k_is)
    (case l1 => k_is)
    (case c1 => k_is)
    (case k1 => k_is)
    (case a2 => k_is)
    (case l2 => k_is)
    (case c2 => k_is)
    (case k2 => k_is)
    (case a3 => k_is)
    (case l3 => k_is)
    (case c3 => k_is)
    (case k3 => k_is)
    (case a4 => k_is)
    (case i4 => k_is)
    (case l4 => k_is)
    (case c4 => k_is)
    (case k4 => k_is)
    (case a5 => k_is)
    (case i5 => k_is)
    (case l5 => k_is)
    (case c5 => k_is)
    (case k5 => k_is)
    (case a6 => k_is)
    (case a6g => k_is)
    (case a6t => k_is)
    (case a6r => k_is)
    (case l6 => k_is)
    (case c6 => k_is)
    (case k6 => k_is)
    (case a7 => k_is)
    (case l7 => k_is)
    (case c7 => k_is)
    (case k7 => k_is)
    (case a8 => k_is)
    (case l8 => k_is)
    (case c8 => k_is)
    (case k8 => k_is)
    (case a9 => k_is)
    (case l9 => k_is)
    (case c9 => k_is)
    (case k9 => k_is)
    (case a10 => k_is)
    (case l10 => k_is)
    (case c10 => k_is)
    (case k10 => k_is)
    (case a11 => k_is)
    (case l11 => k_is)
    (case c11 => k_is)
    (case k11 => k_is)
    (case a12 => k_is)
    (case l12 => k_is)
    (case c12 => k_is)
    (case k12 => k_is)
    (case a13 => k_is)
    (case l13 => k_is)
    (case c13 => k_is)
    (case k13 => k_is)
    (case a14 => k_is)
    (case i14 => k_is)
    (case l14 => k_is)
    (case c14 => k_is)
    (case k14 => k_is)
    (case a15 => k_is)
    (case i15 => k_is)
    (case l15 => k_is)
    (case c15 => k_is)
    (case k15 => k_is)
    (case a16 => k_is)
    (case l16 => k_is)
    (case c16 => k_is)
    (case k16 => k_is)
    (case a17 => k_is)
    (case l17 => k_is)
    (case c17 => k_is)
    (case k17 => k_is)
    (case a18 => k_is)
    (case i18 => k_is)
    (case l18 => k_is)
    (case c18 => k_is)
    (case k18 => k_is)
    (case a19 => k_is)
    (case i19 => k_is)
    (case l19 => k_is)
    (case c19 => k_is)
    (case k19 => k_is)
    (case a20 => k_is)
    (case i20 => k_is)
    (case l20 => k_is)
    (case c20 => k_is)
    (case k20 => k_is)
    (case a21 => k_is)
    (case i21 => k_is)
    (case l21 => k_is)
    (case c21 => k_is)
    (case k21 => k_is)
    (case a22 => k_is)
    (case i22 => k_is)
    (case l22 => k_is)
    (case c22 => k_is)
    (case k22 => k_is)
    (case a23 => k_is)
    (case l23 => k_is)
    (case c23 => k_is)
    (case k23 => k_is)
    (case a24 => k_is)
    (case l24 => k_is)
    (case c24 => k_is)
    (case k24 => k_is)
    (case a25 => k_is)
    (case l25 => k_is)
    (case c25 => k_is)
    (case k25 => k_is)
    (case a26 => k_is)
    (case l26 => k_is)
    (case c26 => k_is)
    (case k26 => k_is)
    (case a27 => k_is)
    (case l27 => k_is)
    (case c27 => k_is)
    (case k27 => k_is)
    (case a28 => k_is)
    (case i28 => k_is)
    (case l28 => k_is)
    (case c28 => k_is)
    (case k28 => k_is)
    (case a29 => k_is)
    (case l29 => k_is)
    (case c29 => k_is)
    (case k29 => k_is)
    (case a30 => k_is)
    (case l30 => k_is)
    (case c30 => k_is)
    (case k30 => k_is)
    (case a31 => k_is)
    (case l31 => k_is)
    (case c31 => k_is)
    (case k31 => k_is)
    (case a32 => k_is)
    (case l32 => k_is)
    (case c32 => k_is)
    (case k32 => k_is)
    (case a33 => k_is)
    (case l33 => k_is)
    (case c33 => k_is)
    (case k33 => k_is)
    (case a34 => k_is)
    (case l34 => k_is)
    (case c34 => k_is)
    (case k34 => k_is)
    (case a35 => k_is)
    (case l35 => k_is)
    (case c35 => k_is)
    (case k35 => k_is)
    (case a36 => k_is)
    (case l36 => k_is)
    (case c36 => k_is)
    (case k36 => k_is)
    (case a37 => k_is)
    (case l37 => k_is)
    (case c37 => k_is)
    (case k37 => k_is)
    (case a38 => k_is)
    (case l38 => k_is)
    (case c38 => k_is)
    (case k38 => k_is)
    (case a39 => k_is)
    (case l39 => k_is)
    (case c39 => k_is)
    (case k39 => k_is)
    (case pgMachine => k_is)
    (case hdMachine => k_is)
    (case poMachine => k_is)
    (case saMachine => k_is)
    (case mkMachine => k_is)
    (case kcMachine => k_is)
    (case n_Machine_cells => k_is)
    (case n_Machine_deeds => k_is)
    (case n_Machine_first => k_is)
    (case pgPaper => k_is)
    (case hdPaper => k_is)
    (case poPaper => k_is)
    (case saPaper => k_is)
    (case mkPaper => k_is)
    (case kcPaper => k_is)
    (case n_Paper_sketches => k_is)
    (case n_Paper_cover => k_is)
    (case n_Paper_table => k_is)
    (case pgAnswer => k_is)
    (case hdAnswer => k_is)
    (case poAnswer => k_is)
    (case saAnswer => k_is)
    (case mkAnswer => k_is)
    (case kcAnswer => k_is)
    (case n_Answer_told => k_is)
    (case n_Answer_paper => k_is)
    (case n_Answer_disk => k_is)
    (case n_Answer_deeds => k_is)
    (case pgSearch => k_is)
    (case hdSearch => k_is)
    (case poSearch => k_is)
    (case saSearch => k_is)
    (case mkSearch => k_is)
    (case kcSearch => k_is)
    (case n_Search__machine => k_is)
    (case n_Search__piece => k_is)
    (case n_Search__packed => k_is)
    (case n_Search_sketches => k_is)
    (case n_Search_origins => k_is)
    (case n_Search_found => k_is)
    (case pgStripeForm => k_is)
    (case hdStripeForm => k_is)
    (case poStripeForm => k_is)
    (case saStripeForm => k_is)
    (case mkStripeForm => k_is)
    (case kcStripeForm => k_is)
    (case n_StripeForm_alphabet => k_is)
    (case i_MOST_CELLS => k_is)
    (case i_MOST_VALUES => k_is)
    (case i_MOST_DEEDS => k_is)
    (case i_LONGEST_NAME => k_is)
    (case i_PARITY => k_is)
    (case i_WORK => k_is)
    (case i_NO_WORK => k_is)
    (case i_SOME_WORK => k_is)
    (case i_LOWER => k_is)
    (case i_DIGITS => k_is)
    (case z_len => k_is)
    (case z_all => k_is)
    (case z_set => k_is)
    (case z_tuple => k_is)
    (case z_list => k_is)
    (case z_zip => k_is)
    (case z_range => k_is)
    (case z_enumerate => k_is)
    (case z_int => k_is)
    (case z_str => k_is)
    (case z_isinstance => k_is)
    (case z_bool => k_is)
)
