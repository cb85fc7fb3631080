import PyProof.Rows.All
import Wide.All
import OpenK.AllK
import Wide.FinOn
import KE.KStateDown
import KE.KLam
import KE.SortKeyHeap
import HandS.ForMost
import HandS.ForExc
import HandS.Conv
import HandS.SetFor
import HandS.IsInst
import HandS.Defaults
import HandS.HotCalls
import HandS.ExcIs
import HandS.Lambda
import HandS.EndTab
import HandS.HeadHook4
import HandS.HeadWalk
import HandS.Style
import HandS.StrMore
import PySem.Challenge.RW_balepress_k10_codes_read
import KE.KRevSl
import PyProof.StrOps2
import HandS.Walk
import HandS.SortKw
import HandS.Head0
import HandS.Head1
import HandS.Head2
import KE.KNestM
set_option autoImplicit false
/-! Plain mathematics: bits, values, codes. No program in sight. -/
namespace Bale
/-! ### bits and their value, the highest first -/
def val (w : List Bool) : Nat := w.foldl (fun n b => 2 * n + b.toNat) 0
theorem val_nil : val [] = 0 := rfl
theorem val_snoc (w : List Bool) (b : Bool) : val (w ++ [b]) = 2 * val w + b.toNat := by
  unfold val
  rw [List.foldl_append]
  rfl
def bitsOf : Nat → Nat → List Bool
  | 0, _ => []
  | l + 1, c => bitsOf l (c / 2) ++ [c % 2 == 1]
theorem bitsOf_length : ∀ (l c : Nat), (bitsOf l c).length = l
  | 0, _ => rfl
  | l + 1, c => by
    show (bitsOf l (c / 2) ++ [c % 2 == 1]).length = l + 1
    rw [List.length_append, bitsOf_length l]
    rfl
theorem toNat_bit (c : Nat) : (c % 2 == 1).toNat = c % 2 := by
  rcases Nat.mod_two_eq_zero_or_one c with h | h <;> rw [h] <;> rfl
theorem val_bitsOf : ∀ (l c : Nat), val (bitsOf l c) = c % 2 ^ l
  | 0, c => by
    show (0 : Nat) = c % 1
    omega
  | l + 1, c => by
    show val (bitsOf l (c / 2) ++ [c % 2 == 1]) = c % 2 ^ (l + 1)
    rw [val_snoc, val_bitsOf l, toNat_bit, Nat.pow_succ, Nat.mul_comm (2 ^ l) 2, Nat.mod_mul]
    omega
/-- induction from the end -/
theorem snoc_ind {P : List Bool → Prop} (h0 : P []) (h1 : ∀ w b, P w → P (w ++ [b])) : ∀ w, P w := by
  intro w
  have h : ∀ n, ∀ w : List Bool, w.length = n → P w := by
    intro n
    induction n with
    | zero =>
      intro w h
      rw [List.length_eq_zero_iff.mp h]
      exact h0
    | succ n ih =>
      intro w h
      have hne : w ≠ [] := by
        intro e
        rw [e] at h
        cases h
      have e := List.dropLast_concat_getLast hne
      rw [← e]
      exact h1 _ _ (ih _ (by rw [List.length_dropLast, h]; rfl))
  exact h w.length w rfl
theorem val_lt (w : List Bool) : val w < 2 ^ w.length := by
  induction w using snoc_ind with
  | h0 => decide
  | h1 w b ih =>
    rw [val_snoc, List.length_append, List.length_singleton, Nat.pow_succ]
    cases b <;> simp only [Bool.toNat_false, Bool.toNat_true] <;> omega
theorem bitsOf_val (w : List Bool) : bitsOf w.length (val w) = w := by
  induction w using snoc_ind with
  | h0 => rfl
  | h1 w b ih =>
    rw [List.length_append, List.length_singleton, val_snoc]
    show bitsOf w.length ((2 * val w + b.toNat) / 2) ++ [(2 * val w + b.toNat) % 2 == 1] = w ++ [b]
    have e1 : (2 * val w + b.toNat) / 2 = val w := by cases b <;> simp only [Bool.toNat_false, Bool.toNat_true] <;> omega
    have e2 : ((2 * val w + b.toNat) % 2 == 1) = b := by
      cases b
      · have q : (2 * val w + false.toNat) % 2 = 0 := by simp only [Bool.toNat_false]; omega
        rw [q]; rfl
      · have q : (2 * val w + true.toNat) % 2 = 1 := by simp only [Bool.toNat_true]; omega
        rw [q]; rfl
    rw [e1, e2, ih]
theorem bitsOf_eq {w : List Bool} {l c : Nat} (h : c < 2 ^ l) : bitsOf l c = w ↔ l = w.length ∧ c = val w := by
  constructor
  · intro e
    rw [← e]
    exact ⟨(bitsOf_length l c).symm, by rw [val_bitsOf, Nat.mod_eq_of_lt h]⟩
  · rintro ⟨e1, e2⟩
    rw [e1, e2, bitsOf_val]
theorem bitsOf_add : ∀ (b a c : Nat), bitsOf (a + b) c = bitsOf a (c / 2 ^ b) ++ bitsOf b c
  | 0, a, c => by
    show bitsOf a c = bitsOf a (c / 1) ++ []
    rw [Nat.div_one, List.append_nil]
  | b + 1, a, c => by
    show bitsOf (a + b) (c / 2) ++ [c % 2 == 1] = bitsOf a (c / 2 ^ (b + 1)) ++ (bitsOf b (c / 2) ++ [c % 2 == 1])
    rw [bitsOf_add b a (c / 2), List.append_assoc, Nat.div_div_eq_div_mul, Nat.pow_succ, Nat.mul_comm 2]
theorem bitsOf_mod : ∀ (l c : Nat), bitsOf l (c % 2 ^ l) = bitsOf l c := fun l c => by
  have h : c % 2 ^ l < 2 ^ l := Nat.mod_lt _ (Nat.two_pow_pos l)
  exact (bitsOf_eq h).mpr ⟨(bitsOf_length l c).symm, (val_bitsOf l c).symm⟩
theorem bitsOf_zero : ∀ l : Nat, bitsOf l 0 = List.replicate l false
  | 0 => rfl
  | l + 1 => by
    show bitsOf l 0 ++ [false] = List.replicate (l + 1) false
    rw [bitsOf_zero l, List.replicate_succ']
/-- one more row of bits, put behind -/
theorem bitsOf_put {f p s n : Nat} (h : n < 2 ^ s) : bitsOf (f + s) (p * 2 ^ s + n) = bitsOf f p ++ bitsOf s n := by
  rw [bitsOf_add s f]
  have e1 : (p * 2 ^ s + n) / 2 ^ s = p := by
    rw [Nat.mul_comm, Nat.mul_add_div (Nat.two_pow_pos s), Nat.div_eq_of_lt h, Nat.add_zero]
  have e2 : bitsOf s (p * 2 ^ s + n) = bitsOf s n := by
    rw [← bitsOf_mod s (p * 2 ^ s + n), Nat.mul_comm, Nat.mul_add_mod, Nat.mod_eq_of_lt h]
  rw [e1, e2]
theorem bitsOf_take {k l c : Nat} (h : k ≤ l) : (bitsOf l c).take k = bitsOf k (c / 2 ^ (l - k)) := by
  have e : l = k + (l - k) := by omega
  have q := bitsOf_add (l - k) k c
  rw [← e] at q
  rw [q, List.take_left' (bitsOf_length k _)]
theorem prefix_bitsOf {w : List Bool} {l c : Nat} (h : c < 2 ^ l) : w <+: bitsOf l c ↔ w.length ≤ l ∧ val w = c / 2 ^ (l - w.length) := by
  constructor
  · intro p
    have hl : w.length ≤ l := by
      have := p.length_le
      rwa [bitsOf_length] at this
    refine ⟨hl, ?_⟩
    have e := List.prefix_iff_eq_take.mp p
    rw [bitsOf_take hl] at e
    have hc : c / 2 ^ (l - w.length) < 2 ^ w.length := by
      rw [Nat.div_lt_iff_lt_mul (Nat.two_pow_pos _), ← Nat.pow_add]
      rwa [Nat.add_sub_cancel' hl]
    exact ((bitsOf_eq hc).mp e.symm).2.symm
  · rintro ⟨hl, e⟩
    rw [List.prefix_iff_eq_take, bitsOf_take hl, ← e, bitsOf_val]
/-- the bit at a place -/
theorem bitsOf_at {l c o : Nat} (h : o < l) : (bitsOf l c)[o]? = some (c / 2 ^ (l - 1 - o) % 2 == 1) := by
  have e1 : (bitsOf l c)[o]? = ((bitsOf l c).take (o + 1))[o]? := by
    rw [List.getElem?_take, if_pos (Nat.lt_succ_self o)]
  rw [e1, bitsOf_take (by omega : o + 1 ≤ l)]
  show (bitsOf o (c / 2 ^ (l - (o + 1)) / 2) ++ [c / 2 ^ (l - (o + 1)) % 2 == 1])[o]? = _
  rw [List.getElem?_append_right (by rw [bitsOf_length]; exact Nat.le_refl _), bitsOf_length, Nat.sub_self]
  have e2 : l - (o + 1) = l - 1 - o := by omega
  rw [e2]
  rfl
/-- the text of a code, as it is made from its lowest bit on -/
theorem bitsOf_rev : ∀ (l c : Nat), ((List.range l).map fun k => (c / 2 ^ k % 2 == 1)).reverse = bitsOf l c
  | 0, _ => rfl
  | l + 1, c => by
    rw [List.range_succ_eq_map, List.map_cons, List.reverse_cons, List.map_map]
    show _ = bitsOf l (c / 2) ++ [c % 2 == 1]
    rw [← bitsOf_rev l (c / 2)]
    have e : ((fun k => (c / 2 ^ k % 2 == 1)) ∘ Nat.succ) = fun k => (c / 2 / 2 ^ k % 2 == 1) := by
      funext k
      show (c / 2 ^ (k + 1) % 2 == 1) = _
      rw [Nat.div_div_eq_div_mul, Nat.pow_succ, Nat.mul_comm 2]
    rw [e, Nat.pow_zero, Nat.div_one]
/-! ### bytes -/
def bytesBits (bs : List Nat) : List Bool := bs.flatMap (bitsOf 8)
theorem bytesBits_append (a b : List Nat) : bytesBits (a ++ b) = bytesBits a ++ bytesBits b := List.flatMap_append
theorem bytesBits_one (b : Nat) : bytesBits [b] = bitsOf 8 b := by
  unfold bytesBits
  rw [List.flatMap_cons, List.flatMap_nil, List.append_nil]
theorem bytesBits_length : ∀ bs : List Nat, (bytesBits bs).length = 8 * bs.length
  | [] => rfl
  | b :: r => by
    unfold bytesBits
    rw [List.flatMap_cons, List.length_append, bitsOf_length, List.length_cons]
    have := bytesBits_length r
    unfold bytesBits at this
    omega
theorem bytesBits_at : ∀ (bs : List Nat) (t b : Nat), bs[t / 8]? = some b → (bytesBits bs)[t]? = some (b / 2 ^ (7 - t % 8) % 2 == 1)
  | [], t, b, h => by
    rw [List.getElem?_nil] at h
    cases h
  | a :: r, t, b, h => by
    show (bitsOf 8 a ++ bytesBits r)[t]? = _
    by_cases ht : t < 8
    · rw [List.getElem?_append_left (by rw [bitsOf_length]; exact ht), bitsOf_at ht]
      have e0 : t / 8 = 0 := by omega
      rw [e0] at h
      have e : a = b := Option.some.inj h
      rw [e]
      have e1 : 8 - 1 - t = 7 - t % 8 := by omega
      rw [e1]
    · rw [List.getElem?_append_right (by rw [bitsOf_length]; omega), bitsOf_length]
      have e0 : t / 8 = (t - 8) / 8 + 1 := by omega
      rw [e0] at h
      have ih := bytesBits_at r (t - 8) b (by simpa using h)
      rw [ih]
      have e1 : (t - 8) % 8 = t % 8 := by omega
      rw [e1]
/-! ### what a reader of codes tells -/
abbrev Codes := List (Option (Nat × Nat))
/-- the first thing whose code is w -/
def hit (fs : Codes) (w : List Bool) : Option Nat := fs.findIdx? fun o => o == some (val w, w.length)
/-- a code begins with w -/
def begins (w : List Bool) : Option (Nat × Nat) → Bool
  | some (c, l) => decide (w.length ≤ l) && val w == c / 2 ^ (l - w.length)
  | none => false
def begun (fs : Codes) (w : List Bool) : Bool := fs.any (begins w)
inductive Ans where
  | thing (p n : Nat)
  | bad
  | short
  deriving DecidableEq
def due (fs : Codes) : List Bool → List Bool → Ans
  | _, [] => .short
  | w, b :: r => match hit fs (w ++ [b]) with
    | some p => .thing p (w.length + 1)
    | none => if begun fs (w ++ [b]) = true then due fs (w ++ [b]) r else .bad
theorem due_thing {fs : Codes} : ∀ {r w : List Bool} {p n : Nat}, due fs w r = .thing p n → p < fs.length ∧ w.length < n ∧ n ≤ w.length + r.length
  | [], w, p, n, h => by cases h
  | b :: r, w, p, n, h => by
    unfold due at h
    cases e : hit fs (w ++ [b]) with
    | some q =>
      rw [e] at h
      injection h with h1 h2
      subst h1 h2
      unfold hit at e
      have := (List.findIdx?_eq_some_iff_findIdx_eq.mp e).1
      refine ⟨this, Nat.lt_succ_self _, ?_⟩
      rw [List.length_cons]
      omega
    | none =>
      rw [e] at h
      dsimp only at h
      split at h
      · obtain ⟨h1, h2, h3⟩ := due_thing h
        rw [List.length_append, List.length_singleton] at h2 h3
        rw [List.length_cons]
        exact ⟨h1, by omega, by omega⟩
      · cases h
/-- no code is told twice -/
def Uniq (fs : Codes) : Prop := ∀ (p q : Nat) (x : Nat × Nat), fs[p]? = some (some x) → fs[q]? = some (some x) → p = q
theorem hit_some {fs : Codes} (u : Uniq fs) {w : List Bool} {p : Nat} : hit fs w = some p ↔ fs[p]? = some (some (val w, w.length)) := by
  unfold hit
  constructor
  · intro h
    obtain ⟨h1, h2⟩ := List.findIdx?_eq_some_iff_findIdx_eq.mp h
    have := List.findIdx_getElem (p := fun o => o == some (val w, w.length)) (xs := fs) (w := by rw [h2]; exact h1)
    rw [List.getElem?_eq_getElem h1]
    subst h2
    exact congrArg some (beq_iff_eq.mp this)
  · intro h
    cases e : fs.findIdx? (fun o => o == some (val w, w.length)) with
    | none =>
      rw [List.findIdx?_eq_none_iff] at e
      have := e _ (List.mem_of_getElem? h)
      rw [beq_self_eq_true] at this
      cases this
    | some q =>
      obtain ⟨h1, h2⟩ := List.findIdx?_eq_some_iff_findIdx_eq.mp e
      have h3 := List.findIdx_getElem (p := fun o => o == some (val w, w.length)) (xs := fs) (w := by rw [h2]; exact h1)
      have h4 : fs[q]? = some (some (val w, w.length)) := by
        rw [List.getElem?_eq_getElem h1]
        subst h2
        exact congrArg some (beq_iff_eq.mp h3)
      rw [u q p _ h4 h]
theorem hit_none {fs : Codes} {w : List Bool} : hit fs w = none ↔ ∀ p : Nat, fs[p]? ≠ some (some (val w, w.length)) := by
  unfold hit
  rw [List.findIdx?_eq_none_iff]
  constructor
  · intro h p e
    have := h _ (List.mem_of_getElem? e)
    rw [beq_self_eq_true] at this
    cases this
  · intro h o ho
    obtain ⟨p, hp, e⟩ := List.mem_iff_getElem.mp ho
    cases q : (o == some (val w, w.length)) with
    | false => rfl
    | true =>
      refine absurd ?_ (h p)
      rw [List.getElem?_eq_getElem hp, e, beq_iff_eq.mp q]
theorem begun_iff {fs : Codes} {w : List Bool} : begun fs w = true ↔ ∃ p c l : Nat, fs[p]? = some (some (c, l)) ∧ w.length ≤ l ∧ val w = c / 2 ^ (l - w.length) := by
  unfold begun
  rw [List.any_eq_true]
  constructor
  · rintro ⟨o, ho, hb⟩
    obtain ⟨p, hp, e⟩ := List.mem_iff_getElem.mp ho
    cases o with
    | none => cases hb
    | some x =>
      obtain ⟨c, l⟩ := x
      have hb : (decide (w.length ≤ l) && val w == c / 2 ^ (l - w.length)) = true := hb
      rw [Bool.and_eq_true, decide_eq_true_eq, beq_iff_eq] at hb
      exact ⟨p, c, l, by rw [List.getElem?_eq_getElem hp, e], hb⟩
  · rintro ⟨p, c, l, e, h1, h2⟩
    refine ⟨_, List.mem_of_getElem? e, ?_⟩
    show (decide (w.length ≤ l) && val w == c / 2 ^ (l - w.length)) = true
    rw [Bool.and_eq_true, decide_eq_true_eq, beq_iff_eq]
    exact ⟨h1, h2⟩
end Bale
set_option autoImplicit true
set_option autoImplicit false
/-! Plain mathematics: codes by their lengths, two ways; Kraft. -/
namespace Bale
abbrev lenAt (ls : List Nat) (p : Nat) : Nat := ls.getD p 0
def stepA (ls : List Nat) (s : Codes × Nat × Nat) (p : Nat) : Codes × Nat × Nat :=
  if lenAt ls p = 0 then s else (s.1.set p (some (s.2.1 * 2 ^ (lenAt ls p - s.2.2), lenAt ls p)), s.2.1 * 2 ^ (lenAt ls p - s.2.2) + 1, lenAt ls p)
def stepB1 (ls : List Nat) (l : Nat) (s : Codes × Nat) (p : Nat) : Codes × Nat :=
  if lenAt ls p = l then (s.1.set p (some (s.2, l)), s.2 + 1) else s
def stepB (ls : List Nat) (s : Codes × Nat) (l : Nat) : Codes × Nat := (List.range ls.length).foldl (stepB1 ls l) (s.1, s.2 * 2)
def empt (ls : List Nat) : Codes := List.replicate ls.length none
def runA (ls : List Nat) (S : List Nat) : Codes × Nat × Nat := S.foldl (stepA ls) (empt ls, 0, 0)
def runB (ls : List Nat) (k : Nat) : Codes × Nat := (List.range k).foldl (fun s i => stepB ls s (i + 1)) (empt ls, 0)
def canon (ls : List Nat) : Codes := (runB ls 12).1
/-- the places of one length, in order -/
def atLen (ls : List Nat) (l : Nat) (S : List Nat) : List Nat := S.filter fun p => lenAt ls p == l
/-! ### a sorted list is its parts by length -/
def upTo (ls : List Nat) (k : Nat) (S : List Nat) : List Nat := S.filter fun p => decide (k ≤ lenAt ls p)
abbrev Rising (ls : List Nat) (S : List Nat) : Prop := S.Pairwise fun a b => lenAt ls a ≤ lenAt ls b
theorem part {ls : List Nat} (k : Nat) : ∀ {S : List Nat}, Rising ls S → upTo ls k S = atLen ls k S ++ upTo ls (k + 1) S
  | [], _ => rfl
  | p :: r, h => by
    obtain ⟨h1, h2⟩ := List.pairwise_cons.mp h
    have ih := part k h2
    unfold upTo atLen at ih ⊢
    rw [List.filter_cons, List.filter_cons, List.filter_cons]
    by_cases e : lenAt ls p = k
    · rw [if_pos (by rw [decide_eq_true_eq]; omega), if_pos (by rw [beq_iff_eq]; exact e), if_neg (by rw [decide_eq_true_eq]; omega), List.cons_append, ih]
    · by_cases e2 : k ≤ lenAt ls p
      · rw [if_pos (by rw [decide_eq_true_eq]; exact e2), if_neg (by rw [beq_iff_eq]; exact e), if_pos (by rw [decide_eq_true_eq]; omega)]
        have hn : List.filter (fun p => lenAt ls p == k) r = [] := by
          rw [List.filter_eq_nil_iff]
          intro q hq
          have := h1 q hq
          rw [beq_iff_eq]
          omega
        rw [hn] at ih ⊢
        rw [List.nil_append] at ih ⊢
        rw [ih]
      · rw [if_neg (by rw [decide_eq_true_eq]; exact e2), if_neg (by rw [beq_iff_eq]; exact e), if_neg (by rw [decide_eq_true_eq]; omega), ih]
/-! ### the two ways agree -/
theorem foldB1 {ls : List Nat} {l : Nat} : ∀ (S : List Nat) (s : Codes × Nat), S.foldl (stepB1 ls l) s = (atLen ls l S).foldl (stepB1 ls l) s
  | [], _ => rfl
  | p :: r, s => by
    unfold atLen
    rw [List.filter_cons]
    by_cases e : lenAt ls p = l
    · rw [if_pos (by rw [beq_iff_eq]; exact e)]
      exact foldB1 r _
    · rw [if_neg (by rw [beq_iff_eq]; exact e)]
      have q : stepB1 ls l s p = s := if_neg e
      show r.foldl (stepB1 ls l) (stepB1 ls l s p) = _
      rw [q]
      exact foldB1 r s
theorem atLen_len {ls : List Nat} {l : Nat} {S : List Nat} : ∀ p ∈ atLen ls l S, lenAt ls p = l := fun p hp => beq_iff_eq.mp (List.mem_filter.mp hp).2
theorem blockA {ls : List Nat} {l : Nat} (hl : 0 < l) : ∀ (S : List Nat) (f : Codes) (c z : Nat), (∀ p ∈ S, lenAt ls p = l) → z ≤ l →
    ∃ c' z', S.foldl (stepA ls) (f, c, z) = ((S.foldl (stepB1 ls l) (f, c * 2 ^ (l - z))).1, c', z') ∧ z' ≤ l ∧ c' * 2 ^ (l - z') = (S.foldl (stepB1 ls l) (f, c * 2 ^ (l - z))).2
  | [], f, c, z, _, hz => ⟨c, z, rfl, hz, rfl⟩
  | p :: r, f, c, z, h, hz => by
    have e := h p (List.mem_cons_self ..)
    have q : stepA ls (f, c, z) p = (f.set p (some (c * 2 ^ (l - z), l)), c * 2 ^ (l - z) + 1, l) := by
      unfold stepA
      rw [e, if_neg (by omega)]
    have q2 : stepB1 ls l (f, c * 2 ^ (l - z)) p = (f.set p (some (c * 2 ^ (l - z), l)), c * 2 ^ (l - z) + 1) := if_pos e
    obtain ⟨c', z', h1, h2, h3⟩ := blockA hl r (f.set p (some (c * 2 ^ (l - z), l))) (c * 2 ^ (l - z) + 1) l (fun x hx => h x (List.mem_cons_of_mem _ hx)) (Nat.le_refl l)
    rw [Nat.sub_self, Nat.pow_zero, Nat.mul_one] at h1 h3
    refine ⟨c', z', ?_, h2, ?_⟩
    · rw [List.foldl_cons, List.foldl_cons, q, q2]
      exact h1
    · rw [List.foldl_cons, q2]
      exact h3
theorem blockZ {ls : List Nat} : ∀ (S : List Nat) (s : Codes × Nat × Nat), (∀ p ∈ S, lenAt ls p = 0) → S.foldl (stepA ls) s = s
  | [], _, _ => rfl
  | p :: r, s, h => by
    have q : stepA ls s p = s := if_pos (h p (List.mem_cons_self ..))
    rw [List.foldl_cons, q]
    exact blockZ r s fun x hx => h x (List.mem_cons_of_mem _ hx)
/-- the places in order: rising by length, those of one length in their own order -/
structure Sorted (ls S : List Nat) : Prop where
  up : Rising ls S
  same : ∀ l, atLen ls l S = atLen ls l (List.range ls.length)
  perm : S.Perm (List.range ls.length)
theorem upTo_zero {ls S : List Nat} : upTo ls 0 S = S := by
  unfold upTo
  rw [List.filter_eq_self]
  intro a _
  exact decide_eq_true (Nat.zero_le _)
/-- behind the parts of the lengths up to k -/
theorem parts {ls S : List Nat} (h : Sorted ls S) : ∀ k : Nat, ∃ T, S = T ++ upTo ls (k + 1) S ∧ ∃ c z, T.foldl (stepA ls) (empt ls, 0, 0) = ((runB ls k).1, c, z) ∧ z ≤ k ∧ c * 2 ^ (k - z) = (runB ls k).2
  | 0 => by
    refine ⟨atLen ls 0 S, ?_, 0, 0, ?_, Nat.le_refl 0, rfl⟩
    · have := part 0 h.up
      rw [upTo_zero] at this
      exact this
    · exact blockZ _ _ fun p hp => atLen_len p hp
  | k + 1 => by
    obtain ⟨T, e, c, z, h1, h2, h3⟩ := parts h k
    refine ⟨T ++ atLen ls (k + 1) S, ?_, ?_⟩
    · rw [List.append_assoc, ← part (k + 1) h.up]
      exact e
    · obtain ⟨c', z', g1, g2, g3⟩ := blockA (ls := ls) (Nat.succ_pos k) (atLen ls (k + 1) S) (runB ls k).1 c z (fun p hp => atLen_len p hp) (by omega)
      have eB : runB ls (k + 1) = (atLen ls (k + 1) S).foldl (stepB1 ls (k + 1)) ((runB ls k).1, c * 2 ^ (k + 1 - z)) := by
        have e0 : runB ls (k + 1) = stepB ls (runB ls k) (k + 1) := by
          unfold runB
          rw [List.range_succ, List.foldl_append]
          rfl
        rw [e0]
        show (List.range ls.length).foldl (stepB1 ls (k + 1)) ((runB ls k).1, (runB ls k).2 * 2) = _
        rw [foldB1, ← h.same (k + 1), ← h3]
        have e2 : k + 1 - z = (k - z) + 1 := by omega
        rw [e2, Nat.pow_succ, Nat.mul_assoc]
      rw [← eB] at g1 g3
      refine ⟨c', z', ?_, g2, g3⟩
      rw [List.foldl_append, h1]
      exact g1
theorem runA_eq {ls S : List Nat} (h : Sorted ls S) (hm : ∀ l ∈ ls, l ≤ 12) : (runA ls S).1 = canon ls := by
  obtain ⟨T, e, c, z, h1, _, _⟩ := parts h 12
  have e0 : upTo ls 13 S = [] := by
    unfold upTo
    rw [List.filter_eq_nil_iff]
    intro p _
    rw [decide_eq_true_eq]
    have : lenAt ls p ≤ 12 := by
      unfold lenAt
      rw [List.getD_eq_getElem?_getD]
      cases q : ls[p]? with
      | none => exact Nat.zero_le _
      | some l => exact hm l (List.mem_of_getElem? q)
    omega
  rw [e0, List.append_nil] at e
  unfold runA canon
  rw [e, h1]
/-! ### sorting gives such a list -/
theorem sorted_of {ls S : List Nat} (up : Rising ls S) (perm : S.Perm (List.range ls.length)) (st : ∀ T : List Nat, Rising ls T → T.Sublist (List.range ls.length) → T.Sublist S) : Sorted ls S := by
  refine ⟨up, fun l => ?_, perm⟩
  have h1 : Rising ls (atLen ls l (List.range ls.length)) := by
    refine List.pairwise_iff_forall_sublist.mpr ?_
    intro a b hs
    have ha := atLen_len a (hs.subset (by simp))
    have hb := atLen_len b (hs.subset (by simp))
    omega
  have h2 := st _ h1 (List.filter_sublist (p := fun p => lenAt ls p == l))
  have h3 : (atLen ls l (List.range ls.length)).Sublist (atLen ls l S) := by
    have := h2.filter (fun p => lenAt ls p == l)
    rw [List.filter_eq_self.mpr (fun p hp => by rw [beq_iff_eq]; exact atLen_len p hp)] at this
    exact this
  have h4 : (atLen ls l S).length = (atLen ls l (List.range ls.length)).length := (perm.filter _).length_eq
  exact (h3.eq_of_length h4.symm).symm
/-! ### Kraft: the codes fit their lengths, none is told twice -/
def wt (l : Nat) : Nat := if l = 0 then 0 else 2 ^ (12 - l)
def kraft (ls : List Nat) : Nat := (ls.map wt).sum
structure InvA (ls done : List Nat) (s : Codes × Nat × Nat) : Prop where
  len : s.1.length = ls.length
  z12 : s.2.2 ≤ 12
  sum : s.2.1 * 2 ^ (12 - s.2.2) = (done.map fun p => wt (lenAt ls p)).sum
  zAt : s.2.2 = 0 ∨ ∃ q ∈ done, lenAt ls q = s.2.2
  ent : ∀ p c l : Nat, s.1[p]? = some (some (c, l)) → p ∈ done ∧ l = lenAt ls p ∧ 1 ≤ l ∧ l ≤ s.2.2 ∧ c + 1 ≤ 2 ^ l ∧ (l = s.2.2 → c < s.2.1)
  uniq : Uniq s.1
  all : ∀ p ∈ done, lenAt ls p ≠ 0 → ∃ c, s.1[p]? = some (some (c, lenAt ls p))
theorem invA_nil (ls : List Nat) : InvA ls [] (empt ls, 0, 0) := by
  have no : ∀ (p : Nat) (x : Nat × Nat), (empt ls)[p]? ≠ some (some x) := fun p x e => by
    unfold empt at e
    rw [List.getElem?_replicate] at e
    split at e
    · cases Option.some.inj e
    · cases e
  exact ⟨List.length_replicate, Nat.zero_le _, Nat.zero_mul _, .inl rfl, fun p c l e => absurd e (no p _), fun p q x e _ => absurd e (no p x), fun p hp => absurd hp List.not_mem_nil⟩
theorem invA_step {ls done : List Nat} {s : Codes × Nat × Nat} {p : Nat} (I : InvA ls done s) (hp : p < ls.length) (hn : p ∉ done) (up : ∀ q ∈ done, lenAt ls q ≤ lenAt ls p) (h12 : lenAt ls p ≤ 12)
    (room : (done.map fun p => wt (lenAt ls p)).sum + wt (lenAt ls p) ≤ 4096) : InvA ls (done ++ [p]) (stepA ls s p) := by
  obtain ⟨f, c, z⟩ := s
  have hsum : ((done ++ [p]).map fun p => wt (lenAt ls p)).sum = (done.map fun p => wt (lenAt ls p)).sum + wt (lenAt ls p) := by
    rw [List.map_append, List.sum_append, List.map_singleton, List.sum_singleton]
  by_cases h0 : lenAt ls p = 0
  · have q : stepA ls (f, c, z) p = (f, c, z) := if_pos h0
    rw [q]
    refine ⟨I.len, I.z12, ?_, ?_, fun p' c' l' e => ?_, I.uniq, fun p' hp' hl => ?_⟩
    · rw [hsum, h0]
      exact I.sum
    · rcases I.zAt with h | ⟨q, hq, e⟩
      · exact .inl h
      · exact .inr ⟨q, List.mem_append_left _ hq, e⟩
    · obtain ⟨a, b⟩ := I.ent p' c' l' e
      exact ⟨List.mem_append_left _ a, b⟩
    · rcases List.mem_append.mp hp' with h | h
      · exact I.all p' h hl
      · rw [List.mem_singleton.mp h] at hl
        exact absurd h0 hl
  · have q : stepA ls (f, c, z) p = (f.set p (some (c * 2 ^ (lenAt ls p - z), lenAt ls p)), c * 2 ^ (lenAt ls p - z) + 1, lenAt ls p) := if_neg h0
    have hz : z ≤ lenAt ls p := by
      rcases I.zAt with h | ⟨q, hq, e⟩
      · have h : z = 0 := h
        omega
      · have e : lenAt ls q = z := e
        rw [← e]
        exact up q hq
    have hz12 : z ≤ 12 := I.z12
    have e1 : c * 2 ^ (lenAt ls p - z) * 2 ^ (12 - lenAt ls p) = (done.map fun p => wt (lenAt ls p)).sum := by
      rw [Nat.mul_assoc, ← Nat.pow_add]
      have : lenAt ls p - z + (12 - lenAt ls p) = 12 - z := by omega
      rw [this]
      exact I.sum
    have ew : wt (lenAt ls p) = 2 ^ (12 - lenAt ls p) := if_neg h0
    have fit : c * 2 ^ (lenAt ls p - z) + 1 ≤ 2 ^ lenAt ls p := by
      rw [← e1, ew] at room
      have e2 : c * 2 ^ (lenAt ls p - z) * 2 ^ (12 - lenAt ls p) + 2 ^ (12 - lenAt ls p) = (c * 2 ^ (lenAt ls p - z) + 1) * 2 ^ (12 - lenAt ls p) := by rw [Nat.add_mul, Nat.one_mul]
      have e3 : (4096 : Nat) = 2 ^ lenAt ls p * 2 ^ (12 - lenAt ls p) := by
        rw [← Nat.pow_add]
        have : lenAt ls p + (12 - lenAt ls p) = 12 := by omega
        rw [this]
      rw [e2, e3] at room
      exact Nat.le_of_mul_le_mul_right room (Nat.two_pow_pos _)
    rw [q]
    have hlen : p < f.length := by
      have := I.len
      rw [show f.length = ls.length from this]
      exact hp
    have old : ∀ (p' : Nat) (x : Nat × Nat), p' ≠ p → (f.set p (some (c * 2 ^ (lenAt ls p - z), lenAt ls p)))[p']? = some (some x) → f[p']? = some (some x) := fun p' x hne e => by
      rw [List.getElem?_set_ne (fun h => hne h.symm)] at e
      exact e
    have new : ∀ x : Nat × Nat, (f.set p (some (c * 2 ^ (lenAt ls p - z), lenAt ls p)))[p]? = some (some x) → x = (c * 2 ^ (lenAt ls p - z), lenAt ls p) := fun x e => by
      rw [List.getElem?_set_self hlen] at e
      exact (Option.some.inj (Option.some.inj e)).symm
    have apart : ∀ (p' c' l' : Nat), f[p']? = some (some (c', l')) → (c', l') ≠ (c * 2 ^ (lenAt ls p - z), lenAt ls p) := fun p' c' l' e z1 => by
      obtain ⟨_, _, _, h4, _, h6⟩ := I.ent p' c' l' e
      obtain ⟨z2, z3⟩ := Prod.mk.inj z1
      have h4 : l' ≤ z := h4
      have hzz : l' = z := by omega
      have h6 := h6 hzz
      have h6 : c' < c := h6
      rw [z2] at h6
      have : lenAt ls p - z = 0 := by omega
      rw [this, Nat.pow_zero, Nat.mul_one] at h6
      exact Nat.lt_irrefl _ h6
    refine ⟨by rw [List.length_set]; exact I.len, h12, ?_, .inr ⟨p, by simp, rfl⟩, fun p' c' l' e => ?_, fun p' q' x e1 e2 => ?_, fun p' hp' hl => ?_⟩
    · rw [hsum, ew, ← e1]
      show (c * 2 ^ (lenAt ls p - z) + 1) * 2 ^ (12 - lenAt ls p) = _
      rw [Nat.add_mul, Nat.one_mul]
    · by_cases hpp : p' = p
      · subst hpp
        obtain ⟨z2, z3⟩ := Prod.mk.inj (new _ e)
        subst z2 z3
        exact ⟨by simp, rfl, by omega, Nat.le_refl _, fit, fun _ => Nat.lt_succ_self _⟩
      · obtain ⟨h1, h2, h3, h4, h5, h6⟩ := I.ent p' c' l' (old p' _ hpp e)
        refine ⟨List.mem_append_left _ h1, h2, h3, Nat.le_trans h4 hz, h5, fun hl => ?_⟩
        have h4 : l' ≤ z := h4
        have hl : l' = lenAt ls p := hl
        have h6 : c' < c := h6 (by show l' = z; omega)
        show c' < c * 2 ^ (lenAt ls p - z) + 1
        have : lenAt ls p - z = 0 := by omega
        rw [this, Nat.pow_zero, Nat.mul_one]
        omega
    · by_cases h1 : p' = p <;> by_cases h2 : q' = p
      · rw [h1, h2]
      · rw [h1] at e1
        have e3 := old q' x h2 e2
        rw [new x e1] at e3
        exact absurd rfl (apart q' _ _ e3)
      · rw [h2] at e2
        have e3 := old p' x h1 e1
        rw [new x e2] at e3
        exact absurd rfl (apart p' _ _ e3)
      · exact I.uniq p' q' x (old p' x h1 e1) (old q' x h2 e2)
    · by_cases hpp : p' = p
      · rw [hpp]
        exact ⟨_, List.getElem?_set_self hlen⟩
      · rcases List.mem_append.mp hp' with h | h
        · obtain ⟨c', e⟩ := I.all p' h hl
          refine ⟨c', ?_⟩
          show (f.set p (some (c * 2 ^ (lenAt ls p - z), lenAt ls p)))[p']? = _
          rw [List.getElem?_set_ne (fun h => hpp h.symm)]
          exact e
        · exact absurd (List.mem_singleton.mp h) hpp
theorem lenAt_le {ls : List Nat} (hm : ∀ l ∈ ls, l ≤ 12) (p : Nat) : lenAt ls p ≤ 12 := by
  unfold lenAt
  rw [List.getD_eq_getElem?_getD]
  cases q : ls[p]? with
  | none => exact Nat.zero_le _
  | some l => exact hm l (List.mem_of_getElem? q)
theorem sum_range {ls : List Nat} : ((List.range ls.length).map fun p => wt (lenAt ls p)).sum = kraft ls := by
  have e : (List.range ls.length).map (fun p => wt (lenAt ls p)) = ls.map wt := by
    apply List.ext_getElem?
    intro i
    rw [List.getElem?_map, List.getElem?_map]
    by_cases h : i < ls.length
    · rw [List.getElem?_range h, List.getElem?_eq_getElem h]
      show some (wt (ls.getD i 0)) = some (wt ls[i])
      rw [List.getD_eq_getElem?_getD, List.getElem?_eq_getElem h]
      rfl
    · rw [List.getElem?_eq_none (by rw [List.length_range]; omega), List.getElem?_eq_none (by omega)]
      rfl
  rw [e]
  rfl
theorem sum_take_le : ∀ (l : List Nat) (i : Nat), (l.take i).sum ≤ l.sum
  | [], i => by rw [List.take_nil]; exact Nat.le_refl _
  | a :: r, 0 => Nat.zero_le _
  | a :: r, i + 1 => by
    rw [List.take_succ_cons, List.sum_cons, List.sum_cons]
    exact Nat.add_le_add_left (sum_take_le r i) a
/-- behind i turns over the sorted places -/
theorem invA_at {ls S : List Nat} (h : Sorted ls S) (hm : ∀ l ∈ ls, l ≤ 12) (hk : kraft ls ≤ 4096) : ∀ i ≤ S.length, InvA ls (S.take i) ((S.take i).foldl (stepA ls) (empt ls, 0, 0))
  | 0, _ => invA_nil ls
  | i + 1, hi => by
    have I := invA_at h hm hk i (by omega)
    have hi' : i < S.length := hi
    have e : S.take (i + 1) = S.take i ++ [S[i]] := by rw [List.take_add_one, List.getElem?_eq_getElem hi']; rfl
    have nd : S.Nodup := h.perm.nodup_iff.mpr List.nodup_range
    have hx : S[i] < ls.length := List.mem_range.mp (h.perm.mem_iff.mp (List.getElem_mem hi'))
    have nd2 : (S.take i ++ [S[i]]).Nodup := by
      rw [← e]
      exact nd.sublist (List.take_sublist _ _)
    have up2 : Rising ls (S.take i ++ [S[i]]) := by
      rw [← e]
      exact h.up.sublist (List.take_sublist _ _)
    rw [e, List.foldl_append]
    refine invA_step I hx ?_ ?_ (lenAt_le hm _) ?_
    · intro hm
      exact (List.nodup_append.mp nd2).2.2 _ hm _ (List.mem_singleton.mpr rfl) rfl
    · intro q hq
      exact (List.pairwise_append.mp up2).2.2 q hq _ (List.mem_singleton.mpr rfl)
    · have e2 : ((S.take i).map fun p => wt (lenAt ls p)).sum + wt (lenAt ls S[i]) = ((S.map fun p => wt (lenAt ls p)).take (i + 1)).sum := by
        rw [← List.map_take, e, List.map_append, List.sum_append, List.map_singleton, List.sum_singleton]
      rw [e2]
      refine Nat.le_trans (sum_take_le _ _) ?_
      rw [(h.perm.map _).sum_nat, sum_range]
      exact hk
/-- what the codes are -/
structure Good (ls : List Nat) (fs : Codes) : Prop where
  len : fs.length = ls.length
  ent : ∀ p c l : Nat, fs[p]? = some (some (c, l)) → l = lenAt ls p ∧ 1 ≤ l ∧ l ≤ 12 ∧ c < 2 ^ l
  uniq : Uniq fs
  all : ∀ p, lenAt ls p ≠ 0 → ∃ c, fs[p]? = some (some (c, lenAt ls p))
theorem good_canon {ls S : List Nat} (h : Sorted ls S) (hm : ∀ l ∈ ls, l ≤ 12) (hk : kraft ls ≤ 4096) : Good ls (canon ls) := by
  have I := invA_at h hm hk S.length (Nat.le_refl _)
  rw [List.take_length] at I
  have e : (S.foldl (stepA ls) (empt ls, 0, 0)).1 = canon ls := runA_eq h hm
  refine ⟨by rw [← e]; exact I.len, fun p c l q => ?_, by rw [← e]; exact I.uniq, fun p hp => ?_⟩
  · rw [← e] at q
    obtain ⟨_, h2, h3, h4, h5, _⟩ := I.ent p c l q
    exact ⟨h2, h3, Nat.le_trans h4 I.z12, h5⟩
  · rw [← e]
    refine I.all p (h.perm.mem_iff.mpr (List.mem_range.mpr ?_)) hp
    apply Classical.byContradiction
    intro hn
    apply hp
    unfold lenAt
    rw [List.getD_eq_getElem?_getD, List.getElem?_eq_none (by omega)]
    rfl
end Bale
set_option autoImplicit true
set_option autoImplicit false
/-! Plain mathematics: lengths that fit are made one by one. -/
namespace Bale
/-- the weight of a length below a greatest one -/
def wtm (m l : Nat) : Nat := if l = 0 then 0 else 2 ^ (m - l)
theorem wt_wtm {m l : Nat} (hm : m ≤ 12) (hl : l ≤ m) : wt l = wtm m l * 2 ^ (12 - m) := by
  unfold wt wtm
  by_cases h : l = 0
  · rw [if_pos h, if_pos h, Nat.zero_mul]
  · rw [if_neg h, if_neg h, ← Nat.pow_add]
    have : m - l + (12 - m) = 12 - l := by omega
    rw [this]
theorem sum_scaled {m : Nat} (hm : m ≤ 12) : ∀ {ls : List Nat}, (∀ l ∈ ls, l ≤ m) → kraft ls = (ls.map (wtm m)).sum * 2 ^ (12 - m)
  | [], _ => (Nat.zero_mul _).symm
  | l :: r, h => by
    have ih := sum_scaled hm (ls := r) fun x hx => h x (List.mem_cons_of_mem _ hx)
    unfold kraft at ih ⊢
    rw [List.map_cons, List.map_cons, List.sum_cons, List.sum_cons, ih, wt_wtm hm (h l (List.mem_cons_self ..)), Nat.add_mul]
/-- lengths so far, and the room that is left -/
structure Fits (m : Nat) (ls : List Nat) (room : Nat) : Prop where
  le : ∀ l ∈ ls, l ≤ m
  sum : (ls.map (wtm m)).sum + room = 2 ^ m
theorem Fits.nil (m : Nat) : Fits m [] (2 ^ m) := ⟨fun l h => absurd h List.not_mem_nil, Nat.zero_add _⟩
theorem Fits.zero {m room : Nat} {ls : List Nat} (F : Fits m ls room) : Fits m (ls ++ [0]) room := by
  refine ⟨fun l h => ?_, ?_⟩
  · rcases List.mem_append.mp h with h | h
    · exact F.le l h
    · rw [List.mem_singleton.mp h]
      exact Nat.zero_le _
  · rw [List.map_append, List.sum_append, List.map_singleton, List.sum_singleton]
    have : wtm m 0 = 0 := if_pos rfl
    rw [this, Nat.add_zero]
    exact F.sum
theorem Fits.one {m room l : Nat} {ls : List Nat} (F : Fits m ls room) (h0 : 0 < l) (hm : l ≤ m) (hr : 2 ^ (m - l) ≤ room) : Fits m (ls ++ [l]) (room - 2 ^ (m - l)) := by
  refine ⟨fun x h => ?_, ?_⟩
  · rcases List.mem_append.mp h with h | h
    · exact F.le x h
    · rw [List.mem_singleton.mp h]
      exact hm
  · rw [List.map_append, List.sum_append, List.map_singleton, List.sum_singleton]
    have : wtm m l = 2 ^ (m - l) := if_neg (by omega)
    rw [this]
    have := F.sum
    omega
theorem Fits.kraft {m room : Nat} {ls : List Nat} (F : Fits m ls room) (hm : m ≤ 12) : kraft ls ≤ 4096 := by
  rw [sum_scaled hm F.le]
  have h1 : (ls.map (wtm m)).sum ≤ 2 ^ m := by
    have := F.sum
    omega
  have h2 : (ls.map (wtm m)).sum * 2 ^ (12 - m) ≤ 2 ^ m * 2 ^ (12 - m) := Nat.mul_le_mul_right _ h1
  rw [← Nat.pow_add] at h2
  have : m + (12 - m) = 12 := by omega
  rw [this] at h2
  exact h2
theorem kraft_zeros : ∀ {ls : List Nat}, (∀ l ∈ ls, l = 0) → kraft ls = 0
  | [], _ => rfl
  | l :: r, h => by
    have ih := kraft_zeros (ls := r) fun x hx => h x (List.mem_cons_of_mem _ hx)
    unfold kraft at ih ⊢
    rw [List.map_cons, List.sum_cons, ih, h l (List.mem_cons_self ..)]
    rfl
theorem kraft_set : ∀ {ls : List Nat} {i l : Nat}, (∀ x ∈ ls, x = 0) → kraft (ls.set i l) ≤ wt l
  | [], _, _, _ => Nat.zero_le _
  | a :: r, 0, l, h => by
    show kraft (l :: r) ≤ wt l
    have ih := kraft_zeros (ls := r) fun x hx => h x (List.mem_cons_of_mem _ hx)
    unfold kraft at ih ⊢
    rw [List.map_cons, List.sum_cons, ih]
    exact Nat.le_refl _
  | a :: r, i + 1, l, h => by
    show kraft (a :: r.set i l) ≤ wt l
    have ih := kraft_set (ls := r) (i := i) (l := l) fun x hx => h x (List.mem_cons_of_mem _ hx)
    have ha := h a (List.mem_cons_self ..)
    unfold kraft at ih ⊢
    rw [List.map_cons, List.sum_cons, ha]
    have : wt 0 = 0 := rfl
    rw [this, Nat.zero_add]
    exact ih
theorem wt_le (l : Nat) : wt l ≤ 4096 := by
  unfold wt
  split
  · exact Nat.zero_le _
  · have : 2 ^ (12 - l) ≤ 2 ^ 12 := Nat.pow_le_pow_right (by decide) (Nat.sub_le _ _)
    exact this
theorem kraft_pos {ls : List Nat} {l : Nat} (hm : l ∈ ls) (h0 : 0 < l) : 0 < kraft ls := by
  unfold kraft
  have h1 : 0 < wt l := by
    unfold wt
    rw [if_neg (by omega)]
    exact Nat.two_pow_pos _
  have h2 : wt l ∈ ls.map wt := List.mem_map_of_mem hm
  have : ∀ {q : List Nat} {x : Nat}, x ∈ q → x ≤ q.sum := by
    intro q
    induction q with
    | nil => intro x h; exact absurd h List.not_mem_nil
    | cons a r ih =>
      intro x h
      rw [List.sum_cons]
      rcases List.mem_cons.mp h with h | h
      · omega
      · have := ih h
        omega
  exact Nat.lt_of_lt_of_le h1 (this h2)
/-- what the law's lengths are -/
structure Lens (ls : List Nat) : Prop where
  le : ∀ l ∈ ls, l ≤ 12
  k : kraft ls ≤ 4096
  some : ∃ l ∈ ls, 0 < l
  n0 : 0 < ls.length
  n300 : ls.length ≤ 300
end Bale
set_option autoImplicit true
set_option autoImplicit false
/-! Plain mathematics: one step of the sorted walk; where the readers stop. -/
namespace Bale
theorem step_ok {ls S : List Nat} (h : Sorted ls S) (hm : ∀ l ∈ ls, l ≤ 12) (hk : kraft ls ≤ 4096) {i p : Nat} (hp : S[i]? = some p) :
    ((S.take i).foldl (stepA ls) (empt ls, 0, 0)).1.length = ls.length ∧ ((S.take i).foldl (stepA ls) (empt ls, 0, 0)).2.1 ≤ 4096 ∧ ((S.take i).foldl (stepA ls) (empt ls, 0, 0)).2.2 ≤ lenAt ls p ∧ p < ls.length ∧
      (S.take (i + 1)).foldl (stepA ls) (empt ls, 0, 0) = stepA ls ((S.take i).foldl (stepA ls) (empt ls, 0, 0)) p := by
  obtain ⟨hi, e⟩ := List.getElem?_eq_some_iff.mp hp
  have et : S.take (i + 1) = S.take i ++ [p] := by rw [List.take_add_one, hp]; rfl
  have I := invA_at h hm hk i (Nat.le_of_lt hi)
  refine ⟨I.len, ?_, ?_, List.mem_range.mp (h.perm.mem_iff.mp (List.mem_of_getElem? hp)), by rw [et, List.foldl_append]; rfl⟩
  · have h1 : ((S.take i).map fun p => wt (lenAt ls p)).sum ≤ 4096 := by
      rw [List.map_take]
      refine Nat.le_trans (sum_take_le _ _) ?_
      rw [(h.perm.map _).sum_nat, sum_range]
      exact hk
    rw [← I.sum] at h1
    exact Nat.le_trans (Nat.le_mul_of_pos_right _ (Nat.two_pow_pos _)) h1
  · rcases I.zAt with q | ⟨q, hq, e2⟩
    · rw [q]
      exact Nat.zero_le _
    · rw [← e2]
      have up2 : Rising ls (S.take i ++ [p]) := by
        rw [← et]
        exact h.up.sublist (List.take_sublist _ _)
      exact (List.pairwise_append.mp up2).2.2 q hq _ (List.mem_singleton.mpr rfl)
end Bale
set_option autoImplicit true
set_option Elab.async false
set_option linter.all false
set_option maxRecDepth 100000
set_option maxHeartbeats 4000000
namespace Bale
open PySem PySem.Spec PyProof.Rows L2
def top (i : Nat) : Stmt := PySem.Challenge.pw_balepress_k10_codes_read.main.body.getD i (.Pass ⟨0, 0, 0, 0⟩)
/-- a def of the text, as the head tells it -/
abbrev FnP (K : PySem.W.Frag) (x q : Str) (st : Stmt) (f : Addr) (fd : FuncData) : Prop := FunD K x q (defArgs st) (defBody st) (defScope st) [] [] f fd
/-! ### defs with their promises -/
section
variable {P : Program} {w : World} {K : PySem.W.Frag} {mg : Str → Option Value} {base : Heap}
/-- a def that a name of the module calls -/
structure Cal (P : Program) (w : World) (K : PySem.W.Frag) (mg : Str → Option Value) (base : Heap) (k : Nat) (x : Str) (sp : Sp) : Prop where
  ex : ∃ (f : Addr) (fd : FuncData) (ps : List Str), FnOk P w K mg base CX0 k f fd ps sp ∧ mg x = some (.ref f) ∧ PySem.W.keepIn K (.ref f) = true ∧ Binds K fd ps []
/-- a method -/
structure Met (P : Program) (w : World) (K : PySem.W.Frag) (mg : Str → Option Value) (base : Heap) (k : Nat) (C : Addr) (m : Str) (sp : Sp) : Prop where
  ex : ∃ (f : Addr) (fd : FuncData) (ps : List Str), Cls K C ∧ Meth K C m f ∧ FnOk P w K mg base CX0 k f fd ps sp ∧ Binds K fd ps []
/-- a class by its __init__ -/
structure Mak (P : Program) (w : World) (K : PySem.W.Frag) (mg : Str → Option Value) (base : Heap) (k : Nat) (x : Str) (C : Addr) (sp : Sp) : Prop where
  ex : ∃ (f : Addr) (fd : FuncData) (ps : List Str), Mk K C f ∧ FnOk P w K mg base CX0 k f fd ps sp ∧ mg x = some (.ref C) ∧ Binds K fd ps []
/-- a def that raises nothing, from its body -/
theorem fnp_ok {x q : Str} {st : Stmt} {f : Addr} {fd : FuncData} {N ps : List Str} {k : Nat} {sp : Sp} (F : FnP K x q st f fd) (S : FnScope N ps (defScope st)) (len : ∀ vs H Q E, sp vs H Q E → vs.length = ps.length)
    (hb : ∀ (cdv : Value) (A : Around) (outer : List Env) (s : Shared) (H : Hp) (vs : List V) (Q : VK) (E : XK), Room k (A.deeper (envOfC q (defScope st) s.heap.objs.size f cdv)) → sp vs H Q E →
      ∃ t, PSs (cxOf CX0 P w K mg base N q (defScope st) f cdv A outer s H E).nox (defBody st) t ∧ t { nx := fun _ H' => Q .non H', rt := Q } (start N vs) H) : FnOk P w K mg base CX0 (k + 1) f fd ps sp :=
  F.ok S len fun cdv A outer s H vs Q E hr h => by
    obtain ⟨t, h1, h2⟩ := hb cdv A outer s H vs Q E hr h
    exact ⟨t, h1.nox, h2⟩
end
section
variable {X : Cx} {k j : Nat} {C : Addr} {x m : Str} {sp : Sp} {p pos apos : Pos} {e o : Expr} {es : List Expr} {ta : TE} {t : TA}
theorem pe_f (c : Cal X.prog X.w X.K X.mg X.base k x sp) (hr : Room j X.A) (hk : k ≤ j) (hg : Gl X x) (ha : PA X (e :: es) t) (hdb : (x == ("__debug__" : Str)) = false := by decide)
    (he : starEach (e :: es) X.env = (false, eval e X.env) :: starEach es X.env := by rfl) (hpl : (backTo pos (starEach es X.env)).any (·.1) = false := by rfl) :
    PE X (.Call (.Name x p) (e :: es) [] pos) (tCall sp [] E0 t) := by
  obtain ⟨f, fd, ps, F, hm, kp, b⟩ := c.ex
  exact pe_call F (hr.mono hk) hg hm kp b .nil pass0 ha hdb he hpl
theorem pe_new (c : Mak X.prog X.w X.K X.mg X.base k x C sp) (hr : Room j X.A) (hk : k + 1 ≤ j) (hg : Gl X x) (ha : PA X (e :: es) t) (hdb : (x == ("__debug__" : Str)) = false := by decide)
    (he : starEach (e :: es) X.env = (false, eval e X.env) :: starEach es X.env := by rfl) (hpl : (backTo pos (starEach es X.env)).any (·.1) = false := by rfl) :
    PE X (.Call (.Name x p) (e :: es) [] pos) (tMake C sp [] E0 t) := by
  obtain ⟨f, fd, ps, M, F, hm, b⟩ := c.ex
  exact pe_make M F (hr.mono hk) hg hm b .nil pass0 ha hdb he hpl
theorem pe_new0 (c : Mak X.prog X.w X.K X.mg X.base k x C sp) (hr : Room j X.A) (hk : k + 1 ≤ j) (hg : Gl X x) (hdb : (x == ("__debug__" : Str)) = false := by decide) :
    PE X (.Call (.Name x p) [] [] pos) (tMake C sp [] E0 tNil) := by
  obtain ⟨f, fd, ps, M, F, hm, b⟩ := c.ex
  exact pe_make0 M F (hr.mono hk) hg hm b .nil pass0 hdb
theorem pe_m {pl : Sem Bool} (c : Met X.prog X.w X.K X.mg X.base k C m sp) (hr : Room j X.A) (hk : k ≤ j) (he : PE X o ta) (ha : PA X (e :: es) t)
    (hst : starEach (e :: es) X.env = (false, eval e X.env) :: starEach es X.env := by rfl) (hpl : (backTo pos (starEach es X.env)).any (·.1) = false := by rfl)
    (ht : eval (.Call (.Attribute o m apos) (e :: es) [] pos) X.env = (eval o X.env >>= fun ov => standAt apos.atName >>= fun _ => holding [ov] (getMethod ov m pl) >>= fun fp => callWith pos fp.1 fp.2 (backTo pos (starEach (e :: es) X.env)) (backToKw pos (keywordEach [] X.env))) := by rfl) :
    PE X (.Call (.Attribute o m apos) (e :: es) [] pos) (tMeth C m sp [] E0 ta t) := by
  obtain ⟨f, fd, ps, hc, hm, F, b⟩ := c.ex
  exact pe_meth (pl := pl) he hc hm F (hr.mono hk) b .nil pass0 ha hst hpl ht
theorem pe_m0 {pl : Sem Bool} (c : Met X.prog X.w X.K X.mg X.base k C m sp) (hr : Room j X.A) (hk : k ≤ j) (he : PE X o ta)
    (ht : eval (.Call (.Attribute o m apos) [] [] pos) X.env = (eval o X.env >>= fun ov => standAt apos.atName >>= fun _ => holding [ov] (getMethod ov m pl) >>= fun fp => callWith pos fp.1 fp.2 (backTo pos (starEach [] X.env)) (backToKw pos (keywordEach [] X.env))) := by rfl) :
    PE X (.Call (.Attribute o m apos) [] [] pos) (tMeth C m sp [] E0 ta tNil) := by
  obtain ⟨f, fd, ps, hc, hm, F, b⟩ := c.ex
  exact pe_meth0 (pl := pl) he hc hm F (hr.mono hk) b .nil pass0 ht
end
/-! ### the classes and what the top has left -/
abbrev cCR (K : PySem.W.Frag) : Addr := He.ga K "CodeReader"
abbrev cBW (K : PySem.W.Frag) : Addr := He.ga K "BitRow"
abbrev cBR (K : PySem.W.Frag) : Addr := He.ga K "BitReader"
abbrev cBad (K : PySem.W.Frag) : Addr := He.ga K "BadCode"
abbrev cNo (K : PySem.W.Frag) : Addr := He.ga K "NoBits"
abbrev cPE (K : PySem.W.Frag) : Addr := He.ga K "PressError"
/-- built-in names that stand, constants -/
structure Tx (mg : Str → Option Value) : Prop where
  isi : mg "isinstance" = none
  len : mg "len" = none
  int : mg "int" = none
  bool : mg "bool" = none
  list : mg "list" = none
  tuple : mg "tuple" = none
  str : mg "str" = none
  sorted : mg "sorted" = none
  range : mg "range" = none
  enum : mg "enumerate" = none
  all : mg "all" = none
  divmod : mg "divmod" = none
  things : ∃ t, mg "MOST_THINGS" = some (.int 300 t)
  length : ∃ t, mg "MOST_LENGTH" = some (.int 12 t)
  byte : ∃ t, mg "BYTE" = some (.int 8 t)
  mbyte : ∃ t, mg "MOST_BYTE" = some (.int 255 t)
  msize : ∃ t, mg "MOST_SIZE" = some (.int 24 t)
theorem pe_gi {X : Cx} {x : Str} {i : Int} {t : Tok} {pos : Pos} (hg : Gl X x) (hm : X.mg x = some (.int i t)) (hd : (x == ("__debug__" : Str)) = false := by decide) : PE X (.Name x pos) (tC (.int i)) := pe_glob hg hm ⟨t, rfl⟩ hd
/-- a truth value that is known -/
theorem blT {c : Prop} [Decidable c] {R : V → Prop} (hc : c) (h : R (.bl true)) : R (.bl (decide c)) := by
  rw [decide_eq_true hc]
  exact h
theorem blF {c : Prop} [Decidable c] {R : V → Prop} (hc : ¬ c) (h : R (.bl false)) : R (.bl (decide c)) := by
  rw [decide_eq_false hc]
  exact h
/-! ### fields by name -/
theorem lk1 {a : Str} {v : V} {r : List (Str × V)} : List.lookup a ((a, v) :: r) = some v := by
  have e : (a == a) = true := beq_self_eq_true a
  simp only [List.lookup, e]
theorem lk2 {k g : Str} {v : V} {r : List (Str × V)} (h : (k == g) = false) : List.lookup k ((g, v) :: r) = List.lookup k r := by
  simp only [List.lookup, h]
theorem pt1 {f : Str} {v x : V} {r : List (Str × V)} : putF f v ((f, x) :: r) = (f, v) :: r := if_pos rfl
theorem pt2 {f g : Str} {v x : V} {r : List (Str × V)} (h : ¬ g = f) : putF f v ((g, x) :: r) = (g, x) :: putF f v r := if_neg h
end Bale
namespace Bale
open PySem PySem.Spec PyProof.Rows L2
/-! ### tests with a known answer, numbers -/
theorem ifT {c A B : Prop} [Decidable c] (hc : c) (h : A) : if decide c = true then A else B := by
  rw [decide_eq_true hc]
  exact iteT h
theorem ifF {c A B : Prop} [Decidable c] (hc : ¬ c) (h : B) : if decide c = true then A else B := by
  rw [decide_eq_false hc]
  exact iteF h
theorem ifN {c A B : Prop} [Decidable c] (hc : c) (h : B) : if (!decide c) = true then A else B := by
  rw [decide_eq_true hc]
  exact iteF h
abbrev nV (n : Nat) : V := .int (n : Int)
theorem small64 {n : Nat} (h : n < 2 ^ 64) : ((n : Int)).natAbs < 2 ^ 64 := by
  rw [Int.natAbs_natCast]
  exact h
theorem pow_cast (s : Nat) : ((2 : Int) ^ s) = ((2 ^ s : Nat) : Int) := by
  rw [Int.natCast_pow]
  rfl
theorem shl_cast (p s : Nat) : (p : Int) * 2 ^ s = ((p * 2 ^ s : Nat) : Int) := by
  rw [Int.natCast_mul, pow_cast]
theorem shr_cast (p s : Nat) : (p : Int) / 2 ^ s = ((p / 2 ^ s : Nat) : Int) := by
  rw [Int.natCast_ediv, pow_cast]
theorem or_cast {p s n : Nat} (h : n < 2 ^ s) : Builtin.bitOr ((p : Int) * 2 ^ s) (n : Int) = ((p * 2 ^ s + n : Nat) : Int) := by
  have h1 : (n : Int) < 2 ^ s := by
    rw [pow_cast]
    exact Int.ofNat_lt.mpr h
  rw [Bits.bitOr_join' (Int.natCast_nonneg n) h1 (Int.natCast_nonneg p), shl_cast]
  omega
theorem and_cast (p s : Nat) : Builtin.bitAnd (p : Int) ((1 : Int) * 2 ^ s - 1) = ((p % 2 ^ s : Nat) : Int) := by
  rw [Int.one_mul, Bits.bitAnd_mask s (Int.natCast_nonneg p), pow_cast, Int.natCast_emod]
/-- a new object apart from what stood -/
theorem _root_.L2.Same.new {H0 H : Hp} {p : Addr} {o : HO} (s : Same H0 H) (h : H p = Option.none) : Same H0 (upd H p o) := fun b u e => by
  rw [upd_ne (ne_of_none (s _ _ e) h)]
  exact s _ _ e
/-- a store to what was made since -/
theorem _root_.L2.Same.put {H0 H : Hp} {p : Addr} {o : HO} (s : Same H0 H) (h : H0 p = Option.none) : Same H0 (upd H p o) := fun b u e => by
  rw [upd_ne (ne_of_none e h)]
  exact s _ _ e
theorem getElem_map_some {α β : Type} {l : List α} {f : α → β} {i : Nat} {y : β} (h : (l.map f)[i]? = some y) : ∃ x, l[i]? = some x ∧ y = f x := by
  rw [List.getElem?_map] at h
  cases e : l[i]? with
  | none =>
    rw [e] at h
    cases h
  | some x =>
    rw [e] at h
    exact ⟨x, rfl, (Option.some.inj h).symm⟩
/-! ### operators on numbers from 0 on -/
theorem opImp {X : Cx} {f : Value → Value → Sem Value} {r r' : R2} (h : OpR X f r) (hi : ∀ x y H Q, r' x y H Q → r x y H Q) : OpR X f r' :=
  fun pins s σ H x y u v Q I rx ry q => h pins s σ H x y u v Q I rx ry (hi _ _ _ _ q)
def rN (C : Nat → Nat → Prop) (g : Nat → Nat → V) : R2 := fun x y H Q => ∃ a b : Nat, x = nV a ∧ y = nV b ∧ C a b ∧ Q (g a b) H
def rN0 (g : Nat → Nat → V) : R2 := fun x y H Q => ∃ a b : Nat, x = nV a ∧ y = nV b ∧ Q (g a b) H
/-- the same value, said otherwise -/
theorem qv {Q : VK} {v w : V} {H : Hp} (e : v = w) (q : Q w H) : Q v H := by
  rw [e]
  exact q
theorem nV_eq {a b : Nat} : nV a = nV b ↔ a = b := ⟨fun h => by have := V.int.inj h; omega, fun h => by rw [h]⟩
section
variable {X : Cx}
theorem n_add : OpR X (binaryOp .Add) (rN0 fun a b => nV (a + b)) := opImp op_add fun x y H Q ⟨a, b, e1, e2, q⟩ => ⟨a, b, e1, e2, qv (congrArg V.int (Int.natCast_add a b).symm) q⟩
theorem n_sub : OpR X (binaryOp .Sub) (rN (fun a b => b ≤ a) fun a b => nV (a - b)) := opImp op_sub fun x y H Q ⟨a, b, e1, e2, c, q⟩ => ⟨a, b, e1, e2, qv (congrArg V.int (Int.natCast_sub c).symm) q⟩
theorem n_mul : OpR X (binaryOp .Mult) (rN (fun a b => a < 2 ^ 64 ∨ b < 2 ^ 64) fun a b => nV (a * b)) := opImp op_mul fun x y H Q ⟨a, b, e1, e2, c, q⟩ => by
  refine ⟨a, b, e1, e2, ?_, qv (congrArg V.int (Int.natCast_mul a b).symm) q⟩
  rcases c with c | c
  · exact .inl ⟨by omega, by omega⟩
  · exact .inr ⟨by omega, by omega⟩
theorem n_shl : OpR X (binaryOp .LShift) (rN (fun a b => a < 2 ^ 64 ∧ b ≤ 1000000) fun a b => nV (a * 2 ^ b)) := opImp op_shl fun x y H Q ⟨a, b, e1, e2, c, q⟩ =>
  ⟨a, b, e1, e2, ⟨Int.natCast_nonneg _, Int.ofNat_le.mpr c.2, small64 c.1⟩, qv (congrArg V.int (shl_cast a b)) q⟩
theorem n_sh1 : OpR X (binaryOp .LShift) (fun x y H Q => ∃ b : Nat, x = nV 1 ∧ y = nV b ∧ b ≤ 1000000 ∧ Q (nV (2 ^ b)) H) := opImp n_shl fun x y H Q ⟨b, e1, e2, c, q⟩ => ⟨1, b, e1, e2, ⟨by decide, c⟩, qv (congrArg nV (Nat.one_mul _)) q⟩
theorem n_shr : OpR X (binaryOp .RShift) (rN0 fun a b => nV (a / 2 ^ b)) := opImp op_shr fun x y H Q ⟨a, b, e1, e2, q⟩ =>
  ⟨a, b, e1, e2, Int.natCast_nonneg _, qv (congrArg V.int (shr_cast a b)) q⟩
/-- the right one lies below the left one's noughts -/
theorem n_or : OpR X (binaryOp .BitOr) (fun x y H Q => ∃ p s n : Nat, x = nV (p * 2 ^ s) ∧ y = nV n ∧ n < 2 ^ s ∧ Q (nV (p * 2 ^ s + n)) H) := opImp op_or fun x y H Q ⟨p, s, n, e1, e2, c, q⟩ =>
  ⟨_, _, e1, e2, qv (congrArg V.int (by rw [← shl_cast p s]; exact or_cast c)) q⟩
theorem n_mask : OpR X (binaryOp .BitAnd) (fun x y H Q => ∃ p s : Nat, x = nV p ∧ y = nV (2 ^ s - 1) ∧ Q (nV (p % 2 ^ s)) H) := opImp op_and fun x y H Q ⟨p, s, e1, e2, q⟩ =>
  ⟨_, _, e1, e2, qv (congrArg V.int (by
    have e : (((2 ^ s - 1 : Nat)) : Int) = (1 : Int) * 2 ^ s - 1 := by
      rw [Int.one_mul, pow_cast, Int.natCast_sub (Nat.two_pow_pos s)]
      rfl
    rw [e]
    exact and_cast p s)) q⟩
theorem n_bit : OpR X (binaryOp .BitAnd) (fun x y H Q => ∃ p : Nat, x = nV p ∧ y = nV 1 ∧ Q (nV (p % 2)) H) := opImp n_mask fun x y H Q ⟨p, e1, e2, q⟩ => ⟨p, 1, e1, e2, q⟩
theorem n_lt : OpR X (compareOp .Lt) (rN0 fun a b => .bl (decide (a < b))) := opImp op_lt fun x y H Q ⟨a, b, e1, e2, q⟩ => ⟨a, b, e1, e2, qv (congrArg V.bl (decide_eq_decide.mpr Int.ofNat_lt)) q⟩
theorem n_le : OpR X (compareOp .LtE) (rN0 fun a b => .bl (decide (a ≤ b))) := opImp op_le fun x y H Q ⟨a, b, e1, e2, q⟩ => ⟨a, b, e1, e2, qv (congrArg V.bl (decide_eq_decide.mpr Int.ofNat_le)) q⟩
theorem n_gt : OpR X (compareOp .Gt) (rN0 fun a b => .bl (decide (b < a))) := opImp op_gt fun x y H Q ⟨a, b, e1, e2, q⟩ => ⟨a, b, e1, e2, qv (congrArg V.bl (decide_eq_decide.mpr Int.ofNat_lt)) q⟩
theorem n_ge : OpR X (compareOp .GtE) (rN0 fun a b => .bl (decide (b ≤ a))) := opImp op_ge fun x y H Q ⟨a, b, e1, e2, q⟩ => ⟨a, b, e1, e2, qv (congrArg V.bl (decide_eq_decide.mpr Int.ofNat_le)) q⟩
theorem n_eq : OpR X (compareOp .Eq) (rN0 fun a b => .bl (decide (a = b))) := opImp op_eq fun x y H Q ⟨a, b, e1, e2, q⟩ => by
  subst e1 e2
  exact ⟨rfl, qv (congrArg V.bl (decide_eq_decide.mpr nV_eq)) q⟩
theorem n_ne : OpR X (compareOp .NotEq) (rN0 fun a b => .bl (!decide (a = b))) := opImp op_ne fun x y H Q ⟨a, b, e1, e2, q⟩ => by
  subst e1 e2
  exact ⟨rfl, qv (congrArg (fun c => V.bl (!c)) (decide_eq_decide.mpr nV_eq)) q⟩
theorem i_add : InOp X .Add (rN0 fun a b => nV (a + b)) := fun pins s σ H x y u v Q I rx ry ⟨a, b, e1, e2, q⟩ => in_add pins s σ H x y u v Q I rx ry ⟨a, b, e1, e2, qv (congrArg V.int (Int.natCast_add a b).symm) q⟩
theorem i_sub : InOp X .Sub (rN (fun a b => b ≤ a) fun a b => nV (a - b)) := fun pins s σ H x y u v Q I rx ry ⟨a, b, e1, e2, c, q⟩ => in_sub pins s σ H x y u v Q I rx ry ⟨a, b, e1, e2, qv (congrArg V.int (Int.natCast_sub c).symm) q⟩
theorem a_add : PIp X .Add (rN0 fun a b => nV (a + b)) := fun pins s σ H x y v u Q I rx ry ⟨a, b, e1, e2, q⟩ => ip_add pins s σ H x y v u Q I rx ry ⟨a, b, e1, e2, qv (congrArg V.int (Int.natCast_add a b).symm) q⟩
/-- a written number -/
theorem pe_n (n : Nat) {j pos} : PE X (.Constant (.int (n : Int)) j pos) (tC (nV n)) := pe_int
theorem pe_gn {x : Str} {n : Nat} {t : Tok} {pos : Pos} (hg : Gl X x) (hm : X.mg x = some (.int (n : Int) t)) (hd : (x == ("__debug__" : Str)) = false := by decide) : PE X (.Name x pos) (tC (nV n)) := pe_gi hg hm hd
theorem callImp {f : Value} {r r' : List V → Hp → VK → Prop} (h : CallR X f r) (hi : ∀ xs H Q, r' xs H Q → r xs H Q) : CallR X f r' :=
  fun pins s σ H xs us Q I rv q => h pins s σ H xs us Q I rv (hi _ _ _ q)
theorem n_divmod : CallR X (.builtin "divmod") (fun xs H Q => ∃ a b : Nat, xs = [nV a, nV b] ∧ 0 < b ∧ b < 1073741824 ∧ ∀ p, H p = none → Q (.ref p) (upd H p (.tup [nV (a / b), nV (a % b)]))) :=
  callImp call_divmod fun xs H Q ⟨a, b, e, h0, h1, q⟩ => ⟨a, b, e, ⟨by omega, by omega⟩, fun p hp => by
    have e1 : ((a : Int) / (b : Int)) = ((a / b : Nat) : Int) := (Int.natCast_ediv a b).symm
    have e2 : ((a : Int) % (b : Int)) = ((a % b : Nat) : Int) := (Int.natCast_emod a b).symm
    rw [e1, e2]
    exact q p hp⟩
/-- len of a list of numbers -/
theorem n_len : CallR X (.builtin "len") (fun xs H Q => ∃ (p : Addr) (ns : List Nat), xs = [.ref p] ∧ SqL X.K H p (ns.map nV) ∧ Q (nV ns.length) H) :=
  callImp call_len_seq fun xs H Q ⟨p, ns, e, h, q⟩ => ⟨p, ns.map nV, e, .inl h, qv (congrArg nV (List.length_map nV)) q⟩
theorem n_div : OpR X (binaryOp .FloorDiv) (rN (fun a b => 0 < b ∧ b < 1073741824) fun a b => nV (a / b)) := opImp op_fdiv fun x y H Q ⟨a, b, e1, e2, c, q⟩ => ⟨a, b, e1, e2, ⟨by have := c.1; omega, by have := c.2; omega⟩, qv (congrArg V.int (Int.natCast_ediv a b).symm) q⟩
theorem n_mod : OpR X (binaryOp .Mod) (rN (fun a b => 0 < b) fun a b => nV (a % b)) := opImp op_mod fun x y H Q ⟨a, b, e1, e2, c, q⟩ => ⟨a, b, e1, e2, Int.ofNat_lt.mpr c, qv (congrArg V.int (Int.natCast_emod a b).symm) q⟩
/-- a rest of any number: which one is not told -/
theorem m_mod : OpR X (binaryOp .Mod) (fun x y H Q => ∃ (z : Int) (b : Nat), x = .int z ∧ y = nV b ∧ 0 < b ∧ ∀ m : Nat, m < b → Q (nV m) H) := opImp op_mod fun x y H Q ⟨z, b, e1, e2, c, q⟩ => by
  refine ⟨z, b, e1, e2, Int.ofNat_lt.mpr c, ?_⟩
  have hb : (0 : Int) < b := Int.ofNat_lt.mpr c
  obtain ⟨m, hm⟩ := Int.eq_ofNat_of_zero_le (Int.emod_nonneg z (Int.ne_of_gt hb))
  have hl := Int.emod_lt_of_pos z hb
  rw [hm] at hl
  exact qv (congrArg V.int hm) (q m (Int.ofNat_lt.mp hl))
theorem ixImp {r r' : R2} (h : IxR X r) (hi : ∀ x y H Q, r' x y H Q → r x y H Q) : IxR X r' :=
  fun value slice pins s σ H x y v u Q I rx ry q hs => h value slice pins s σ H x y v u Q I rx ry (hi _ _ _ _ q) hs
/-- an item at a place from 0 on -/
theorem n_ix : IxR X (fun x y H Q => ∃ (p : Addr) (xs : List V) (i : Nat) (v : V), x = .ref p ∧ y = nV i ∧ SqL X.K H p xs ∧ xs[i]? = some v ∧ Q v H) :=
  ixImp ix_list fun x y H Q ⟨p, xs, i, v, e1, e2, h, e, q⟩ => ⟨p, xs, (i : Int), v, e1, e2, h, atI_nat e, q⟩
theorem n_set : PSet X (fun o i v H Q => ∃ (p : Addr) (xs : List V) (k : Nat), o = .ref p ∧ i = nV k ∧ H p = some (.lst xs) ∧ k < xs.length ∧ Q (upd H p (.lst (xs.set k v)))) := fun pins s σ H o i v ov iv u Q I ro ri rv ⟨p, xs, k, e1, e2, h, hk, q⟩ =>
  set_list pins s σ H o i v ov iv u Q I ro ri rv ⟨p, xs, (k : Int), k, e1, e2, h, by
    unfold ixN
    rw [if_pos (Int.natCast_nonneg k), if_pos (Int.ofNat_lt.mpr hk), Int.toNat_natCast], q⟩
end
theorem cutV_nat {xs : List V} {i j : Nat} (h1 : i ≤ j) (h2 : j ≤ xs.length) : cutV xs (some (i : Int)) (some (j : Int)) = (xs.drop i).take (j - i) := by
  unfold cutV
  rw [HT.sIx_nat, HT.sIx_nat, Nat.min_eq_left h2, Nat.min_eq_left (Nat.le_trans h1 h2)]
/-- all but one object stand as they stood -/
def Keep (r : Addr) (H H' : Hp) : Prop := ∀ b o, H b = some o → b ≠ r → H' b = some o
theorem Keep.refl (r : Addr) (H : Hp) : Keep r H H := fun _ _ h _ => h
theorem Keep.trans {r : Addr} {H H1 H2 : Hp} (a : Keep r H H1) (b : Keep r H1 H2) : Keep r H H2 := fun c o h n => b c o (a c o h n) n
theorem Keep.of {r : Addr} {H H1 : Hp} (a : Same H H1) : Keep r H H1 := fun c o h _ => a c o h
theorem Keep.put {r : Addr} {H : Hp} {o : HO} : Keep r H (upd H r o) := fun c o h n => by rw [upd_ne n]; exact h
theorem Keep.new {r p : Addr} {H H1 : Hp} {o : HO} (a : Keep r H H1) (h : H1 p = Option.none) (hr : H1 r ≠ Option.none) : Keep r H (upd H1 p o) := fun c u e n => by
  have e1 := a c u e n
  rw [upd_ne (ne_of_none e1 h)]
  exact e1
end Bale
set_option Elab.async false
set_option linter.all false
set_option maxRecDepth 100000
set_option maxHeartbeats 4000000
/-! Small defs: kinds of numbers, counts of bits. -/
namespace Bale
open PySem PySem.Spec PyProof.Rows L2
abbrev sIsNum : Stmt := top 37
abbrev sNeedSize : Stmt := top 38
abbrev sIsByte : Stmt := top 31
abbrev sBetween : Stmt := top 24
def spIsNum : Sp := fun vs H Q _ => ∃ n : Int, vs = [.int n] ∧ Q (.bl true) H
def spIsByte : Sp := fun vs H Q _ => ∃ n : Int, vs = [.int n] ∧ 0 ≤ n ∧ n ≤ 255 ∧ Q (.bl true) H
def spBetween : Sp := fun vs H Q _ => ∃ n lo hi : Int, vs = [.int n, .int lo, .int hi] ∧ lo ≤ n ∧ n ≤ hi ∧ Q (.bl true) H
def spNeedSize : Sp := fun vs H Q _ => ∃ n : Int, vs = [.int n] ∧ 0 ≤ n ∧ n ≤ 24 ∧ Q .non H
section
variable {P : Program} {w : World} {K : PySem.W.Frag} {mg : Str → Option Value} {base : Heap}
theorem scIsNum : FnScope ["thing"] ["thing"] (defScope sIsNum) := ⟨rfl, rfl, rfl, by decide +kernel, rfl, by decide +kernel, by decide +kernel⟩
theorem ok_isnum {f : Addr} {fd : FuncData} (F : FnP K "is_number" "is_number" sIsNum f fd) (T : Tx mg) : FnOk P w K mg base CX0 1 f fd ["thing"] spIsNum := by
  refine fnp_ok F scIsNum (fun vs H Q E h => ?_) (fun cdv A outer s H vs Q E hr h => ?_)
  · obtain ⟨n, rfl, _⟩ := h
    rfl
  · obtain ⟨n, rfl, k⟩ := h
    refine ⟨_, pss_one (ps_ret (pe_and (pe_callB call_isi (by rfl) T.isi boot_isinstance (pa_cons (pv 0) (pa_cons (pe_bltn (v := .ty "int") (by rfl) T.int boot_int rfl) pa_nil)))
      (pe_one (pe_not (pe_callB call_isi (by rfl) T.isi boot_isinstance (pa_cons (pv 0) (pa_cons (pe_bltn (v := .ty "bool") (by rfl) T.bool boot_bool rfl) pa_nil))))))), ?_⟩
    refine ⟨_, rfl, _, _, _, _, true, rfl, .ty _, .base (.int _), kit_ty (by decide +kernel), true, rfl, iteT ?_⟩
    exact ⟨_, rfl, _, _, _, _, false, rfl, .ty _, .base (.int _), kit_ty (by decide +kernel), false, rfl, k⟩
theorem scIsByte : FnScope ["thing"] ["thing"] (defScope sIsByte) := ⟨rfl, rfl, rfl, by decide +kernel, rfl, by decide +kernel, by decide +kernel⟩
theorem ok_isbyte {f : Addr} {fd : FuncData} (F : FnP K "is_byte" "is_byte" sIsByte f fd) (T : Tx mg) : FnOk P w K mg base CX0 1 f fd ["thing"] spIsByte := by
  obtain ⟨tb, hb⟩ := T.mbyte
  refine fnp_ok F scIsByte (fun vs H Q E h => ?_) (fun cdv A outer s H vs Q E hr h => ?_)
  · obtain ⟨n, rfl, _⟩ := h
    rfl
  · obtain ⟨n, rfl, h0, h1, k⟩ := h
    refine ⟨_, pss_one (ps_ret (pe_and (pe_callB call_isi (by rfl) T.isi boot_isinstance (pa_cons (pv 0) (pa_cons (pe_bltn (v := .ty "int") (by rfl) T.int boot_int rfl) pa_nil)))
      (pe_and (pe_not (pe_callB call_isi (by rfl) T.isi boot_isinstance (pa_cons (pv 0) (pa_cons (pe_bltn (v := .ty "bool") (by rfl) T.bool boot_bool rfl) pa_nil))))
      (pe_one (pe_chain op_le op_le pe_int (pv 0) (pe_gi (by rfl) hb)))))), ?_⟩
    refine ⟨_, rfl, _, _, _, _, true, rfl, .ty _, .base (.int _), kit_ty (by decide +kernel), true, rfl, iteT ?_⟩
    refine ⟨_, rfl, _, _, _, _, false, rfl, .ty _, .base (.int _), kit_ty (by decide +kernel), false, rfl, true, rfl, iteT ?_⟩
    refine ⟨_, rfl, _, _, rfl, rfl, true, congrArg V.bl (decide_eq_true h0), iteT ⟨_, _, rfl, rfl, blT (R := fun v => Q v H) h1 k⟩⟩
theorem scBetween : FnScope ["thing", "least", "most"] ["thing", "least", "most"] (defScope sBetween) := ⟨rfl, rfl, rfl, by decide +kernel, rfl, by decide +kernel, by decide +kernel⟩
theorem ok_between {f : Addr} {fd : FuncData} (F : FnP K "is_between" "is_between" sBetween f fd) (T : Tx mg) : FnOk P w K mg base CX0 1 f fd ["thing", "least", "most"] spBetween := by
  refine fnp_ok F scBetween (fun vs H Q E h => ?_) (fun cdv A outer s H vs Q E hr h => ?_)
  · obtain ⟨n, lo, hi, rfl, _⟩ := h
    rfl
  · obtain ⟨n, lo, hi, rfl, h0, h1, k⟩ := h
    refine ⟨_, pss_one (ps_ret (pe_and (pe_callB call_isi (by rfl) T.isi boot_isinstance (pa_cons (pv 0) (pa_cons (pe_bltn (v := .ty "int") (by rfl) T.int boot_int rfl) pa_nil)))
      (pe_and (pe_not (pe_callB call_isi (by rfl) T.isi boot_isinstance (pa_cons (pv 0) (pa_cons (pe_bltn (v := .ty "bool") (by rfl) T.bool boot_bool rfl) pa_nil))))
      (pe_one (pe_chain op_le op_le (pv 1) (pv 0) (pv 2)))))), ?_⟩
    refine ⟨_, rfl, _, _, _, _, true, rfl, .ty _, .base (.int _), kit_ty (by decide +kernel), true, rfl, iteT ?_⟩
    refine ⟨_, rfl, _, _, _, _, false, rfl, .ty _, .base (.int _), kit_ty (by decide +kernel), false, rfl, true, rfl, iteT ?_⟩
    refine ⟨_, rfl, _, rfl, _, _, rfl, rfl, true, congrArg V.bl (decide_eq_true h0), iteT ⟨_, rfl, _, _, rfl, rfl, blT (R := fun v => Q v H) h1 k⟩⟩
theorem scNeedSize : FnScope ["size"] ["size"] (defScope sNeedSize) := ⟨rfl, rfl, rfl, by decide +kernel, rfl, by decide +kernel, by decide +kernel⟩
theorem ok_needsize {f : Addr} {fd : FuncData} (F : FnP K "need_size" "need_size" sNeedSize f fd) (T : Tx mg) (cN : Cal P w K mg base 1 "is_number" spIsNum) : FnOk P w K mg base CX0 2 f fd ["size"] spNeedSize := by
  obtain ⟨tb, hb⟩ := T.msize
  refine fnp_ok F scNeedSize (fun vs H Q E h => ?_) (fun cdv A outer s H vs Q E hr h => ?_)
  · obtain ⟨n, rfl, _⟩ := h
    rfl
  · obtain ⟨n, rfl, h0, h1, k⟩ := h
    refine ⟨_, pss_one (ps_if (PW.pt (pw_or (pt_not (pt_val (pe_f cN hr (by decide) (by rfl) (pa_cons (pv 0) pa_nil)))) (pw_or1 (pt_not (pt_chain op_le op_le pe_int (pv 0) (pe_gi (by rfl) hb)))))) pss_never pss_nil), ?_⟩
    refine ⟨_, rfl, n, rfl, true, rfl, iteF ?_⟩
    refine ⟨_, rfl, _, _, rfl, rfl, true, congrArg V.bl (decide_eq_true h0), iteT ⟨_, _, rfl, rfl, true, congrArg V.bl (decide_eq_true h1), iteF k⟩⟩
end
end Bale
set_option Elab.async false
set_option linter.all false
set_option maxRecDepth 100000
set_option maxHeartbeats 4000000
/-! A row of bits that grows. -/
namespace Bale
open PySem PySem.Spec PyProof.Rows L2
abbrev sBWi : Stmt := inClass (top 39) 0
abbrev sPut : Stmt := inClass (top 39) 1
abbrev sRow : Stmt := inClass (top 39) 3
structure BWT (K : PySem.W.Frag) : Prop where
  cl : Cls K (cBW K)
  n1 : NoAttr K (cBW K) "full"
  n2 : NoAttr K (cBW K) "part"
  n3 : NoAttr K (cBW K) "filled"
def bwF (l : Addr) (p f : Nat) : List (Str × V) := [("full", .ref l), ("part", nV p), ("filled", nV f)]
theorem bw_full (l : Addr) (p f : Nat) : (bwF l p f).lookup ("full" : Str) = some (.ref l) := lk1
theorem bw_part (l : Addr) (p f : Nat) : (bwF l p f).lookup ("part" : Str) = some (nV p) := (lk2 (by decide +kernel)).trans lk1
theorem bw_filled (l : Addr) (p f : Nat) : (bwF l p f).lookup ("filled" : Str) = some (nV f) := (lk2 (by decide +kernel)).trans ((lk2 (by decide +kernel)).trans lk1)
theorem bw_no (l : Addr) (p f : Nat) {m : Str} (h1 : (m == ("full" : Str)) = false) (h2 : (m == ("part" : Str)) = false) (h3 : (m == ("filled" : Str)) = false) : (bwF l p f).lookup m = none := (lk2 h1).trans ((lk2 h2).trans ((lk2 h3).trans rfl))
theorem bw_ppart (l : Addr) (p f q : Nat) : putF "part" (nV q) (bwF l p f) = bwF l q f := (pt2 (by decide +kernel)).trans (congrArg _ pt1)
theorem bw_pfilled (l : Addr) (p f q : Nat) : putF "filled" (nV q) (bwF l p f) = bwF l p q := (pt2 (by decide +kernel)).trans (congrArg _ ((pt2 (by decide +kernel)).trans (congrArg _ pt1)))
theorem bw_new (l : Addr) : putF "filled" (nV 0) (putF "part" (nV 0) (putF "full" (.ref l) [])) = bwF l 0 0 := by
  have e1 : putF "part" (nV 0) (putF "full" (.ref l) []) = [(("full" : Str), V.ref l), ("part", nV 0)] := (pt2 (by decide +kernel)).trans rfl
  rw [e1]
  exact (pt2 (by decide +kernel)).trans (congrArg _ ((pt2 (by decide +kernel)).trans rfl))
/-- what stands in such an object, behind the heap ahead of its making -/
def BWIn (K : PySem.W.Frag) (H0 H : Hp) (b dx l : Addr) (full : List Nat) (part filled : Nat) : Prop :=
  Same H0 H ∧ H0 b = none ∧ H0 l = none ∧ H b = some (.ins (cBW K) dx (bwF l part filled)) ∧ H l = some (.lst (full.map nV)) ∧ part < 2 ^ filled ∧ ∀ x ∈ full, x < 256
def BWAt (K : PySem.W.Frag) (H0 H : Hp) (b : Addr) (bs : List Bool) : Prop :=
  ∃ (dx l : Addr) (full : List Nat) (part filled : Nat), BWIn K H0 H b dx l full part filled ∧ filled < 8 ∧ bytesBits full ++ bitsOf filled part = bs
def spBWi (K : PySem.W.Frag) : Sp := fun vs H Q _ => ∃ (H0 : Hp) (p dx : Addr), vs = [.ref p] ∧ Same H0 H ∧ H0 p = none ∧ H p = some (.ins (cBW K) dx []) ∧ ∀ H' : Hp, BWAt K H0 H' p [] → Q .non H'
def spPut (K : PySem.W.Frag) : Sp := fun vs H Q _ => ∃ (H0 : Hp) (b : Addr) (bs : List Bool) (n s : Nat), vs = [.ref b, nV n, nV s] ∧ BWAt K H0 H b bs ∧ n < 2 ^ s ∧ s ≤ 24 ∧ bs.length ≤ 100000 ∧ ∀ H' : Hp, BWAt K H0 H' b (bs ++ bitsOf s n) → Q .non H'
def spRow (K : PySem.W.Frag) : Sp := fun vs H Q _ => ∃ (H0 : Hp) (b : Addr) (bs : List Bool), vs = [.ref b] ∧ BWAt K H0 H b bs ∧ bs.length ≤ 100000 ∧
  ∀ (H' : Hp) (p : Addr) (bytes : List Nat), Same H0 H' → H0 p = none → H' p = some (.lst (bytes.map nV)) → (∀ x ∈ bytes, x < 256) → bs.length ≤ 8 * bytes.length → bytes.length ≤ bs.length + 1 → bytesBits bytes = bs ++ List.replicate (8 * bytes.length - bs.length) false → Q (.ref p) H'
section
variable {P : Program} {w : World} {K : PySem.W.Frag} {mg : Str → Option Value} {base : Heap}
theorem scBWi : FnScope ["self"] ["self"] (defScope sBWi) := ⟨rfl, rfl, rfl, by decide +kernel, rfl, by decide +kernel, by decide +kernel⟩
theorem ok_bwi {f : Addr} {fd : FuncData} (F : FnP K "__init__" "BitRow.__init__" sBWi f fd) (B : BWT K) : FnOk P w K mg base CX0 1 f fd ["self"] (spBWi K) := by
  refine fnp_ok F scBWi (fun vs H Q E h => ?_) (fun cdv A outer s H vs Q E hr h => ?_)
  · obtain ⟨H0, p, dx, rfl, _⟩ := h
    rfl
  · obtain ⟨H0, p, dx, rfl, s0, p0, hp, k⟩ := h
    refine ⟨_, pss_cons (ps_fld (pv 0) (pe_lst pa_nil) rfl) (pss_cons (ps_fld (pv 0) pe_int rfl) (pss_one (ps_fld (pv 0) pe_int rfl))), ?_⟩
    refine ⟨Nat.zero_le _, fun l hl => ?_⟩
    have npl : p ≠ l := ne_of_none hp hl
    refine ⟨_, rfl, p, _, dx, [], rfl, (upd_ne npl).trans hp, B.cl, B.n1, (by show 0 < 1000; decide), ?_⟩
    refine ⟨_, rfl, p, _, dx, _, rfl, upd_same, B.cl, B.n2, (by show 1 < 1000; decide), ?_⟩
    refine ⟨_, rfl, p, _, dx, _, rfl, upd_same, B.cl, B.n3, (by show 2 < 1000; decide), ?_⟩
    refine k _ ⟨dx, l, [], 0, 0, ⟨(((s0.new hl).put p0).put p0).put p0, p0, s0.free hl, Eq.trans upd_same (congrArg (fun q => some (HO.ins (cBW K) dx q)) (bw_new l)), ?_, by decide, fun x hx => absurd hx List.not_mem_nil⟩, by decide, rfl⟩
    rw [upd_ne npl.symm, upd_ne npl.symm, upd_ne npl.symm, upd_same]
    rfl
theorem scPut : FnScope ["self", "number", "size"] ["self", "number", "size"] (defScope sPut) := ⟨rfl, rfl, rfl, by decide +kernel, rfl, by decide +kernel, by decide +kernel⟩
theorem ok_put {f : Addr} {fd : FuncData} (F : FnP K "put" "BitRow.put" sPut f fd) (B : BWT K) (T : Tx mg) (cN : Cal P w K mg base 1 "is_number" spIsNum) (cS : Cal P w K mg base 2 "need_size" spNeedSize) : FnOk P w K mg base CX0 3 f fd ["self", "number", "size"] (spPut K) := by
  obtain ⟨tb, hB⟩ := T.byte
  refine fnp_ok F scPut (fun vs H Q E h => ?_) (fun cdv A outer s H vs Q E hr h => ?_)
  · obtain ⟨H0, b, bs, n, s, rfl, _⟩ := h
    rfl
  · obtain ⟨H0, b, bs, n, z, rfl, ⟨dx, l, full, part, filled, ⟨s0, b0, l0, hb, hl, hp, hf⟩, h8, ebs⟩, hn, hz, hlen, k⟩ := h
    refine ⟨_, pss_cons (ps_expr (pe_f cS hr (by decide) (by rfl) (pa_cons (pv 2) pa_nil)))
      (pss_cons (ps_if (PW.pt (pw_or (pt_not (pt_val (pe_f cN hr (by decide) (by rfl) (pa_cons (pv 1) pa_nil)))) (pw_or (pt_cmpR n_lt (pv 1) (pe_n 0) (nomark _)) (pw_or1 (pt_cmpR n_gt (pe_op n_shr (pv 1) (pv 2)) (pe_n 0) (nomark _)))))) pss_never pss_nil)
      (pss_cons (ps_fld (pv 0) (pe_op n_or (pe_op n_shl (pe_fld (pv 0) rfl) (pv 2)) (pv 1)) rfl)
      (pss_cons (ps_fldaug (pv 0) (pv 2) i_add)
      (pss_one (ps_while PassesOwn.never (pt_cmpR n_ge (pe_fld (pv 0) rfl) (pe_gn (n := 8) (by rfl) hB) (nomark _))
        (pss_cons (ps_fldaug (pv 0) (pe_gn (n := 8) (by rfl) hB) i_sub)
        (pss_cons (ps_expr (pe_bm PySem.F.plainAttrs_list PySem.F.slot_list_append PySem.F.type_list_append mt_append (pe_fld (pv 0) rfl) (pa_cons (pe_op n_shr (pe_fld (pv 0) rfl) (pe_fld (pv 0) rfl)) pa_nil)))
        (pss_one (ps_fld (pv 0) (pe_op n_mask (pe_fld (pv 0) rfl) (pe_op n_sub (pe_op n_shl (pe_n 1) (pe_fld (pv 0) rfl)) (pe_n 1))) rfl)))))))))
      , ?_⟩
    have fs8 : filled ≤ 7 := Nat.le_of_lt_succ h8
    have pp : part < 2 ^ 64 := Nat.lt_of_lt_of_le hp (Nat.pow_le_pow_right (by decide) (by omega))
    -- the count, the number
    refine ⟨_, rfl, (z : Int), rfl, Int.natCast_nonneg _, by omega, ?_⟩
    refine ⟨_, rfl, (n : Int), rfl, true, rfl, iteF ?_⟩
    refine ⟨_, rfl, n, 0, rfl, rfl, _, rfl, ifF (Nat.not_lt_zero n) ?_⟩
    refine ⟨_, rfl, _, rfl, n, z, rfl, rfl, _, 0, rfl, rfl, _, rfl, ifF (by rw [Nat.div_eq_of_lt hn]; decide) ?_⟩
    -- the new part, the new count
    refine ⟨_, rfl, b, _, dx, _, _, rfl, hb, B.cl, B.n2, bw_part _ _ _, _, rfl, part, z, rfl, rfl, ⟨pp, by omega⟩, _, rfl, part, z, n, rfl, rfl, hn, ?_⟩
    refine ⟨_, rfl, b, _, dx, _, rfl, hb, B.cl, B.n2, (by show 3 < 1000; decide), ?_⟩
    refine ⟨_, rfl, b, _, dx, _, _, rfl, upd_same, B.cl, B.n3, (by rw [bw_ppart]; exact bw_filled _ _ _), _, rfl, filled, z, rfl, rfl, dx, _, upd_same, (by rw [bw_ppart]; show 3 < 1000; decide), ?_⟩
    have nlb : l ≠ b := ne_of hl hb (by intro q; cases q)
    have hq : part * 2 ^ z + n < 2 ^ (filled + z) := by
      rw [Nat.pow_add]
      have : (part + 1) * 2 ^ z ≤ 2 ^ filled * 2 ^ z := Nat.mul_le_mul_right _ hp
      rw [Nat.add_mul, Nat.one_mul] at this
      omega
    have hbits : bytesBits full ++ bitsOf (filled + z) (part * 2 ^ z + n) = bs ++ bitsOf z n := by
      rw [bitsOf_put hn, ← List.append_assoc, ebs]
    have flen : 8 * full.length ≤ bs.length := by
      have := congrArg List.length ebs
      rw [List.length_append, bytesBits_length] at this
      omega
    have e2 : putF "filled" (nV (filled + z)) (putF "part" (nV (part * 2 ^ z + n)) (bwF l part filled)) = bwF l (part * 2 ^ z + n) (filled + z) := by
      rw [bw_ppart]
      exact bw_pfilled _ _ _ _
    -- the whole bytes go
    refine while_by (fun σ H' => σ = [some (.ref b), some (nV n), some (nV z)] ∧ ∃ (full' : List Nat) (q g : Nat), BWIn K H0 H' b dx l full' q g ∧ bytesBits full' ++ bitsOf g q = bs ++ bitsOf z n ∧ g ≤ 40)
      (fun σ H' => match H' b with | some (.ins _ _ [_, _, (_, .int g)]) => g.toNat | _ => 0)
      ⟨rfl, full, _, _, ⟨(s0.put b0).put b0, b0, l0, Eq.trans upd_same (congrArg (fun q => some (HO.ins (cBW K) dx q)) e2), (upd_ne nlb).trans ((upd_ne nlb).trans hl), hq, hf⟩, hbits, by omega⟩ ?_ ?_
    · rintro σ H' ⟨rfl, full', q, g, ⟨s1, _, _, hb', hl', hq', hf'⟩, hbits', hg⟩
      refine ⟨_, rfl, b, _, dx, _, _, rfl, hb', B.cl, B.n3, bw_filled _ _ _, g, 8, rfl, rfl, _, rfl, ?_⟩
      refine ite2 (fun c => ?_) (fun c => ?_)
      · have c8 : 8 ≤ g := of_decide_eq_true c
        refine ⟨_, rfl, b, _, dx, _, _, rfl, hb', B.cl, B.n3, bw_filled _ _ _, g, 8, rfl, rfl, c8, dx, _, hb', (by show 3 < 1000; decide), ?_⟩
        have e3 : putF "filled" (nV (g - 8)) (bwF l q g) = bwF l q (g - 8) := bw_pfilled _ _ _ _
        have h1 : upd H' b (.ins (cBW K) dx (putF "filled" (nV (g - 8)) (bwF l q g))) b = some (.ins (cBW K) dx (bwF l q (g - 8))) := Eq.trans upd_same (congrArg (fun q => some (HO.ins (cBW K) dx q)) e3)
        have h2 : upd H' b (.ins (cBW K) dx (putF "filled" (nV (g - 8)) (bwF l q g))) l = some (.lst (full'.map nV)) := (upd_ne nlb).trans hl'
        have fl' : 8 * full'.length ≤ 100024 := by
          have := congrArg List.length hbits'
          rw [List.length_append, List.length_append, bytesBits_length, bitsOf_length z] at this
          omega
        refine ⟨_, rfl, b, _, dx, _, _, rfl, h1, B.cl, B.n1, bw_full _ _ _, .inl ⟨rfl, _, SqL.of h2⟩, _, rfl, b, _, dx, _, _, rfl, h1, B.cl, B.n2, bw_part _ _ _, _, rfl, b, _, dx, _, _, rfl, h1, B.cl, B.n3, bw_filled _ _ _, q, g - 8, rfl, rfl,
          l, _, _, rfl, rfl, h2, (by rw [List.length_map]; exact Nat.lt_of_le_of_lt (by omega : full'.length ≤ 100024) (by decide)), ?_⟩
        have h3 : upd (upd H' b (.ins (cBW K) dx (putF "filled" (nV (g - 8)) (bwF l q g)))) l (.lst (full'.map nV ++ [nV (q / 2 ^ (g - 8))])) b = some (.ins (cBW K) dx (bwF l q (g - 8))) := (upd_ne nlb.symm).trans h1
        refine ⟨_, rfl, b, _, dx, _, _, rfl, h3, B.cl, B.n2, bw_part _ _ _, _, rfl, b, _, dx, _, _, rfl, h3, B.cl, B.n3, bw_filled _ _ _, 1, g - 8, rfl, rfl, ⟨by decide, by omega⟩, 2 ^ (g - 8), 1, congrArg nV (Nat.one_mul _), rfl, Nat.two_pow_pos _, q, g - 8, rfl, rfl, ?_⟩
        refine ⟨_, rfl, b, _, dx, _, rfl, h3, B.cl, B.n2, (by show 3 < 1000; decide), ?_⟩
        have e6 : putF "part" (nV (q % 2 ^ (g - 8))) (bwF l q (g - 8)) = bwF l (q % 2 ^ (g - 8)) (g - 8) := bw_ppart _ _ _ _
        have eq8 : g = 8 + (g - 8) := by omega
        have hlt : q / 2 ^ (g - 8) < 256 := by
          rw [Nat.div_lt_iff_lt_mul (Nat.two_pow_pos _)]
          have : (256 : Nat) * 2 ^ (g - 8) = 2 ^ g := by
            have e256 : (256 : Nat) = 2 ^ 8 := rfl
            rw [e256, ← Nat.pow_add, ← eq8]
          rw [this]
          exact hq'
        refine ⟨⟨rfl, full' ++ [q / 2 ^ (g - 8)], q % 2 ^ (g - 8), g - 8, ⟨((s1.put b0).put l0).put b0, b0, l0, Eq.trans upd_same (congrArg (fun q => some (HO.ins (cBW K) dx q)) e6), ?_, Nat.mod_lt _ (Nat.two_pow_pos _), fun x hx => ?_⟩, ?_, by omega⟩, ?_⟩
        · rw [upd_ne nlb, upd_same, List.map_append]
          rfl
        · rcases List.mem_append.mp hx with h | h
          · exact hf' x h
          · rw [List.mem_singleton.mp h]
            exact hlt
        · rw [bytesBits_append, bytesBits_one, bitsOf_mod, List.append_assoc, ← bitsOf_add, ← eq8]
          exact hbits'
        · have m1 : ∀ {H1 : Hp} {q1 g1 : Nat}, H1 b = some (.ins (cBW K) dx (bwF l q1 g1)) → (match H1 b with | some (.ins _ _ [_, _, (_, .int g)]) => g.toNat | _ => 0) = g1 := fun {H1 q1 g1} e => by
            rw [e]
            rfl
          dsimp only
          rw [m1 hb', m1 (q1 := q % 2 ^ (g - 8)) (g1 := g - 8) (Eq.trans upd_same (congrArg (fun q => some (HO.ins (cBW K) dx q)) e6))]
          omega
      · have c8 : g < 8 := Nat.lt_of_not_le fun q => c (decide_eq_true q)
        exact k _ ⟨dx, l, full', q, g, ⟨s1, b0, l0, hb', hl', hq', hf'⟩, c8, hbits'⟩
    · rintro σ H' Q1 Q2 hQ ⟨x, hx, a, C, dx', fs, v, e1, e2, e3, e4, e5, i, j, e6, e7, k', e8, q⟩
      exact ⟨x, hx, a, C, dx', fs, v, e1, e2, e3, e4, e5, i, j, e6, e7, k', e8, hQ _ _ q⟩
theorem scRow : FnScope ["self"] ["self"] (defScope sRow) := ⟨rfl, rfl, rfl, by decide +kernel, rfl, by decide +kernel, by decide +kernel⟩
theorem ok_row {f : Addr} {fd : FuncData} (F : FnP K "row" "BitRow.row" sRow f fd) (B : BWT K) (T : Tx mg) : FnOk P w K mg base CX0 1 f fd ["self"] (spRow K) := by
  obtain ⟨tb, hB⟩ := T.byte
  refine fnp_ok F scRow (fun vs H Q E h => ?_) (fun cdv A outer s H vs Q E hr h => ?_)
  · obtain ⟨H0, b, bs, rfl, _⟩ := h
    rfl
  · obtain ⟨H0, b, bs, rfl, ⟨dx, l, full, part, filled, ⟨s0, b0, l0, hb, hl, hp, hf⟩, h8, ebs⟩, hlen, k⟩ := h
    refine ⟨_, pss_cons (ps_if (pt_cmpR n_eq (pe_fld (pv 0) rfl) (pe_n 0) (nomark _)) (pss_one (ps_ret (pe_callTy call_list_of (by rfl) T.list boot_list (pa_cons (pe_fld (pv 0) rfl) pa_nil)))) pss_nil)
      (pss_one (ps_ret (pe_op op_cat (pe_fld (pv 0) rfl) (pe_lst (pa_cons (pe_op n_shl (pe_fld (pv 0) rfl) (pe_op n_sub (pe_gn (n := 8) (by rfl) hB) (pe_fld (pv 0) rfl))) pa_nil))))), ?_⟩
    have el : 8 * full.length + filled = bs.length := by
      have := congrArg List.length ebs
      rw [List.length_append, bytesBits_length, bitsOf_length] at this
      exact this
    refine ⟨_, rfl, b, _, dx, _, _, rfl, hb, B.cl, B.n3, bw_filled _ _ _, filled, 0, rfl, rfl, _, rfl, ?_⟩
    refine ite2 (fun c => ?_) (fun c => ?_)
    · have c0 : filled = 0 := of_decide_eq_true c
      subst c0
      refine ⟨_, rfl, b, _, dx, _, _, rfl, hb, B.cl, B.n1, bw_full _ _ _, l, _, rfl, .inl (SqL.of hl), fun p hp' => ?_⟩
      have e0 : bitsOf 0 part = [] := rfl
      rw [e0, List.append_nil] at ebs
      refine k _ p full (s0.new hp') (s0.free hp') upd_same hf (by omega) (by omega) ?_
      have : 8 * full.length - bs.length = 0 := by omega
      rw [this, ebs]
      exact (List.append_nil _).symm
    · have c0 : 0 < filled := Nat.pos_of_ne_zero fun q => c (decide_eq_true q)
      have hl1 : full.length ≤ 100000 := by omega
      have pp : part < 2 ^ 64 := Nat.lt_of_lt_of_le hp (Nat.pow_le_pow_right (by decide) (by omega))
      refine ⟨_, rfl, b, _, dx, _, _, rfl, hb, B.cl, B.n1, bw_full _ _ _, _, rfl, b, _, dx, _, _, rfl, hb, B.cl, B.n2, bw_part _ _ _, _, rfl, b, _, dx, _, _, rfl, hb, B.cl, B.n3, bw_filled _ _ _, 8, filled, rfl, rfl, by omega, part, 8 - filled, rfl, rfl, ⟨pp, by omega⟩, by show 1 ≤ sizeLine; decide, fun m hm => ?_⟩
      have nlm : l ≠ m := ne_of_none hl hm
      refine ⟨l, m, _, _, rfl, rfl, (upd_ne nlm).trans hl, upd_same, (by rw [List.length_map]; exact Nat.le_trans (Nat.add_le_add_right hl1 1) (by decide)), fun p hp' => ?_⟩
      have hp0 : H p = Option.none := by
        by_cases q : p = m
        · rw [q, upd_same] at hp'
          cases hp'
        · rw [upd_ne q] at hp'
          exact hp'
      refine k _ p (full ++ [part * 2 ^ (8 - filled)]) ((s0.new hm).new hp') (s0.free hp0) ?_ (fun x hx => ?_) ?_ ?_ ?_
      · rw [upd_same, List.map_append]
        rfl
      · rcases List.mem_append.mp hx with h | h
        · exact hf x h
        · rw [List.mem_singleton.mp h]
          have : part * 2 ^ (8 - filled) < 2 ^ filled * 2 ^ (8 - filled) := Nat.mul_lt_mul_of_pos_right hp (Nat.two_pow_pos _)
          rw [← Nat.pow_add] at this
          have e : filled + (8 - filled) = 8 := by omega
          rw [e] at this
          exact this
      · rw [List.length_append, List.length_singleton]
        omega
      · rw [List.length_append, List.length_singleton]
        omega
      · rw [bytesBits_append, bytesBits_one]
        have e8 : bitsOf 8 (part * 2 ^ (8 - filled)) = bitsOf filled part ++ List.replicate (8 - filled) false := by
          have q := bitsOf_put (f := filled) (p := part) (s := 8 - filled) (n := 0) (Nat.two_pow_pos _)
          have e : filled + (8 - filled) = 8 := by omega
          rw [e, Nat.add_zero, bitsOf_zero] at q
          exact q
        rw [e8, ← List.append_assoc, ebs, List.length_append, List.length_singleton]
        have : 8 * (full.length + 1) - bs.length = 8 - filled := by omega
        rw [this]
end
end Bale
set_option Elab.async false
set_option linter.all false
set_option maxRecDepth 100000
set_option maxHeartbeats 4000000
/-! Rows, and a reader of their bits. -/
namespace Bale
open PySem PySem.Spec PyProof.Rows L2
abbrev sIsRow : Stmt := top 32
abbrev sNeedRow : Stmt := top 33
abbrev sBRi : Stmt := inClass (top 40) 0
abbrev sLeft : Stmt := inClass (top 40) 1
abbrev sPlace : Stmt := inClass (top 40) 2
abbrev sGo : Stmt := inClass (top 40) 3
abbrev sTake : Stmt := inClass (top 40) 4
structure BRT (K : PySem.W.Frag) : Prop where
  cl : Cls K (cBR K)
  n1 : NoAttr K (cBR K) "source"
  n2 : NoAttr K (cBR K) "taken"
def brF (l : Addr) (t : Nat) : List (Str × V) := [("source", .ref l), ("taken", nV t)]
theorem br_source (l : Addr) (t : Nat) : (brF l t).lookup ("source" : Str) = some (.ref l) := lk1
theorem br_taken (l : Addr) (t : Nat) : (brF l t).lookup ("taken" : Str) = some (nV t) := (lk2 (by decide +kernel)).trans lk1
theorem br_no (l : Addr) (t : Nat) {m : Str} (h1 : (m == ("source" : Str)) = false) (h2 : (m == ("taken" : Str)) = false) : (brF l t).lookup m = none := (lk2 h1).trans ((lk2 h2).trans rfl)
theorem br_put (l : Addr) (t q : Nat) : putF "taken" (nV q) (brF l t) = brF l q := (pt2 (by decide +kernel)).trans (congrArg _ pt1)
theorem br_new (l : Addr) : putF "taken" (nV 0) (putF "source" (.ref l) []) = brF l 0 := (pt2 (by decide +kernel)).trans rfl
/-- a reader at r over the bytes ns (at l), t bits taken -/
def BRAt (K : PySem.W.Frag) (H : Hp) (r l : Addr) (ns : List Nat) (t : Nat) : Prop :=
  (∃ dx, H r = some (.ins (cBR K) dx (brF l t))) ∧ H l = some (.lst (ns.map nV)) ∧ (∀ x ∈ ns, x < 256) ∧ ns.length ≤ 100000
def spIsRow : Sp := fun vs H Q _ => ∃ (a : Addr) (ns : List Nat), vs = [.ref a] ∧ H a = some (.lst (ns.map nV)) ∧ (∀ x ∈ ns, x < 256) ∧ ns.length ≤ 100000 ∧ ∀ H', Same H H' → Q (.bl true) H'
def spNeedRow : Sp := fun vs H Q _ => ∃ (a : Addr) (ns : List Nat), vs = [.ref a] ∧ H a = some (.lst (ns.map nV)) ∧ (∀ x ∈ ns, x < 256) ∧ ns.length ≤ 100000 ∧ ∀ H' p, Same H H' → H p = none → H' p = some (.lst (ns.map nV)) → Q (.ref p) H'
def spBRi (K : PySem.W.Frag) : Sp := fun vs H Q _ => ∃ (p dx a : Addr) (ns : List Nat), vs = [.ref p, .ref a] ∧ H p = some (.ins (cBR K) dx []) ∧ H a = some (.lst (ns.map nV)) ∧ (∀ x ∈ ns, x < 256) ∧ ns.length ≤ 100000 ∧
  ∀ H' l, BRAt K H' p l ns 0 → H l = none → Keep p H H' → Q .non H'
def spLeft (K : PySem.W.Frag) : Sp := fun vs H Q _ => ∃ (r l : Addr) (ns : List Nat) (t : Nat), vs = [.ref r] ∧ BRAt K H r l ns t ∧ t ≤ 8 * ns.length ∧ Q (nV (8 * ns.length - t)) H
def spPlace (K : PySem.W.Frag) : Sp := fun vs H Q _ => ∃ (r l : Addr) (ns : List Nat) (t : Nat), vs = [.ref r] ∧ BRAt K H r l ns t ∧ Q (nV t) H
def spGo (K : PySem.W.Frag) : Sp := fun vs H Q _ => ∃ (r l : Addr) (ns : List Nat) (t q : Nat), vs = [.ref r, nV q] ∧ BRAt K H r l ns t ∧ q ≤ 8 * ns.length ∧ ∀ H', BRAt K H' r l ns q → Keep r H H' → Q .non H'
def spTake (K : PySem.W.Frag) : Sp := fun vs H Q _ => ∃ (r l : Addr) (ns : List Nat) (t z : Nat), vs = [.ref r, nV z] ∧ BRAt K H r l ns t ∧ z ≤ 3 ∧ t + z ≤ 8 * ns.length ∧
  ∀ H' n, BRAt K H' r l ns (t + z) → Keep r H H' → (z = 1 → ∃ b : Bool, (bytesBits ns)[t]? = some b ∧ n = b.toNat) → Q (nV n) H'
section
variable {P : Program} {w : World} {K : PySem.W.Frag} {mg : Str → Option Value} {base : Heap}
theorem scIsRow : FnScope ["thing", "number"] ["thing"] (defScope sIsRow) := ⟨rfl, rfl, rfl, by decide +kernel, rfl, by decide +kernel, by decide +kernel⟩
theorem ok_isrow {f : Addr} {fd : FuncData} (F : FnP K "is_row" "is_row" sIsRow f fd) (T : Tx mg) (cB : Cal P w K mg base 1 "is_byte" spIsByte) : FnOk P w K mg base CX0 2 f fd ["thing"] spIsRow := by
  refine fnp_ok F scIsRow (fun vs H Q E h => ?_) (fun cdv A outer s H vs Q E hr h => ?_)
  · obtain ⟨a, ns, rfl, _⟩ := h
    rfl
  · obtain ⟨a, ns, rfl, ha, hb, hlen, k⟩ := h
    refine ⟨_, pss_one (ps_ret (pe_and (pe_callB call_isi (by rfl) T.isi boot_isinstance (pa_cons (pv 0) (pa_cons (pe_bltn (v := .ty "list") (by rfl) T.list boot_list rfl) pa_nil)))
      (pe_one (pe_callB (cr_all rfl) (by rfl) T.all boot_all (pa_cons (pe_lc (own := [("number", 1)]) (g := gName 1) (tt := tYes) rfl scIsRow.nd (pi_list (pv 0)) (blkOk_by (own := [("number", 1)]) (N := ["thing", "number"]) (sc := defScope sIsRow) (by decide +kernel))
        (fun _ _ _ _ _ => pg_name (i := 1) scIsRow.nd rfl (Or.inl rfl)) (fun _ _ _ _ _ => pts_nil) (fun _ _ _ _ _ => pe_f cB hr (by decide) (by rfl) (pa_cons (pv 1) pa_nil))) pa_nil))))), ?_⟩
    refine ⟨_, rfl, _, _, _, _, true, rfl, .ty _, .base (.lst ha), kit_ty (by decide +kernel), true, rfl, iteT ?_⟩
    refine ⟨_, rfl, a, rfl, ⟨_, SqL.of ha⟩, fun D hD => ?_⟩
    have naD : a ≠ D := ne_of_none ha hD
    refine lc_list (K := K) (a := a) (xs := ns.map nV) (fun i H' => Same H H' ∧ H' D = some (.lst ((List.replicate i true).map V.bl)))
      ⟨(Same.refl H).new hD, upd_same⟩ (fun i H' _ ⟨s1, _⟩ => SqL.of (s1 _ _ ha)) ?_ ?_
    · rintro i x H' hi ⟨s1, hDi⟩
      obtain ⟨n, hn, rfl⟩ := getElem_map_some hi
      have hlt : i < ns.length := (List.getElem?_eq_some_iff.mp hn).1
      refine ⟨rfl, _, rfl, (n : Int), rfl, Int.natCast_nonneg _, by have := hb n (List.mem_of_getElem? hn); omega, _, hDi, (by rw [List.length_map, List.length_replicate]; exact Nat.lt_of_lt_of_le hlt (Nat.le_trans hlen (by decide))), s1.put hD, ?_⟩
      rw [upd_same, List.replicate_succ', List.map_append]
      rfl
    · rintro H' ⟨s1, hDi⟩
      rw [List.length_map] at hDi
      refine ⟨D, _, rfl, SqL.of hDi, ?_⟩
      have e : (List.replicate ns.length true).all id = true := by
        rw [List.all_eq_true]
        intro b hb
        exact List.eq_of_mem_replicate hb
      rw [e]
      exact k H' s1
theorem scNeedRow : FnScope ["thing"] ["thing"] (defScope sNeedRow) := ⟨rfl, rfl, rfl, by decide +kernel, rfl, by decide +kernel, by decide +kernel⟩
theorem ok_needrow {f : Addr} {fd : FuncData} (F : FnP K "need_row" "need_row" sNeedRow f fd) (T : Tx mg) (cR : Cal P w K mg base 2 "is_row" spIsRow) : FnOk P w K mg base CX0 3 f fd ["thing"] spNeedRow := by
  refine fnp_ok F scNeedRow (fun vs H Q E h => ?_) (fun cdv A outer s H vs Q E hr h => ?_)
  · obtain ⟨a, ns, rfl, _⟩ := h
    rfl
  · obtain ⟨a, ns, rfl, ha, hb, hlen, k⟩ := h
    refine ⟨_, pss_cons (ps_if (pt_not (pt_val (pe_f cR hr (by decide) (by rfl) (pa_cons (pv 0) pa_nil)))) pss_never pss_nil) (pss_one (ps_ret (pe_callTy call_list_of (by rfl) T.list boot_list (pa_cons (pv 0) pa_nil)))), ?_⟩
    refine ⟨_, rfl, a, ns, rfl, ha, hb, hlen, fun H1 s1 => ⟨true, rfl, iteF ?_⟩⟩
    refine ⟨_, rfl, a, _, rfl, .inl (SqL.of (s1 _ _ ha)), fun p hp => ?_⟩
    exact k _ p (s1.new hp) (s1.free hp) upd_same
theorem scBRi : FnScope ["self", "row"] ["self", "row"] (defScope sBRi) := ⟨rfl, rfl, rfl, by decide +kernel, rfl, by decide +kernel, by decide +kernel⟩
theorem ok_bri {f : Addr} {fd : FuncData} (F : FnP K "__init__" "BitReader.__init__" sBRi f fd) (B : BRT K) (cR : Cal P w K mg base 3 "need_row" spNeedRow) : FnOk P w K mg base CX0 4 f fd ["self", "row"] (spBRi K) := by
  refine fnp_ok F scBRi (fun vs H Q E h => ?_) (fun cdv A outer s H vs Q E hr h => ?_)
  · obtain ⟨p, dx, a, ns, rfl, _⟩ := h
    rfl
  · obtain ⟨p, dx, a, ns, rfl, hp, ha, hb, hlen, k⟩ := h
    refine ⟨_, pss_cons (ps_fld (pv 0) (pe_f cR hr (by decide) (by rfl) (pa_cons (pv 1) pa_nil)) rfl) (pss_one (ps_fld (pv 0) (pe_n 0) rfl)), ?_⟩
    refine ⟨_, rfl, a, ns, rfl, ha, hb, hlen, fun H1 l s1 hl0 hl => ?_⟩
    have npl : p ≠ l := ne_of_none hp hl0
    refine ⟨_, rfl, p, _, dx, [], rfl, s1 _ _ hp, B.cl, B.n1, (by show 0 < 1000; decide), ?_⟩
    refine ⟨_, rfl, p, _, dx, _, rfl, upd_same, B.cl, B.n2, (by show 1 < 1000; decide), ?_⟩
    refine k _ l ⟨⟨dx, Eq.trans upd_same (congrArg (fun q => some (HO.ins (cBR K) dx q)) (br_new l))⟩, ?_, hb, hlen⟩ hl0 (((Keep.of s1).trans Keep.put).trans Keep.put)
    rw [upd_ne npl.symm, upd_ne npl.symm]
    exact hl
theorem scLeft : FnScope ["self"] ["self"] (defScope sLeft) := ⟨rfl, rfl, rfl, by decide +kernel, rfl, by decide +kernel, by decide +kernel⟩
theorem ok_left {f : Addr} {fd : FuncData} (F : FnP K "left" "BitReader.left" sLeft f fd) (B : BRT K) (T : Tx mg) : FnOk P w K mg base CX0 1 f fd ["self"] (spLeft K) := by
  obtain ⟨tb, hB⟩ := T.byte
  refine fnp_ok F scLeft (fun vs H Q E h => ?_) (fun cdv A outer s H vs Q E hr h => ?_)
  · obtain ⟨r, l, ns, t, rfl, _⟩ := h
    rfl
  · obtain ⟨r, l, ns, t, rfl, ⟨⟨dx, h1⟩, hl, hb, hlen⟩, ht, k⟩ := h
    refine ⟨_, pss_one (ps_ret (pe_op n_sub (pe_op n_mul (pe_gn (n := 8) (by rfl) hB) (pe_callB n_len (by rfl) T.len boot_len (pa_cons (pe_fld (pv 0) rfl) pa_nil))) (pe_fld (pv 0) rfl))), ?_⟩
    exact ⟨_, rfl, r, _, dx, _, _, rfl, h1, B.cl, B.n1, br_source _ _, l, ns, rfl, SqL.of hl, 8, ns.length, rfl, rfl, .inl (by decide), _, rfl, r, _, dx, _, _, rfl, h1, B.cl, B.n2, br_taken _ _, _, t, rfl, rfl, ht, k⟩
theorem scPlace : FnScope ["self"] ["self"] (defScope sPlace) := ⟨rfl, rfl, rfl, by decide +kernel, rfl, by decide +kernel, by decide +kernel⟩
theorem ok_place {f : Addr} {fd : FuncData} (F : FnP K "place" "BitReader.place" sPlace f fd) (B : BRT K) : FnOk P w K mg base CX0 1 f fd ["self"] (spPlace K) := by
  refine fnp_ok F scPlace (fun vs H Q E h => ?_) (fun cdv A outer s H vs Q E hr h => ?_)
  · obtain ⟨r, l, ns, t, rfl, _⟩ := h
    rfl
  · obtain ⟨r, l, ns, t, rfl, ⟨⟨dx, h1⟩, _⟩, k⟩ := h
    exact ⟨_, pss_one (ps_ret (pe_fld (pv 0) rfl)), _, rfl, r, _, dx, _, _, rfl, h1, B.cl, B.n2, br_taken _ _, k⟩
theorem scGo : FnScope ["self", "place"] ["self", "place"] (defScope sGo) := ⟨rfl, rfl, rfl, by decide +kernel, rfl, by decide +kernel, by decide +kernel⟩
theorem ok_go {f : Addr} {fd : FuncData} (F : FnP K "go" "BitReader.go" sGo f fd) (B : BRT K) (T : Tx mg) (cN : Cal P w K mg base 1 "is_number" spIsNum) : FnOk P w K mg base CX0 2 f fd ["self", "place"] (spGo K) := by
  obtain ⟨tb, hB⟩ := T.byte
  refine fnp_ok F scGo (fun vs H Q E h => ?_) (fun cdv A outer s H vs Q E hr h => ?_)
  · obtain ⟨r, l, ns, t, q, rfl, _⟩ := h
    rfl
  · obtain ⟨r, l, ns, t, q, rfl, ⟨⟨dx, h1⟩, hl, hb, hlen⟩, hq, k⟩ := h
    refine ⟨_, pss_cons (ps_if (PW.pt (pw_or (pt_not (pt_val (pe_f cN hr (by decide) (by rfl) (pa_cons (pv 1) pa_nil)))) (pw_or1 (pt_not (pt_chain n_le n_le (pe_n 0) (pv 1) (pe_op n_mul (pe_gn (n := 8) (by rfl) hB) (pe_callB n_len (by rfl) T.len boot_len (pa_cons (pe_fld (pv 0) rfl) pa_nil)))))))) pss_never pss_nil)
      (pss_one (ps_fld (pv 0) (pv 1) rfl)), ?_⟩
    refine ⟨_, rfl, (q : Int), rfl, true, rfl, iteF ?_⟩
    refine ⟨_, rfl, 0, q, rfl, rfl, true, congrArg V.bl (decide_eq_true (Nat.zero_le q)), iteT ?_⟩
    refine ⟨_, rfl, r, _, dx, _, _, rfl, h1, B.cl, B.n1, br_source _ _, l, ns, rfl, SqL.of hl, 8, ns.length, rfl, rfl, .inl (by decide), q, _, rfl, rfl, true, congrArg V.bl (decide_eq_true hq), iteF ?_⟩
    refine ⟨_, rfl, _, rfl, r, _, dx, _, rfl, h1, B.cl, B.n2, (by show 2 < 1000; decide), ?_⟩
    have nlr : l ≠ r := ne_of hl h1 (by intro q; cases q)
    exact k _ ⟨⟨dx, Eq.trans upd_same (congrArg (fun q => some (HO.ins (cBR K) dx q)) (br_put l t q))⟩, (upd_ne nlr).trans hl, hb, hlen⟩ Keep.put
/-- the number of some bytes -/
def numOf (bs : List Nat) : Nat := bs.foldl (fun n b => n * 2 ^ 8 + b) 0
theorem numOf_snoc (bs : List Nat) (b : Nat) : numOf (bs ++ [b]) = numOf bs * 2 ^ 8 + b := by
  unfold numOf
  rw [List.foldl_append]
  rfl
theorem numOf_le2 {a b : Nat} (ha : a < 256) (hb : b < 256) : numOf [a, b] < 65536 := by
  show (0 * 2 ^ 8 + a) * 2 ^ 8 + b < 65536
  omega
theorem numOf_small : ∀ {bs : List Nat}, bs.length ≤ 2 → (∀ x ∈ bs, x < 256) → numOf bs < 2 ^ 64
  | [], _, _ => by decide
  | [a], _, h => by
    have ha := h a (by simp)
    show 0 * 2 ^ 8 + a < 2 ^ 64
    omega
  | [a, b], _, h => Nat.lt_trans (numOf_le2 (h a (by simp)) (h b (by simp))) (by decide)
  | a :: b :: c :: r, h, _ => by
    simp only [List.length_cons] at h
    omega
theorem take_more {α : Type} {l : List α} {i : Nat} {x : α} (h : l[i]? = some x) : l.take (i + 1) = l.take i ++ [x] := by
  rw [List.take_add_one, h]
  rfl
theorem scTake : FnScope ["self", "size", "begin", "over", "end", "rest", "number", "byte"] ["self", "size"] (defScope sTake) := ⟨rfl, rfl, rfl, by decide +kernel, rfl, by decide +kernel, by decide +kernel⟩
theorem ok_take {f : Addr} {fd : FuncData} (F : FnP K "take" "BitReader.take" sTake f fd) (B : BRT K) (T : Tx mg) (cS : Cal P w K mg base 2 "need_size" spNeedSize) (cL : Met P w K mg base 1 (cBR K) "left" (spLeft K)) : FnOk P w K mg base CX0 3 f fd ["self", "size"] (spTake K) := by
  obtain ⟨tb, hB⟩ := T.byte
  refine fnp_ok F scTake (fun vs H Q E h => ?_) (fun cdv A outer s H vs Q E hr h => ?_)
  · obtain ⟨r, l, ns, t, z, rfl, _⟩ := h
    rfl
  · obtain ⟨r, l, ns, t, z, rfl, R, hz, htz, k⟩ := h
    obtain ⟨⟨dx, h1⟩, hl, hb, hlen⟩ := id R
    refine ⟨_, pss_cons (ps_expr (pe_f cS hr (by decide) (by rfl) (pa_cons (pv 1) pa_nil)))
      (pss_cons (ps_if (pt_cmpR n_lt (pe_m0 cL hr (by decide) (pv 0)) (pv 1) (nomark _)) pss_never pss_nil)
      (pss_cons (ps_asg (pe_callB n_divmod (by rfl) T.divmod boot_divmod (pa_cons (pe_fld (pv 0) rfl) (pa_cons (pe_gn (n := 8) (by rfl) hB) pa_nil))) (pg_tup (by rfl) (pgs_cons (pg_name (i := 2) scTake.nd rfl (.inl rfl)) (pgs_cons (pg_name (i := 3) scTake.nd rfl (.inl rfl)) pgs_nil))))
      (pss_cons (ps_asg (pe_callB n_divmod (by rfl) T.divmod boot_divmod (pa_cons (pe_op n_sub (pe_op n_add (pe_op n_add (pe_fld (pv 0) rfl) (pv 1)) (pe_gn (n := 8) (by rfl) hB)) (pe_n 1)) (pa_cons (pe_gn (n := 8) (by rfl) hB) pa_nil))) (pg_tup (by rfl) (pgs_cons (pg_name (i := 4) scTake.nd rfl (.inl rfl)) (pgs_cons (pg_name (i := 5) scTake.nd rfl (.inl rfl)) pgs_nil))))
      (pss_cons (ps_set (i := 6) scTake.nd rfl (.inl rfl) (pe_n 0))
      (pss_cons (ps_for PassesOwn.never rfl (pi_list (pe_slice sl_list (pe_fld (pv 0) rfl) (po_some (pv 2)) (po_some (pv 4)))) (pg_name (i := 7) scTake.nd rfl (.inl rfl))
        (pss_one (ps_set (i := 6) scTake.nd rfl (.inl rfl) (pe_op n_or (pe_op n_shl (pv 6) (pe_gn (n := 8) (by rfl) hB)) (pv 7)))))
      (pss_cons (ps_set (i := 6) scTake.nd rfl (.inl rfl) (pe_op n_mask (pv 6) (pe_op n_sub (pe_op n_shl (pe_n 1) (pe_op n_sub (pe_op n_mul (pe_gn (n := 8) (by rfl) hB) (pe_op n_sub (pv 4) (pv 2))) (pv 3))) (pe_n 1))))
      (pss_cons (ps_fldaug (pv 0) (pv 1) i_add)
      (pss_one (ps_ret (pe_op n_shr (pv 6) (pe_op n_sub (pe_op n_sub (pe_gn (n := 8) (by rfl) hB) (pe_n 1)) (pv 5)))))))))))), ?_⟩
    refine ⟨_, rfl, (z : Int), rfl, Int.natCast_nonneg _, by omega, ?_⟩
    refine ⟨_, rfl, r, dx, _, rfl, h1, br_no _ _ (by decide +kernel) (by decide +kernel), r, l, ns, t, rfl, R, by omega, _, rfl, _, z, rfl, rfl, _, rfl, ifF (by omega) ?_⟩
    refine ⟨_, rfl, r, _, dx, _, _, rfl, h1, B.cl, B.n2, br_taken _ _, t, 8, rfl, by decide, by decide, fun p hp => ⟨p, _, rfl, SqT.of upd_same, rfl, _, _, rfl, _, _, rfl, rfl, ?_⟩⟩
    have hr1 : upd H p (.tup [nV (t / 8), nV (t % 8)]) r = some (.ins (cBR K) dx (brF l t)) := (upd_ne (ne_of_none h1 hp)).trans h1
    have hl1 : upd H p (.tup [nV (t / 8), nV (t % 8)]) l = some (.lst (ns.map nV)) := (upd_ne (ne_of_none hl hp)).trans hl
    have k1 : Keep r H (upd H p (.tup [nV (t / 8), nV (t % 8)])) := Keep.of ((Same.refl H).new hp)
    generalize upd H p (.tup [nV (t / 8), nV (t % 8)]) = H1 at hr1 hl1 k1
    refine ⟨_, rfl, r, _, dx, _, _, rfl, hr1, B.cl, B.n2, br_taken _ _, _, rfl, t, z, rfl, rfl, t + z, 8, rfl, rfl, t + z + 8, 1, rfl, rfl, by omega, t + z + 8 - 1, 8, rfl, by decide, by decide, fun p2 hp2 => ⟨p2, _, rfl, SqT.of upd_same, rfl, _, _, rfl, _, _, rfl, rfl, ?_⟩⟩
    have hr2 : upd H1 p2 (.tup [nV ((t + z + 8 - 1) / 8), nV ((t + z + 8 - 1) % 8)]) r = some (.ins (cBR K) dx (brF l t)) := (upd_ne (ne_of_none hr1 hp2)).trans hr1
    have hl2 : upd H1 p2 (.tup [nV ((t + z + 8 - 1) / 8), nV ((t + z + 8 - 1) % 8)]) l = some (.lst (ns.map nV)) := (upd_ne (ne_of_none hl1 hp2)).trans hl1
    have k2 : Keep r H (upd H1 p2 (.tup [nV ((t + z + 8 - 1) / 8), nV ((t + z + 8 - 1) % 8)])) := k1.trans (Keep.of ((Same.refl H1).new hp2))
    generalize upd H1 p2 (.tup [nV ((t + z + 8 - 1) / 8), nV ((t + z + 8 - 1) % 8)]) = H2 at hr2 hl2 k2
    have hbe : t / 8 ≤ (t + z + 8 - 1) / 8 := by omega
    have hel : (t + z + 8 - 1) / 8 ≤ ns.length := by omega
    have hcut : cutV (ns.map nV) (some ((t / 8 : Nat) : Int)) (some (((t + z + 8 - 1) / 8 : Nat) : Int)) = ((ns.drop (t / 8)).take ((t + z + 8 - 1) / 8 - t / 8)).map nV := by
      rw [cutV_nat hbe (by rw [List.length_map]; exact hel), List.map_take, List.map_drop]
    -- the bytes that are touched
    have hm2 : ((ns.drop (t / 8)).take ((t + z + 8 - 1) / 8 - t / 8)).length ≤ 2 := by
      rw [List.length_take]
      omega
    have hmb : ∀ x ∈ (ns.drop (t / 8)).take ((t + z + 8 - 1) / 8 - t / 8), x < 256 := fun x hx => hb x (List.mem_of_mem_drop (List.mem_of_mem_take hx))
    have hone : z = 1 → ∃ b, ns[t / 8]? = some b ∧ (ns.drop (t / 8)).take ((t + z + 8 - 1) / 8 - t / 8) = [b] := fun hz1 => by
      have hlt : t / 8 < ns.length := by omega
      refine ⟨ns[t / 8], List.getElem?_eq_getElem hlt, ?_⟩
      have e1 : (t + z + 8 - 1) / 8 - t / 8 = 1 := by omega
      rw [e1, List.drop_eq_getElem_cons hlt]
      rfl
    generalize (ns.drop (t / 8)).take ((t + z + 8 - 1) / 8 - t / 8) = ms at hcut hm2 hmb hone
    refine ⟨_, rfl, r, _, dx, _, _, rfl, hr2, B.cl, B.n1, br_source _ _, _, rfl, _, rfl, _, rfl, _, rfl, l, _, rfl, SqL.of hl2, fun q hq => ?_⟩
    rw [hcut]
    have hr3 : upd H2 q (.lst (ms.map nV)) r = some (.ins (cBR K) dx (brF l t)) := (upd_ne (ne_of_none hr2 hq)).trans hr2
    have hl3 : upd H2 q (.lst (ms.map nV)) l = some (.lst (ns.map nV)) := (upd_ne (ne_of_none hl2 hq)).trans hl2
    have k3 : Keep r H (upd H2 q (.lst (ms.map nV))) := k2.trans (Keep.of ((Same.refl H2).new hq))
    have hq3 : upd H2 q (.lst (ms.map nV)) q = some (.lst (ms.map nV)) := upd_same
    generalize upd H2 q (.lst (ms.map nV)) = H3 at hr3 hl3 k3 hq3
    refine ⟨q, rfl, ⟨_, SqL.of hq3⟩, for_list (K := K) (a := q) (xs := ms.map nV) (fun i σ H' => ∃ v : Option V, σ = [some (.ref r), some (nV z), some (nV (t / 8)), some (nV (t % 8)), some (nV ((t + z + 8 - 1) / 8)), some (nV ((t + z + 8 - 1) % 8)), some (nV (numOf (ms.take i))), v] ∧ H' = H3)
      ⟨none, rfl, rfl⟩ (fun i σ H' _ ⟨_, _, e⟩ => by rw [e]; exact SqL.of hq3) ?_ ?_⟩
    · rintro i y σ H' hi ⟨v, rfl, rfl⟩
      obtain ⟨n, hn, rfl⟩ := getElem_map_some hi
      have hnb : n < 2 ^ 8 := hmb n (List.mem_of_getElem? hn)
      refine ⟨_, rfl, _, 8, rfl, rfl, ⟨numOf_small (by rw [List.length_take]; omega) fun x hx => hmb x (List.mem_of_mem_take hx), by decide⟩, _, rfl, numOf (ms.take i), 8, n, rfl, rfl, hnb, ?_⟩
      refine ⟨some (nV n), ?_, rfl⟩
      rw [take_more hn, numOf_snoc]
      rfl
    · rintro σ H' ⟨v, rfl, rfl⟩
      rw [List.length_map, List.take_length]
      have hov : t % 8 ≤ 8 * ((t + z + 8 - 1) / 8 - t / 8) := by omega
      refine ⟨_, rfl, _, rfl, _, rfl, _, _, rfl, rfl, hbe, 8, _, rfl, rfl, .inl (by decide), _, rfl, _, _, rfl, rfl, hov, 1, 8 * ((t + z + 8 - 1) / 8 - t / 8) - t % 8, rfl, rfl, ⟨by decide, by omega⟩, 2 ^ (8 * ((t + z + 8 - 1) / 8 - t / 8) - t % 8), 1, congrArg nV (Nat.one_mul _), rfl, Nat.two_pow_pos _, _, _, rfl, rfl, ?_⟩
      refine ⟨_, rfl, r, _, dx, _, _, rfl, hr3, B.cl, B.n2, br_taken _ _, _, rfl, t, z, rfl, rfl, dx, _, hr3, (by show 2 < 1000; decide), ?_⟩
      refine ⟨_, rfl, 8, 1, rfl, rfl, by decide, _, rfl, 8 - 1, (t + z + 8 - 1) % 8, rfl, rfl, by omega, _, _, rfl, rfl, ?_⟩
      have nlr : l ≠ r := ne_of hl3 hr3 (by intro q; cases q)
      refine k _ _ ⟨⟨dx, Eq.trans upd_same (congrArg (fun q => some (HO.ins (cBR K) dx q)) (br_put l t (t + z)))⟩, (upd_ne nlr).trans hl3, hb, hlen⟩ (k3.trans Keep.put) fun hz1 => ?_
      obtain ⟨b, hb1, hb2⟩ := hone hz1
      refine ⟨_, bytesBits_at ns t b hb1, ?_⟩
      rw [hb2, toNat_bit]
      have e1 : numOf [b] = b := by
        show 0 * 2 ^ 8 + b = b
        omega
      have e2 : 8 * ((t + z + 8 - 1) / 8 - t / 8) - t % 8 = (7 - t % 8) + 1 := by omega
      have e3 : 8 - 1 - (t + z + 8 - 1) % 8 = 7 - t % 8 := by omega
      rw [e1, e2, e3, Nat.pow_succ, Nat.mod_mul_right_div_self]
end
end Bale
set_option Elab.async false
set_option linter.all false
set_option maxRecDepth 100000
set_option maxHeartbeats 4000000
/-! The law's cells, and lengths that fit. -/
namespace Bale
open PySem PySem.Spec PyProof.Rows L2
abbrev sCell : Stmt := top 42
abbrev sMixed : Stmt := top 43
abbrev sLens : Stmt := top 45
def spCellA (K : PySem.W.Frag) : Sp := fun vs H Q _ => ∃ (a : Addr) (ns : List Int) (k : Nat), vs = [.ref a, nV k] ∧ SqL K H a (ns.map V.int) ∧ ∀ z : Int, Q (.int z) H
def spMixed : Sp := fun vs H Q _ => ∃ (c : Int) (k : Nat), vs = [.int c, nV k] ∧ k ≤ 100000 ∧ ∀ m : Nat, Q (nV m) H
def spLens (K : PySem.W.Frag) : Sp := fun vs H Q _ => ∃ (a : Addr) (ns : List Int) (f n m : Nat), vs = [.ref a, nV f, nV n, nV m] ∧ SqL K H a (ns.map V.int) ∧ 1 ≤ m ∧ m ≤ 12 ∧ 1 ≤ n ∧ n ≤ 300 ∧
  ∀ (H' : Hp) (p : Addr) (ls : List Nat), Same H H' → H p = none → H' p = some (.lst (ls.map nV)) → Lens ls → Q (.ref p) H'
abbrev rSh1 : R2 := fun x y H Q => ∃ b : Nat, x = nV 1 ∧ y = nV b ∧ b ≤ 1000000 ∧ Q (nV (2 ^ b)) H
section
variable {P : Program} {w : World} {K : PySem.W.Frag} {mg : Str → Option Value} {base : Heap}
theorem scCell : FnScope ["_law_script", "_law_k"] ["_law_script", "_law_k"] (defScope sCell) := ⟨rfl, rfl, rfl, by decide +kernel, rfl, by decide +kernel, by decide +kernel⟩
theorem ok_cell {f : Addr} {fd : FuncData} (F : FnP K "_law_cell_at" "_law_cell_at" sCell f fd) (T : Tx mg) : FnOk P w K mg base CX0 1 f fd ["_law_script", "_law_k"] (spCellA K) := by
  refine fnp_ok F scCell (fun vs H Q E h => ?_) (fun cdv A outer s H vs Q E hr h => ?_)
  · obtain ⟨a, ns, k, rfl, _⟩ := h
    rfl
  · obtain ⟨a, ns, k, rfl, hS, q⟩ := h
    refine ⟨_, pss_cons (ps_if (pt_cmpR n_lt (pv 1) (pe_callB call_len_seq (by rfl) T.len boot_len (pa_cons (pv 0) pa_nil)) (nomark _)) (pss_one (ps_ret (pe_ix n_ix (pv 0) (pv 1) (fun _ _ => rfl)))) pss_nil) (pss_one (ps_ret pe_int)), ?_⟩
    refine ⟨_, rfl, _, rfl, a, _, rfl, .inl hS, k, (ns.map V.int).length, rfl, rfl, _, rfl, ?_⟩
    refine ite2 (fun c => ?_) (fun c => q 0)
    have hk : k < (ns.map V.int).length := of_decide_eq_true c
    refine ⟨_, rfl, _, rfl, a, _, k, (ns.map V.int)[k], rfl, rfl, hS, List.getElem?_eq_getElem hk, ?_⟩
    rw [List.getElem_map]
    exact q _
theorem scMixed : FnScope ["_law_cell", "_law_k"] ["_law_cell", "_law_k"] (defScope sMixed) := ⟨rfl, rfl, rfl, by decide +kernel, rfl, by decide +kernel, by decide +kernel⟩
theorem ok_mixed {f : Addr} {fd : FuncData} (F : FnP K "_law_mixed" "_law_mixed" sMixed f fd) : FnOk P w K mg base CX0 1 f fd ["_law_cell", "_law_k"] spMixed := by
  refine fnp_ok F scMixed (fun vs H Q E h => ?_) (fun cdv A outer s H vs Q E hr h => ?_)
  · obtain ⟨c, k, rfl, _⟩ := h
    rfl
  · obtain ⟨c, k, rfl, hk, q⟩ := h
    refine ⟨_, pss_one (ps_ret (pe_op m_mod (pe_op n_mul (pe_op m_mod (pe_op op_mul (pe_op op_add (pe_op op_add (pv 0) (pe_op n_mul (pe_op n_mul (pe_n 7919) (pv 1)) (pv 1))) (pe_op n_mul (pe_n 104729) (pv 1))) pe_int) (pe_n 2147483647)) (pe_n 69621)) (pe_n 2147483629))), ?_⟩
    refine ⟨_, rfl, _, rfl, 7919, k, rfl, rfl, .inl (by decide), _, rfl, 7919 * k, k, rfl, rfl, .inr (Nat.lt_of_le_of_lt hk (by decide)), _, _, rfl, rfl, _, rfl, 104729, k, rfl, rfl, .inl (by decide), _, _, rfl, rfl, _, _, rfl, rfl, .inr ⟨by decide, by decide⟩, _, 2147483647, rfl, rfl, by decide, fun m hm => ?_⟩
    exact ⟨m, 69621, rfl, rfl, .inr (by decide), _, 2147483629, rfl, rfl, by decide, fun m2 hm2 => q m2⟩
theorem scLens : FnScope ["_law_script", "_law_first", "_law_many", "_law_most", "_law_room", "_law_lengths_here", "_law_k", "_law_number", "_law_length"] ["_law_script", "_law_first", "_law_many", "_law_most"] (defScope sLens) := ⟨rfl, rfl, rfl, by decide +kernel, rfl, by decide +kernel, by decide +kernel⟩
theorem ok_lens {f : Addr} {fd : FuncData} (F : FnP K "_law_lengths" "_law_lengths" sLens f fd) (T : Tx mg) (cC : Cal P w K mg base 1 "_law_cell_at" (spCellA K)) (cM : Cal P w K mg base 1 "_law_mixed" spMixed) :
    FnOk P w K mg base CX0 2 f fd ["_law_script", "_law_first", "_law_many", "_law_most"] (spLens K) := by
  refine fnp_ok F scLens (fun vs H Q E h => ?_) (fun cdv A outer s H vs Q E hr h => ?_)
  · obtain ⟨a, ns, f, n, m, rfl, _⟩ := h
    rfl
  · obtain ⟨a, ns, f, n, m, rfl, hS, m1, m12, n1, n300, q⟩ := h
    refine ⟨_, pss_cons (ps_set (i := 4) scLens.nd rfl (.inl rfl) (pe_op n_sh1 (pe_n 1) (pv 3)))
      (pss_cons (ps_set (i := 5) scLens.nd rfl (.inl rfl) (pe_lst pa_nil))
      (pss_cons (ps_for PassesOwn.never rfl (pi_range1 rfl T.range (pa_cons (pv 2) pa_nil)) (pg_name (i := 6) scLens.nd rfl (.inl rfl))
        (pss_cons (ps_set (i := 7) scLens.nd rfl (.inl rfl) (pe_f cM hr (by decide) (by rfl) (pa_cons (pe_f cC hr (by decide) (by rfl) (pa_cons (pv 0) (pa_cons (pe_op n_add (pv 1) (pe_op n_mod (pv 6) (pe_n 20))) pa_nil))) (pa_cons (pv 6) pa_nil))))
        (pss_cons (ps_set (i := 8) scLens.nd rfl (.inl rfl) (pe_op n_mod (pe_op n_div (pv 7) (pe_n 5)) (pe_op n_add (pv 3) (pe_n 1))))
        (pss_cons (ps_if (pt_cmpR n_eq (pe_op n_mod (pv 7) (pe_n 5)) (pe_n 0) (nomark _)) (pss_one (ps_set (i := 8) scLens.nd rfl (.inl rfl) (pe_n 0))) pss_nil)
        (pss_cons (ps_if (PW.pt (pw_and (pt_cmpR n_gt (pv 8) (pe_n 0) (nomark _)) (pw_and1 (pt_cmpR n_gt (pe_op n_sh1 (pe_n 1) (pe_op n_sub (pv 3) (pv 8))) (pv 4) (nomark _)))))
          (pss_one (ps_set (i := 8) scLens.nd rfl (.inl rfl) (pe_ix n_ix (pe_lst (pa_cons (pe_n 0) (pa_cons (pv 3) pa_nil))) (pe_callTy call_int1 (by rfl) T.int boot_int (pa_cons (pe_cmpR n_gt (pv 4) (pe_n 0) (nomark _)) pa_nil)) (fun _ _ => rfl)))) pss_nil)
        (pss_cons (ps_if (pt_cmpR n_gt (pv 8) (pe_n 0) (nomark _)) (pss_one (ps_set (i := 4) scLens.nd rfl (.inl rfl) (pe_op n_sub (pv 4) (pe_op n_sh1 (pe_n 1) (pe_op n_sub (pv 3) (pv 8)))))) pss_nil)
        (pss_one (ps_expr (pe_bm PySem.F.plainAttrs_list PySem.F.slot_list_append PySem.F.type_list_append mt_append (pv 5) (pa_cons (pv 8) pa_nil))))))))))
      (pss_cons (ps_if (pt_cmpR n_eq (pe_bm PySem.F.plainAttrs_list PySem.F.slot_list_count PySem.F.type_list_count mt_lcount (pv 5) (pa_cons pe_int pa_nil)) (pv 2) (nomark _))
        (pss_one (ps_asg (pe_op n_add (pe_n 1) (pe_op m_mod (pe_f cC hr (by decide) (by rfl) (pa_cons (pv 0) (pa_cons (pv 1) pa_nil))) (pv 3)))
          (pg_sub (pv 5) (pe_op m_mod (pe_f cC hr (by decide) (by rfl) (pa_cons (pv 0) (pa_cons (pv 1) pa_nil))) (pv 2)) n_set))) pss_nil)
      (pss_one (ps_ret (pv 5)))))), ?_⟩
    refine ⟨_, rfl, m, rfl, rfl, by omega, ?_⟩
    refine ⟨Nat.zero_le _, fun l hl => ?_⟩
    -- behind i turns: the lengths so far stand at l, they fit, this room is left
    refine ⟨_, rfl, (n : Int), rfl, by omega, by omega, for_range (lo := 0) (n := n) (fun i σ H' => ∃ (ls : List Nat) (room : Nat) (v6 v7 v8 : Option V), σ = [some (.ref a), some (nV f), some (nV n), some (nV m), some (nV room), some (.ref l), v6, v7, v8] ∧ Same H H' ∧ H' l = some (.lst (ls.map nV)) ∧ ls.length = i ∧ Fits m ls room)
      ⟨[], 2 ^ m, none, none, none, rfl, (Same.refl H).new hl, upd_same, rfl, Fits.nil m⟩ ?_ ?_⟩
    · rintro i σ H' hi ⟨ls, room, v6, v7, v8, rfl, s1, hl1, hlen, F1⟩
      have ei : V.int (0 + (i : Int)) = nV i := congrArg V.int (Int.zero_add _)
      rw [ei]
      have hnl : (ls.map nV).length < sizeLine := by
        rw [List.length_map, hlen]
        exact Nat.lt_of_lt_of_le hi (Nat.le_trans n300 (by decide))
      have fin : ∀ (H2 : Hp) (l0 room' : Nat) (v7' : Option V), Same H H2 → H2 l = some (.lst (ls.map nV)) → Fits m (ls ++ [l0]) room' →
          ∃ (ls' : List Nat) (room : Nat) (v6 v7 v8 : Option V), [some (.ref a), some (nV f), some (nV n), some (nV m), some (nV room'), some (.ref l), some (nV i), v7', some (nV l0)] = [some (.ref a), some (nV f), some (nV n), some (nV m), some (nV room), some (.ref l), v6, v7, v8] ∧ Same H (upd H2 l (.lst (ls.map nV ++ [nV l0]))) ∧ upd H2 l (.lst (ls.map nV ++ [nV l0])) l = some (.lst (ls'.map nV)) ∧ ls'.length = i + 1 ∧ Fits m ls' room := fun H2 l0 room' v7' s2 h2 F2 =>
        ⟨ls ++ [l0], room', _, _, _, rfl, s2.put hl, (by rw [upd_same, List.map_append]; rfl), (by rw [List.length_append, hlen]; rfl), F2⟩
      have room64 : room < 2 ^ 64 := by
        have h1 := F1.sum
        have h2 : 2 ^ m ≤ 2 ^ 12 := Nat.pow_le_pow_right (by decide) m12
        omega
      -- behind the length is chosen: the room, the list
      have tail : ∀ (H2 : Hp) (l0 : Nat) (v7' : Option V), Same H H2 → H2 l = some (.lst (ls.map nV)) → l0 ≤ m → (0 < l0 → 2 ^ (m - l0) ≤ room) → ∀ {D : Ends}, (∀ σ' H3, (∃ (ls' : List Nat) (room : Nat) (v6 v7 v8 : Option V), σ' = [some (.ref a), some (nV f), some (nV n), some (nV m), some (nV room), some (.ref l), v6, v7, v8] ∧ Same H H3 ∧ H3 l = some (.lst (ls'.map nV)) ∧ ls'.length = i + 1 ∧ Fits m ls' room) → D.nx σ' H3) →
          tSeq (tIfS (tTest (tOp (rN0 fun a b => .bl (decide (b < a))) (tVar 8) (tC (nV 0)))) (tAsg (tOp (rN (fun a b => b ≤ a) fun a b => nV (a - b)) (tVar 4) (tOp rSh1 (tC (nV 1)) (tOp (rN (fun a b => b ≤ a) fun a b => nV (a - b)) (tVar 3) (tVar 8)))) (gName 4)) tNext)
            (tDrop (tBM K "list" rAppend (tVar 5) (tCons (tVar 8) tNil))) D [some (.ref a), some (nV f), some (nV n), some (nV m), some (nV room), some (.ref l), some (nV i), v7', some (nV l0)] H2 := by
        intro H2 l0 v7' s2 h2 hm hr2 D hD
        refine ⟨_, rfl, l0, 0, rfl, rfl, _, rfl, ?_⟩
        refine ite2 (fun c => ?_) (fun c => ?_)
        · have c0 : 0 < l0 := of_decide_eq_true c
          refine ⟨_, rfl, _, rfl, _, rfl, m, l0, rfl, rfl, hm, m - l0, rfl, rfl, by omega, room, 2 ^ (m - l0), rfl, rfl, hr2 c0, ?_⟩
          exact ⟨_, rfl, .inl ⟨rfl, _, SqL.of h2⟩, _, rfl, l, _, _, rfl, rfl, h2, hnl, hD _ _ (fin H2 l0 _ v7' s2 h2 (F1.one c0 hm (hr2 c0)))⟩
        · have c0 : l0 = 0 := Nat.eq_zero_of_not_pos fun q => c (decide_eq_true q)
          subst c0
          exact ⟨_, rfl, .inl ⟨rfl, _, SqL.of h2⟩, _, rfl, l, _, _, rfl, rfl, h2, hnl, hD _ _ (fin H2 0 room v7' s2 h2 F1.zero)⟩
      -- the test of the room, from a first choice
      have mid : ∀ (l0 : Nat) (v7' : Option V), l0 ≤ m → ∀ {D : Ends}, (∀ σ' H3, (∃ (ls' : List Nat) (room : Nat) (v6 v7 v8 : Option V), σ' = [some (.ref a), some (nV f), some (nV n), some (nV m), some (nV room), some (.ref l), v6, v7, v8] ∧ Same H H3 ∧ H3 l = some (.lst (ls'.map nV)) ∧ ls'.length = i + 1 ∧ Fits m ls' room) → D.nx σ' H3) →
          tSeq (tIfS (tAnd (tTest (tOp (rN0 fun a b => .bl (decide (b < a))) (tVar 8) (tC (nV 0)))) (tTest (tOp (rN0 fun a b => .bl (decide (b < a))) (tOp rSh1 (tC (nV 1)) (tOp (rN (fun a b => b ≤ a) fun a b => nV (a - b)) (tVar 3) (tVar 8))) (tVar 4))))
              (tAsg (tOp (fun x y H Q => ∃ (p : Addr) (xs : List V) (i : Nat) (v : V), x = .ref p ∧ y = nV i ∧ SqL K H p xs ∧ xs[i]? = some v ∧ Q v H) (tLst (tCons (tC (nV 0)) (tCons (tVar 3) tNil))) (tCB (fun xs H Q => (∃ i, xs = [.int i] ∧ Q (.int i) H) ∨ ∃ k, xs = [.bl k] ∧ Q (.int (if k then 1 else 0)) H) (tCons (tOp (rN0 fun a b => .bl (decide (b < a))) (tVar 4) (tC (nV 0))) tNil))) (gName 8)) tNext)
            (tSeq (tIfS (tTest (tOp (rN0 fun a b => .bl (decide (b < a))) (tVar 8) (tC (nV 0)))) (tAsg (tOp (rN (fun a b => b ≤ a) fun a b => nV (a - b)) (tVar 4) (tOp rSh1 (tC (nV 1)) (tOp (rN (fun a b => b ≤ a) fun a b => nV (a - b)) (tVar 3) (tVar 8)))) (gName 4)) tNext)
            (tDrop (tBM K "list" rAppend (tVar 5) (tCons (tVar 8) tNil)))) D [some (.ref a), some (nV f), some (nV n), some (nV m), some (nV room), some (.ref l), some (nV i), v7', some (nV l0)] H' := by
        intro l0 v7' hm D hD
        refine ⟨_, rfl, l0, 0, rfl, rfl, _, rfl, ?_⟩
        by_cases c0 : 0 < l0
        · refine ifT c0 ?_
          refine ⟨_, rfl, _, rfl, m, l0, rfl, rfl, hm, m - l0, rfl, rfl, by omega, _, rfl, 2 ^ (m - l0), room, rfl, rfl, _, rfl, ?_⟩
          refine ite2 (fun c => ?_) (fun c => ?_)
          · -- no room: the greatest one, or none
            have c1 : room < 2 ^ (m - l0) := of_decide_eq_true c
            refine ⟨_, rfl, by show 2 ≤ sizeLine; decide, fun p hp => ⟨_, rfl, room, 0, rfl, rfl, .inr ⟨_, rfl, ?_⟩⟩⟩
            have nlp : l ≠ p := ne_of_none hl1 hp
            by_cases hr0 : 0 < room
            · rw [decide_eq_true hr0]
              refine ⟨p, _, 1, nV m, rfl, rfl, SqL.of upd_same, rfl, ?_⟩
              exact tail _ m v7' (s1.new hp) ((upd_ne nlp).trans hl1) (Nat.le_refl m) (fun _ => by rw [Nat.sub_self]; exact hr0) hD
            · rw [decide_eq_false hr0]
              refine ⟨p, _, 0, nV 0, rfl, rfl, SqL.of upd_same, rfl, ?_⟩
              exact tail _ 0 v7' (s1.new hp) ((upd_ne nlp).trans hl1) (Nat.zero_le m) (fun h => absurd h (by decide)) hD
          · exact tail H' l0 v7' s1 hl1 hm (fun _ => Nat.le_of_not_lt fun q => c (decide_eq_true q)) hD
        · exact ifF c0 (tail H' l0 v7' s1 hl1 hm (fun h => absurd h c0) hD)
      refine ⟨_, rfl, _, rfl, _, rfl, i, 20, rfl, rfl, (by show (0 : Nat) < 20; decide), f, i % 20, rfl, rfl, a, ns, f + i % 20, rfl, s1.seq hS, fun z => ⟨_, rfl, z, i, rfl, by omega, fun x => ?_⟩⟩
      refine ⟨_, rfl, x, 5, rfl, rfl, ⟨by decide, by decide⟩, _, rfl, m, 1, rfl, rfl, x / 5, m + 1, rfl, rfl, Nat.succ_pos m, ?_⟩
      refine ⟨_, rfl, x, 5, rfl, rfl, (by show (0 : Nat) < 5; decide), x % 5, 0, rfl, rfl, _, rfl, ?_⟩
      have hx : x / 5 % (m + 1) ≤ m := Nat.le_of_lt_succ (Nat.mod_lt _ (Nat.succ_pos m))
      refine ite2 (fun c => ?_) (fun c => ?_)
      · exact mid 0 _ (Nat.zero_le m) fun σ' H3 h => h
      · exact mid _ _ hx fun σ' H3 h => h
    · rintro σ H' ⟨ls, room, v6, v7, v8, rfl, s1, hl1, hlen, F1⟩
      have hint : H' l = some (.lst ((ls.map fun x : Nat => (x : Int)).map V.int)) := by
        rw [List.map_map]
        exact hl1
      have ecount : (ls.map fun x : Nat => (x : Int)).count 0 = ls.count 0 := by
        rw [List.count_eq_length_filter, List.count_eq_length_filter, List.filter_map, List.length_map]
        congr 1
        apply List.filter_congr
        intro x _
        show ((x : Int) == 0) = (x == 0)
        cases x with
        | zero => rfl
        | succ x => rfl
      refine ⟨_, rfl, .inl ⟨rfl, _, SqL.of hl1⟩, l, _, 0, rfl, rfl, SqL.of hint, _, rfl, (ls.map fun x : Nat => (x : Int)).count 0, n, rfl, rfl, _, rfl, ?_⟩
      have le12 : ∀ x ∈ ls, x ≤ 12 := fun x hx => Nat.le_trans (F1.le x hx) m12
      refine ite2 (fun c => ?_) (fun c => ?_)
      · have c0 : ls.count 0 = ls.length := by
          rw [← ecount, hlen]
          exact of_decide_eq_true c
        have z0 : ∀ x ∈ ls, x = 0 := fun x hx => ((List.count_eq_length.mp c0) x hx).symm
        refine ⟨_, rfl, _, rfl, a, ns, f, rfl, s1.seq hS, fun y1 => ⟨_, rfl, y1, m, rfl, rfl, m1, fun x hx => ⟨1, x, rfl, rfl, ?_⟩⟩⟩
        refine ⟨_, rfl, _, rfl, _, rfl, a, ns, f, rfl, s1.seq hS, fun y2 => ⟨_, rfl, y2, n, rfl, rfl, n1, fun y hy => ?_⟩⟩
        have hyl : y < ls.length := by rw [hlen]; exact hy
        refine ⟨l, _, y, rfl, rfl, hl1, by rw [List.length_map]; exact hyl, _, rfl, ?_⟩
        have hmem : (1 + x) ∈ ls.set y (1 + x) := List.mem_set hyl _
        refine q _ l (ls.set y (1 + x)) (s1.put hl) hl (by rw [upd_same, List.map_set]) ⟨fun z hz => ?_, Nat.le_trans (kraft_set z0) (wt_le _), ⟨1 + x, hmem, by omega⟩, by rw [List.length_set]; omega, by rw [List.length_set]; omega⟩
        rcases List.mem_or_eq_of_mem_set hz with h | h
        · exact le12 z h
        · omega
      · refine ⟨_, rfl, q _ l ls s1 hl hl1 ⟨le12, F1.kraft m12, ?_, by omega, by omega⟩⟩
        apply Classical.byContradiction
        intro hno
        apply c
        rw [ecount]
        refine decide_eq_true ?_
        rw [← hlen]
        refine List.count_eq_length.mpr fun x hx => ?_
        cases x with
        | zero => rfl
        | succ x => exact absurd ⟨x + 1, hx, Nat.succ_pos x⟩ hno
end
end Bale
set_option Elab.async false
set_option linter.all false
set_option maxRecDepth 100000
set_option maxHeartbeats 4000000
/-! Texts: backwards, many times. -/
namespace Bale
open PySem PySem.Spec PyProof.Rows L2
def ch (b : Bool) : Nat := if b then 49 else 48
/-- a text of code points -/
abbrev tS (l : List Nat) : Str := ⟨l.toArray⟩
/-- a text of bits -/
def tx (bs : List Bool) : Str := tS (bs.map ch)
theorem tS_len (l : List Nat) : (tS l).length = l.length := by simp [Str.length]
theorem tx_len (bs : List Bool) : (tx bs).length = bs.length := by unfold tx; rw [tS_len, List.length_map]
theorem ch_inj {a b : Bool} (h : ch a = ch b) : a = b := by
  cases a <;> cases b <;> first | rfl | (exact absurd h (by decide))
theorem map_ch_inj : ∀ {a b : List Bool}, a.map ch = b.map ch → a = b
  | [], [], _ => rfl
  | [], _ :: _, h => by cases h
  | _ :: _, [], h => by cases h
  | x :: a, y :: b, h => by
    rw [List.map_cons, List.map_cons] at h
    injection h with h1 h2
    rw [ch_inj h1, map_ch_inj h2]
theorem tS_inj {a b : List Nat} (h : tS a = tS b) : a = b := congrArg (fun x : Str => x.cps.toList) h
theorem tx_inj {a b : List Bool} (h : tx a = tx b) : a = b := map_ch_inj (tS_inj h)
theorem tS_cat (a b : List Nat) : tS a ++ tS b = tS (a ++ b) := TL.ext_tl (TL.tl_append (tS a) (tS b))
theorem tx_cat (a b : List Bool) : tx a ++ tx b = tx (a ++ b) := by
  unfold tx
  rw [tS_cat, List.map_append]
theorem rev_picked (x : Str) (t : Tok) : ((slicePicked x none none (some (-1, t))).filterMap (x.cps[·]?)).toArray = x.cps.toList.reverse.toArray := by
  have e : slicePicked x none none (some (-1, t)) = (List.range x.length).reverse := by
    show sliceRange ((x.length : Int) - 1) (-1) (-1) = _
    rw [PySem.W.krv_sliceRange, PySem.W.krv_range]
  rw [e, List.filterMap_reverse]
  exact congrArg (fun l => (List.reverse l).toArray) (PySem.W.krv_all x.cps)
section
variable {X : Cx}
def tRevS (te : TE) : TE := fun σ H Q => te σ H fun x H1 => ∃ l : List Nat, x = .str (tS l) ∧ l.length ≤ sizeLine ∧ Q (.str (tS l.reverse)) H1
/-- a text backwards -/
theorem pe_revS {e : Expr} {te : TE} {k : Nat} {p1 p2 p3 pos : Pos} (he : PE X e te) : PE X (.Subscript e (.Slice none none (some (.UnaryOp .USub (.Constant (.int 1) k p1) p2)) p3) pos) (tRevS te) := by
  refine ⟨fun pins s σ H Q I h => Subscript_ (thn (he.run pins s σ H _ I h) fun v s1 hq => ?_)⟩
  obtain ⟨x, H1, I1, r1, l, rfl, hz, q⟩ := hq
  obtain ⟨t, rfl⟩ := r1
  have hst : PO X (some (.UnaryOp .USub (.Constant (.int 1) k p1) p2)) (tPart (tUn (rU fun i => .int (-i)) (tC (.int 1)))) := po_some (pe_un un_neg pe_int)
  refine wpAny_Slice (thn (po_none.run pins s1 σ H1 (fun o H2 => o = none ∧ H2 = H1) I1 ⟨rfl, rfl⟩) fun vl s2 h2 => ?_)
  obtain ⟨l2, H2, I2, pl, el, e2⟩ := h2
  subst el e2
  refine thn (po_none.run pins s2 σ H2 (fun o H3 => o = none ∧ H3 = H2) I2 ⟨rfl, rfl⟩) fun vu s3 h3 => ?_
  obtain ⟨u, H3, I3, pu, eu, e3⟩ := h3
  subst eu e3
  refine thn (hst.run pins s3 σ H3 (fun o H4 => o = some (-1) ∧ H4 = H3) I3 ⟨1, rfl, -1, rfl, rfl, rfl⟩) fun vs s4 h4 => ?_
  obtain ⟨o, H4, I4, ps, eo, e4⟩ := h4
  subst eo e4
  cases pl
  cases pu
  cases ps with
  | int i t2 =>
    have I5 : Inv X pins σ H4 { s4 with heap := s4.heap.push { cls := .type "slice", data := .fields #[.none, .none, .int (-1) t2] } } := I4.kept (t' := s4.toks) fun b ob q => Heap.get?_push_of_some _ q
    have go : wpAny (model X.prog X.w) X.A (getItem (.str (tS l) t) (.ref s4.heap.objs.size)) (EP X pins σ Q) X.xe { s4 with heap := s4.heap.push { cls := .type "slice", data := .fields #[.none, .none, .int (-1) t2] } } := by
      refine wpAny_getItem_str_slice (l := none) (u := none) (st := some (-1, t2)) ⟨_, Heap.get?_push_size _ rfl, rfl, rfl⟩ (show ((-1 : Int) == 0) = false by decide) ?_
      show Made.post (if false = true then Made.val (.str (tS l) t) else Made.str ⟨((slicePicked (tS l) none none (some (-1, t2))).filterMap ((tS l).cps[·]?)).toArray⟩) _ _
      rw [if_neg Bool.false_ne_true, rev_picked]
      have el : (⟨(tS l).cps.toList.reverse.toArray⟩ : Str) = tS l.reverse := rfl
      rw [el]
      exact ⟨by rw [tS_len, List.length_reverse]; exact hz, .str (tS l.reverse), _, I5.tok _, ⟨_, rfl⟩, q⟩
    exact tail_any (ops := [.str (tS l) t, .ref s4.heap.objs.size]) (typeIs_str _ _ _) PySem.F.slot_str_getitem.lookup go (by with_unfolding_all rfl)
theorem foldl_one (c : Nat) : ∀ (k : Nat) (acc : Array Nat), (List.replicate k (#[c] : Array Nat)).foldl (· ++ ·) acc = acc ++ (List.replicate k c).toArray
  | 0, acc => by simp
  | k + 1, acc => by
    rw [List.replicate_succ, List.foldl_cons, foldl_one c k, List.replicate_succ, Array.append_assoc]
    congr 1
    simp
/-- a sign so many times -/
theorem n_rep : OpR X (binaryOp .Mult) (fun x y H Q => ∃ c k : Nat, x = .str (tS [c]) ∧ y = nV k ∧ k ≤ 100000 ∧ Q (.str (tS (List.replicate k c))) H) := by
  intro pins s σ H x y u v Q I rx ry h
  obtain ⟨c, k, rfl, rfl, hk, q⟩ := h
  obtain ⟨t, rfl⟩ := rx
  obtain ⟨t2, rfl⟩ := ry
  have hl1 : (tS [c]).length = 1 := tS_len [c]
  have hsz : (tS (List.replicate k c)).length ≤ sizeLine := by
    rw [tS_len, List.length_replicate]
    exact Nat.le_trans hk (by decide)
  refine PySem.P.mul_str ?_ (fun _ _ => ?_) (fun _ _ => ?_) ?_
  · have h1 : ¬ ((k : Int) < -(2 ^ 63 : Int)) := by omega
    have h2 : ¬ ((k : Int) ≥ 2 ^ 63) := by omega
    rw [decide_eq_false h1, decide_eq_false h2]
    rfl
  · rw [hl1]
    intro hh
    have : (1 : Int) ≤ (2 ^ 63 - 1) / (k : Int) := by
      refine (Int.le_ediv_iff_mul_le (by omega)).mpr ?_
      omega
    have hh' : ((1 : Nat) : Int) > (2 ^ 63 - 1) / (k : Int) := hh
    omega
  · rw [hl1, Nat.one_mul, Int.toNat_natCast]
    have : ¬ (k > sizeLine) := by
      have : (100000 : Nat) ≤ sizeLine := by decide
      omega
    first
      | exact decide_eq_false this
      | simp [PySem.tooLong, this]
      | (unfold tooLong; exact decide_eq_false this)
  · by_cases h0 : (k : Int) < 1
    · rw [if_pos h0]
      have e : k = 0 := by omega
      subst e
      exact ⟨by decide, .str Str.empty, H, I.tok _, ⟨_, rfl⟩, q⟩
    · rw [if_neg h0]
      by_cases h1 : ((k : Int) == 1 || (tS [c]).length == 0) = true
      · rw [if_pos h1]
        have e : k = 1 := by
          rw [hl1] at h1
          simp at h1
          omega
        subst e
        exact ⟨.str (tS [c]), H, I, ⟨_, rfl⟩, q⟩
      · rw [if_neg h1, Int.toNat_natCast]
        have e : (⟨(List.replicate k (tS [c]).cps).foldl (· ++ ·) #[]⟩ : Str) = tS (List.replicate k c) := by
          show (⟨(List.replicate k (#[c] : Array Nat)).foldl (· ++ ·) #[]⟩ : Str) = _
          rw [foldl_one]
          simp
        rw [e]
        exact ⟨hsz, .str (tS (List.replicate k c)), H, I.tok _, ⟨_, rfl⟩, q⟩
end
end Bale
set_option Elab.async false
set_option linter.all false
set_option maxRecDepth 100000
set_option maxHeartbeats 4000000
/-! The law's own codes and their texts. -/
namespace Bale
open PySem PySem.Spec PyProof.Rows L2
abbrev sCodesL : Stmt := top 46
abbrev sTexts : Stmt := top 50
/-- what a cell of a list of codes is -/
def CellIs (H : Hp) (v : V) : Option (Nat × Nat) → Prop
  | none => v = .non
  | some x => ∃ t, v = .ref t ∧ H t = some (.tup [nV x.1, nV x.2])
theorem CellIs.mono {H H' : Hp} {v : V} {o : Option (Nat × Nat)} (c : CellIs H v o) (k : ∀ t xs, H t = some (.tup xs) → H' t = some (.tup xs)) : CellIs H' v o := by
  cases o with
  | none => exact c
  | some x =>
    obtain ⟨t, e, h⟩ := c
    exact ⟨t, e, k _ _ h⟩
structure CellsAre (H : Hp) (vs : List V) (fs : Codes) : Prop where
  len : vs.length = fs.length
  at_ : ∀ (p : Nat) (o : Option (Nat × Nat)), fs[p]? = some o → ∃ v, vs[p]? = some v ∧ CellIs H v o
def FoundAt (H : Hp) (a : Addr) (fs : Codes) : Prop := ∃ vs, H a = some (.lst vs) ∧ CellsAre H vs fs
theorem CellsAre.mono {H H' : Hp} {vs : List V} {fs : Codes} (c : CellsAre H vs fs) (k : ∀ t xs, H t = some (.tup xs) → H' t = some (.tup xs)) : CellsAre H' vs fs :=
  ⟨c.len, fun p o e => by
    obtain ⟨v, h1, h2⟩ := c.at_ p o e
    exact ⟨v, h1, h2.mono k⟩⟩
theorem CellsAre.empt (H : Hp) (ls : List Nat) : CellsAre H (List.replicate ls.length V.non) (empt ls) := by
  refine ⟨by unfold Bale.empt; rw [List.length_replicate, List.length_replicate], fun p o e => ?_⟩
  unfold Bale.empt at e
  rw [List.getElem?_replicate] at e
  split at e
  · rename_i hp
    have e := Option.some.inj e
    subst e
    refine ⟨.non, ?_, rfl⟩
    rw [List.getElem?_replicate, if_pos hp]
  · cases e
theorem CellsAre.set {H : Hp} {vs : List V} {fs : Codes} {t : Addr} {x : Nat × Nat} (c : CellsAre H vs fs) (q : Nat) (h : H t = some (.tup [nV x.1, nV x.2])) : CellsAre H (vs.set q (.ref t)) (fs.set q (some x)) := by
  refine ⟨by rw [List.length_set, List.length_set, c.len], fun p o e => ?_⟩
  by_cases hpq : q = p
  · subst hpq
    have hl : q < fs.length := by
      have := (List.getElem?_eq_some_iff.mp e).1
      rwa [List.length_set] at this
    rw [List.getElem?_set_self hl] at e
    have e := Option.some.inj e
    subst e
    exact ⟨.ref t, List.getElem?_set_self (by rw [c.len]; exact hl), t, rfl, h⟩
  · rw [List.getElem?_set_ne hpq] at e
    obtain ⟨v, h1, h2⟩ := c.at_ p o e
    exact ⟨v, by rw [List.getElem?_set_ne hpq]; exact h1, h2⟩
theorem flat_rep (n : Nat) (v : V) : (List.replicate n [v]).flatten = List.replicate n v := by
  induction n with
  | zero => rfl
  | succ n ih => rw [List.replicate_succ, List.flatten_cons, ih, List.replicate_succ]; rfl
/-- tuples stay where a list is stored and a new thing is laid -/
theorem tup_put {H : Hp} {a : Addr} {o : HO} (ha : ∀ xs, H a ≠ some (.tup xs)) : ∀ t xs, H t = some (.tup xs) → upd H a o t = some (.tup xs) := fun t xs h => by
  have : t ≠ a := fun e => by
    rw [e] at h
    exact ha xs h
  rw [upd_ne this]
  exact h
theorem tup_same {H H' : Hp} (s : Same H H') : ∀ t xs, H t = some (.tup xs) → H' t = some (.tup xs) := fun t xs h => s _ _ h
theorem lst_ntup {H : Hp} {a : Addr} {vs : List V} (h : H a = some (.lst vs)) : ∀ xs, H a ≠ some (.tup xs) := fun xs e => by
  rw [h] at e
  cases e
def spCodesL (K : PySem.W.Frag) : Sp := fun vs H Q _ => ∃ (a : Addr) (ls : List Nat), vs = [.ref a] ∧ SqL K H a (ls.map nV) ∧ ls.length ≤ 300 ∧ ∀ (H' : Hp) (p : Addr), Same H H' → H p = none → FoundAt H' p (canon ls) → Q (.ref p) H'
/-- a code's text, or the word for none -/
def txt : Option (Nat × Nat) → V
  | none => .str "none"
  | some x => .str (tx (bitsOf x.2 x.1))
def spTexts (K : PySem.W.Frag) : Sp := fun vs H Q _ => ∃ (a : Addr) (ls : List Nat), vs = [.ref a] ∧ SqL K H a (ls.map nV) ∧ ls.length ≤ 300 ∧ Good ls (canon ls) ∧ ∀ (H' : Hp) (p : Addr), Same H H' → H p = none → H' p = some (.lst ((canon ls).map txt)) → Q (.ref p) H'
theorem stepB1_len {ls : List Nat} {l : Nat} : ∀ (S : List Nat) (s : Codes × Nat), (S.foldl (stepB1 ls l) s).1.length = s.1.length
  | [], _ => rfl
  | p :: r, s => by
    rw [List.foldl_cons, stepB1_len r]
    unfold stepB1
    split
    · exact List.length_set
    · rfl
theorem runB_len (ls : List Nat) : ∀ k, (runB ls k).1.length = ls.length
  | 0 => List.length_replicate
  | k + 1 => by
    have e : runB ls (k + 1) = stepB ls (runB ls k) (k + 1) := by
      unfold runB
      rw [List.range_succ, List.foldl_append]
      rfl
    rw [e]
    show ((List.range ls.length).foldl (stepB1 ls (k + 1)) ((runB ls k).1, (runB ls k).2 * 2)).1.length = _
    rw [stepB1_len]
    exact runB_len ls k
theorem lenAt_get {ls : List Nat} {p : Nat} (h : p < ls.length) : ls[p]? = some (lenAt ls p) := by
  rw [List.getElem?_eq_getElem h]
  show _ = some (ls.getD p 0)
  rw [List.getD_eq_getElem?_getD, List.getElem?_eq_getElem h]
  rfl
theorem str_bit {b : Nat} (h : b < 2) : (Str.ofString (toString ((b : Nat) : Int)) : Str) = tS [ch (b == 1)] := by
  match b, h with
  | 0, _ => decide +kernel
  | 1, _ => decide +kernel
  | b + 2, h => exact absurd h (by omega)
theorem r_strbit {X : Cx} : CallR X (.type "str") (fun xs H Q => ∃ b : Nat, xs = [nV b] ∧ b < 2 ∧ Q (.str (tS [ch (b == 1)])) H) := callImp call_str_int fun xs H Q ⟨b, e, hb, q⟩ => by
  refine ⟨b, e, ?_, qv (congrArg V.str (str_bit hb)) q⟩
  match b, hb with
  | 0, _ => decide
  | 1, _ => decide
  | b + 2, h => exact absurd h (by omega)
theorem joinL_signs : ∀ cs : List Nat, TL.joinL [] (cs.map fun c => [c]) = cs
  | [] => rfl
  | [_] => rfl
  | a :: b :: r => by
    have ih := joinL_signs (b :: r)
    show [a] ++ ([] ++ TL.joinL [] ((b :: r).map fun c => [c])) = a :: b :: r
    rw [ih]
    rfl
theorem join_signs (cs : List Nat) : Txt.join ("" : Str) (cs.map fun c => tS [c]) = tS cs := by
  have e0 : (("" : Str)) = SX.S [] := by decide +kernel
  have e1 : (cs.map fun c => tS [c]) = (cs.map fun c => [c]).map SX.S := by
    rw [List.map_map]
    rfl
  rw [e0, e1, SX.join_S, joinL_signs]
/-- an item of a tuple at a place from 0 on -/
def rTupN (K : PySem.W.Frag) : R2 := fun x y H Q => ∃ (p : Addr) (xs : List V) (i : Nat) (v : V), x = .ref p ∧ y = nV i ∧ SqT K H p xs ∧ xs[i]? = some v ∧ Q v H
theorem n_ixT {X : Cx} : IxR X (rTupN X.K) :=
  ixImp ix_tup fun x y H Q ⟨p, xs, i, v, e1, e2, h, e, q⟩ => ⟨p, xs, (i : Int), v, e1, e2, h, atI_nat e, q⟩
section
variable {P : Program} {w : World} {K : PySem.W.Frag} {mg : Str → Option Value} {base : Heap}
theorem scCodesL : FnScope ["_law_lengths_here", "_law_found", "_law_code", "_law_length", "_law_place"] ["_law_lengths_here"] (defScope sCodesL) := ⟨rfl, rfl, rfl, by decide +kernel, rfl, by decide +kernel, by decide +kernel⟩
theorem ok_codesL {f : Addr} {fd : FuncData} (F : FnP K "_law_codes" "_law_codes" sCodesL f fd) (T : Tx mg) : FnOk P w K mg base CX0 1 f fd ["_law_lengths_here"] (spCodesL K) := by
  refine fnp_ok F scCodesL (fun vs H Q E h => ?_) (fun cdv A outer s H vs Q E hr h => ?_)
  · obtain ⟨a, ls, rfl, _⟩ := h
    rfl
  · obtain ⟨a, ls, rfl, hS, h300, q⟩ := h
    refine ⟨_, pss_cons (ps_set (i := 1) scCodesL.nd rfl (.inl rfl) (pe_op op_rep (pe_lst (pa_cons pe_non pa_nil)) (pe_callB n_len (by rfl) T.len boot_len (pa_cons (pv 0) pa_nil))))
      (pss_cons (ps_set (i := 2) scCodesL.nd rfl (.inl rfl) (pe_n 0))
      (pss_cons (ps_for PassesOwn.never rfl (pi_range2 (by rfl) T.range (pa_cons pe_int (pa_cons pe_int pa_nil))) (pg_name (i := 3) scCodesL.nd rfl (.inl rfl))
        (pss_cons (ps_set (i := 2) scCodesL.nd rfl (.inl rfl) (pe_op n_mul (pv 2) (pe_n 2)))
        (pss_one (ps_for PassesOwn.never rfl (pi_range1 rfl T.range (pa_cons (pe_callB n_len (by rfl) T.len boot_len (pa_cons (pv 0) pa_nil)) pa_nil)) (pg_name (i := 4) scCodesL.nd rfl (.inl rfl))
          (pss_one (ps_if (pt_cmpR n_eq (pe_ix n_ix (pv 0) (pv 4) (fun _ _ => rfl)) (pv 3) (nomark _))
            (pss_cons (ps_asg (pe_tup (pa_cons (pv 2) (pa_cons (pv 3) pa_nil))) (pg_sub (pv 1) (pv 4) n_set)) (pss_one (ps_set (i := 2) scCodesL.nd rfl (.inl rfl) (pe_op n_add (pv 2) (pe_n 1))))) pss_nil))))))
      (pss_one (ps_ret (pv 1))))), ?_⟩
    refine ⟨(by show 1 ≤ sizeLine; decide), fun m hm => ?_⟩
    have hS1 : SqL K (upd H m (.lst [.non])) a (ls.map nV) := ((Same.refl H).new hm).seq hS
    refine ⟨_, rfl, a, ls, rfl, hS1, m, (ls.length : Int), _, rfl, rfl, upd_same, by omega, by omega, (by show 1 * ((ls.length : Int)).toNat ≤ sizeLine; rw [Int.toNat_natCast, Nat.one_mul]; exact Nat.le_trans h300 (by decide)), fun d hd => ?_⟩
    have el : (List.replicate ((ls.length : Int)).toNat [V.non]).flatten = List.replicate ls.length V.non := by
      rw [Int.toNat_natCast]
      exact flat_rep _ _
    have hd0 : H d = Option.none := by
      by_cases e : d = m
      · rw [e, upd_same] at hd
        cases hd
      · rw [upd_ne e] at hd
        exact hd
    refine ⟨1, 13, rfl, ⟨by decide, by decide, by decide, by decide⟩, for_range (lo := 1) (n := 12) (fun i σ H' => ∃ v3 v4 : Option V, σ = [some (.ref a), some (.ref d), some (nV (runB ls i).2), v3, v4] ∧ Same H H' ∧ FoundAt H' d (runB ls i).1)
      ⟨none, none, rfl, ((Same.refl H).new hm).new hd, List.replicate ls.length V.non, (by rw [upd_same, el]), CellsAre.empt _ _⟩ ?_ ?_⟩
    · rintro i σ H' hi ⟨v3, v4, rfl, s1, hF⟩
      have ei : V.int (1 + (i : Int)) = nV (i + 1) := congrArg V.int (by omega)
      rw [ei]
      refine ⟨_, rfl, (runB ls i).2, 2, rfl, rfl, .inr (by decide), ?_⟩
      refine ⟨_, rfl, a, ls, rfl, s1.seq hS, (ls.length : Int), rfl, by omega, by omega, for_range (lo := 0) (n := ls.length) (fun j σ H' => ∃ v4 : Option V, σ = [some (.ref a), some (.ref d), some (nV ((List.range j).foldl (stepB1 ls (i + 1)) ((runB ls i).1, (runB ls i).2 * 2)).2), some (nV (i + 1)), v4] ∧ Same H H' ∧ FoundAt H' d ((List.range j).foldl (stepB1 ls (i + 1)) ((runB ls i).1, (runB ls i).2 * 2)).1)
        ⟨v4, rfl, s1, hF⟩ ?_ ?_⟩
      · rintro j σ H2 hj ⟨v4, rfl, s2, vs, hd2, hC⟩
        have ej : V.int (0 + (j : Int)) = nV j := congrArg V.int (Int.zero_add _)
        rw [ej]
        have estep : (List.range (j + 1)).foldl (stepB1 ls (i + 1)) ((runB ls i).1, (runB ls i).2 * 2) = stepB1 ls (i + 1) ((List.range j).foldl (stepB1 ls (i + 1)) ((runB ls i).1, (runB ls i).2 * 2)) j := by
          rw [List.range_succ, List.foldl_append]
          rfl
        have hlen : ((List.range j).foldl (stepB1 ls (i + 1)) ((runB ls i).1, (runB ls i).2 * 2)).1.length = ls.length := by
          rw [stepB1_len]
          exact runB_len ls i
        generalize (List.range j).foldl (stepB1 ls (i + 1)) ((runB ls i).1, (runB ls i).2 * 2) = st at estep hlen hC ⊢
        obtain ⟨fs, c⟩ := st
        refine ⟨_, rfl, _, rfl, a, _, j, nV (lenAt ls j), rfl, rfl, s2.seq hS, (by rw [List.getElem?_map, lenAt_get hj]; rfl), _, rfl, lenAt ls j, i + 1, rfl, rfl, _, rfl, ?_⟩
        refine ite2 (fun cc => ?_) (fun cc => ?_)
        · have c1 : lenAt ls j = i + 1 := of_decide_eq_true cc
          have e2 : stepB1 ls (i + 1) (fs, c) j = (fs.set j (some (c, i + 1)), c + 1) := if_pos c1
          rw [e2] at estep
          refine ⟨_, rfl, _, rfl, (by show 2 ≤ sizeLine; decide), fun t ht => ?_⟩
          have ndt : d ≠ t := ne_of_none hd2 ht
          have hlen : fs.length = ls.length := hlen
          have hd3 : upd H2 t (.tup [nV c, nV (i + 1)]) d = some (.lst vs) := (upd_ne ndt).trans hd2
          refine ⟨_, rfl, _, rfl, d, vs, j, rfl, rfl, hd3, (by rw [hC.len]; exact (Nat.lt_of_lt_of_eq hj hlen.symm)), _, rfl, c, 1, rfl, rfl, ?_⟩
          rw [estep]
          refine ⟨_, rfl, (s2.new ht).put hd0, _, upd_same, ?_⟩
          refine CellsAre.mono (CellsAre.set (hC.mono (tup_same ((Same.refl H2).new ht))) j (t := t) (x := (c, i + 1)) upd_same) (tup_put (lst_ntup hd3))
        · have c1 : ¬ lenAt ls j = i + 1 := fun q => cc (decide_eq_true q)
          have e2 : stepB1 ls (i + 1) (fs, c) j = (fs, c) := if_neg c1
          rw [e2] at estep
          show ∃ v4 : Option V, _
          rw [estep]
          exact ⟨_, rfl, s2, vs, hd2, hC⟩
      · rintro σ H2 ⟨v4, rfl, s2, hF2⟩
        have e : runB ls (i + 1) = stepB ls (runB ls i) (i + 1) := by
          unfold runB
          rw [List.range_succ, List.foldl_append]
          rfl
        show ∃ v3 v4 : Option V, _
        rw [e]
        exact ⟨_, _, rfl, s2, hF2⟩
    · rintro σ H' ⟨v3, v4, rfl, s1, hF⟩
      exact ⟨_, rfl, q _ d s1 hd0 hF⟩
theorem scTexts : FnScope ["_law_lengths_here", "_law_found", "_law_one", "_law_bits_here", "_law_k"] ["_law_lengths_here"] (defScope sTexts) := ⟨rfl, rfl, rfl, by decide +kernel, rfl, by decide +kernel, by decide +kernel⟩
theorem ok_texts {f : Addr} {fd : FuncData} (F : FnP K "_law_texts" "_law_texts" sTexts f fd) (T : Tx mg) (cC : Cal P w K mg base 1 "_law_codes" (spCodesL K)) : FnOk P w K mg base CX0 2 f fd ["_law_lengths_here"] (spTexts K) := by
  refine fnp_ok F scTexts (fun vs H Q E h => ?_) (fun cdv A outer s H vs Q E hr h => ?_)
  · obtain ⟨a, ls, rfl, _⟩ := h
    rfl
  · obtain ⟨a, ls, rfl, hS, h300, G, q⟩ := h
    refine ⟨_, pss_cons (ps_set (i := 1) scTexts.nd rfl (.inl rfl) (pe_lst pa_nil))
      (pss_cons (ps_for PassesOwn.never rfl (pi_list (pe_f cC hr (by decide) (by rfl) (pa_cons (pv 0) pa_nil))) (pg_name (i := 2) scTexts.nd rfl (.inr rfl))
        (pss_one (ps_if (pt_cmpR op_isN (pv 2) pe_non (nomark _)) (pss_one (ps_expr (pe_bm PySem.F.plainAttrs_list PySem.F.slot_list_append PySem.F.type_list_append mt_append (pv 1) (pa_cons pe_str pa_nil))))
          (pss_cons (ps_set (i := 3) scTexts.nd rfl (.inl rfl) (pe_join pe_str (pe_lc (own := [("_law_k", 4)]) (g := gName 4) (tt := tYes) rfl scTexts.nd (pi_range1 rfl T.range (pa_cons (pe_ix (r := rTupN K) n_ixT (pv 2) (pe_n 1) (fun _ _ => rfl)) pa_nil))
              (blkOk_by (own := [("_law_k", 4)]) (N := ["_law_lengths_here", "_law_found", "_law_one", "_law_bits_here", "_law_k"]) (sc := defScope sTexts) (by decide +kernel))
              (fun _ _ _ _ _ => pg_name (i := 4) scTexts.nd rfl (Or.inl rfl)) (fun _ _ _ _ _ => pts_nil)
              (fun _ _ _ _ _ => pe_callTy r_strbit (by rfl) T.str boot_str (pa_cons (pe_op n_bit (pe_op n_shr (pe_ix (r := rTupN K) n_ixT (pv 2) (pe_n 0) (fun _ _ => rfl)) (pv 4)) (pe_n 1)) pa_nil)))))
          (pss_one (ps_expr (pe_bm PySem.F.plainAttrs_list PySem.F.slot_list_append PySem.F.type_list_append mt_append (pv 1) (pa_cons (pe_revS (pv 3)) pa_nil))))))))
      (pss_one (ps_ret (pv 1)))), ?_⟩
    refine ⟨Nat.zero_le _, fun l hl => ?_⟩
    refine ⟨_, rfl, a, ls, rfl, ((Same.refl H).new hl).seq hS, h300, fun H1 p s1 hp0 ⟨vs, hp, hC⟩ => ?_⟩
    have hl1 : H1 l = some (.lst []) := s1 _ _ upd_same
    have s01 : Same H H1 := ((Same.refl H).new hl).trans s1
    have glen : (canon ls).length = ls.length := G.len
    refine ⟨p, rfl, ⟨_, SqL.of hp⟩, for_list (K := K) (a := p) (xs := vs) (fun i σ H' => ∃ v2 v3 : Option V, σ = [some (.ref a), some (.ref l), v2, v3, none] ∧ Same H H' ∧ H' p = some (.lst vs) ∧ CellsAre H' vs (canon ls) ∧ H' l = some (.lst (((canon ls).take i).map txt)))
      ⟨none, none, rfl, s01, hp, hC, hl1⟩ (fun i σ H' _ ⟨_, _, _, _, h, _⟩ => SqL.of h) ?_ ?_⟩
    · rintro i y σ H' hi ⟨v2, v3, rfl, s2, hp2, hC2, hl2⟩
      have hlt : i < (canon ls).length := by
        rw [← hC.len]
        exact (List.getElem?_eq_some_iff.mp hi).1
      obtain ⟨o, ho⟩ : ∃ o, (canon ls)[i]? = some o := ⟨_, List.getElem?_eq_getElem hlt⟩
      obtain ⟨v, hv, hc⟩ := hC2.at_ i o ho
      have ev : y = v := Option.some.inj (hi.symm.trans hv)
      subst ev
      have hsz : (((canon ls).take i).map txt).length < sizeLine := by
        rw [List.length_map, List.length_take]
        exact Nat.lt_of_le_of_lt (Nat.min_le_left _ _) (Nat.lt_of_lt_of_le (Nat.lt_of_lt_of_eq hlt glen) (Nat.le_trans h300 (by decide)))
      have nlp : l ≠ p := ne_of_none (H := upd H l (.lst [])) upd_same hp0
      -- a thing appended to the texts
      have fin : ∀ {H2 : Hp} {z : V}, Same H H2 → H2 p = some (.lst vs) → CellsAre H2 vs (canon ls) → H2 l = some (.lst (((canon ls).take i).map txt)) → z = txt o → Same H (upd H2 l (.lst (((canon ls).take i).map txt ++ [z]))) ∧ upd H2 l (.lst (((canon ls).take i).map txt ++ [z])) p = some (.lst vs) ∧
          CellsAre (upd H2 l (.lst (((canon ls).take i).map txt ++ [z]))) vs (canon ls) ∧ upd H2 l (.lst (((canon ls).take i).map txt ++ [z])) l = some (.lst (((canon ls).take (i + 1)).map txt)) := fun {H2 z} a1 a2 a3 a4 a5 =>
        ⟨a1.put hl, (upd_ne nlp.symm).trans a2, a3.mono (tup_put (lst_ntup a4)), by
          rw [upd_same, take_more ho, List.map_append, a5]
          rfl⟩
      cases o with
      | none =>
        have hy : y = V.non := hc
        subst hy
        refine ⟨_, rfl, rfl, _, rfl, ifT rfl ?_⟩
        refine ⟨_, rfl, .inl ⟨rfl, _, SqL.of hl2⟩, l, _, _, rfl, rfl, hl2, hsz, ?_⟩
        obtain ⟨b1, b2, b3, b4⟩ := fin (z := V.str "none") s2 hp2 hC2 hl2 rfl
        exact ⟨_, _, rfl, b1, b2, b3, b4⟩
      | some x =>
        obtain ⟨c, n⟩ := x
        obtain ⟨t, ey, ht⟩ := hc
        subst ey
        obtain ⟨_, n1, n12, c2⟩ := G.ent i c n ho
        refine ⟨_, rfl, rfl, _, rfl, ifF (fun e => nomatch e) ?_⟩
        refine ⟨⟨_, rfl⟩, _, rfl, t, _, 1, nV n, rfl, rfl, SqT.of ht, rfl, (n : Int), rfl, by omega, by omega, fun D hD => ?_⟩
        have ntD : t ≠ D := ne_of_none ht hD
        have nlD : l ≠ D := ne_of_none hl2 hD
        have npD : p ≠ D := ne_of_none hp2 hD
        refine lc_range (lo := 0) (n := n) (fun k H3 => ∃ u : HO, H3 = upd H' D u ∧ u = .lst ((List.range k).map fun j => V.str (tS [ch (c / 2 ^ j % 2 == 1)]))) ⟨_, rfl, rfl⟩ ?_ ?_
        · rintro k H3 hk ⟨u, rfl, rfl⟩
          have ek : V.int (0 + (k : Int)) = nV k := congrArg V.int (Int.zero_add _)
          rw [ek]
          refine ⟨rfl, _, rfl, t, _, 0, nV c, rfl, rfl, SqT.of ((upd_ne ntD).trans ht), rfl, _, rfl, c, k, rfl, rfl, c / 2 ^ k, rfl, rfl, c / 2 ^ k % 2, rfl, Nat.mod_lt _ (by decide), _, upd_same, ?_, _, upd_upd, ?_⟩
          · rw [List.length_map, List.length_range]
            exact Nat.lt_of_lt_of_le hk (Nat.le_trans n12 (by decide))
          · rw [List.range_succ, List.map_append]
            rfl
        · rintro H3 ⟨u, rfl, rfl⟩
          have ejoin : ((List.range n).map fun j => V.str (tS [ch (c / 2 ^ j % 2 == 1)])) = ((((List.range n).map fun j => ch (c / 2 ^ j % 2 == 1))).map fun c => tS [c]).map V.str := by
            rw [List.map_map, List.map_map]
            rfl
          refine ⟨_, D, (((List.range n).map fun j => ch (c / 2 ^ j % 2 == 1))).map fun c => tS [c], rfl, rfl, .inl (SqL.of (by rw [← ejoin]; exact upd_same)), ?_, ?_⟩
          · have e1 : (((((List.range n).map fun j => ch (c / 2 ^ j % 2 == 1))).map fun c => tS [c]).map (·.length)).sum ≤ n := by
              rw [List.map_map, List.map_map]
              have : ((fun x : Str => x.length) ∘ (fun c => tS [c])) ∘ (fun j => ch (c / 2 ^ j % 2 == 1)) = fun _ => 1 := by
                funext j
                exact tS_len _
              rw [this]
              have : ((List.range n).map fun _ => 1).sum = n := by
                rw [List.map_const', List.length_range, List.sum_replicate_nat]
                omega
              omega
            have e2 : (("" : Str)).length = 0 := by decide +kernel
            rw [e2, Nat.mul_zero, Nat.add_zero]
            exact Nat.le_trans e1 (Nat.le_trans n12 (by decide))
          · rw [join_signs]
            have hb : ((List.range n).map fun j => ch (c / 2 ^ j % 2 == 1)).reverse = (bitsOf n c).map ch := by
              rw [← bitsOf_rev n c, List.map_reverse, List.map_map]
              rfl
            refine ⟨_, rfl, .inl ⟨rfl, _, SqL.of ((upd_ne nlD).trans hl2)⟩, _, rfl, (List.range n).map (fun j => ch (c / 2 ^ j % 2 == 1)), rfl, (by rw [List.length_map, List.length_range]; exact Nat.le_trans n12 (by decide)), l, _, _, rfl, rfl, (upd_ne nlD).trans hl2, hsz, ?_⟩
            obtain ⟨b1, b2, b3, b4⟩ := fin (z := V.str (tS ((List.range n).map fun j => ch (c / 2 ^ j % 2 == 1)).reverse)) (s2.new hD) ((upd_ne npD).trans hp2) (hC2.mono (tup_same ((Same.refl H').new hD))) ((upd_ne nlD).trans hl2) (by rw [hb]; rfl)
            exact ⟨_, _, rfl, b1, b2, b3, b4⟩
    · rintro σ H' ⟨v2, v3, rfl, s2, hp2, hC2, hl2⟩
      rw [hC.len, List.take_length] at hl2
      exact ⟨_, rfl, q _ l s2 hl hl2⟩
end
end Bale
set_option Elab.async false
set_option linter.all false
set_option maxRecDepth 100000
set_option maxHeartbeats 4000000
/-! What is due at a place of the bits: the law's own look. -/
namespace Bale
open PySem PySem.Spec PyProof.Rows L2
abbrev sDue : Stmt := top 49
/-- codes that a text may tell -/
structure GoodF (fs : Codes) : Prop where
  ent : ∀ p c l : Nat, fs[p]? = some (some (c, l)) → 1 ≤ l ∧ l ≤ 12 ∧ c < 2 ^ l
  uniq : Uniq fs
  n300 : fs.length ≤ 300
theorem Good.f {ls : List Nat} {fs : Codes} (G : Good ls fs) (h : ls.length ≤ 300) : GoodF fs := ⟨fun p c l e => (G.ent p c l e).2, G.uniq, by rw [G.len]; exact h⟩
/-! ### texts -/
theorem starts_iff (a b : List Nat) : Txt.startswith (tS a) (tS b) = true ↔ b <+: a := by
  unfold Txt.startswith
  rw [PySem.StrLaws.subAt_eq, tS_len, tS_len, List.drop_zero, Bool.and_eq_true, decide_eq_true_eq, beq_iff_eq]
  constructor
  · rintro ⟨_, h⟩
    exact List.prefix_iff_eq_take.mpr h.symm
  · intro h
    have h1 := h.length_le
    have h2 := List.prefix_iff_eq_take.mp h
    exact ⟨by omega, h2.symm⟩
theorem prefix_map {a b : List Bool} : b.map ch <+: a.map ch ↔ b <+: a := by
  constructor
  · rintro ⟨t, h⟩
    rw [List.prefix_iff_eq_take]
    apply map_ch_inj
    rw [List.map_take, ← h]
    have : b.length = (b.map ch).length := (List.length_map ch).symm
    rw [this, List.take_left]
  · rintro ⟨t, rfl⟩
    exact ⟨t.map ch, by rw [List.map_append]⟩
theorem none_text : (("none" : Str)) = tS [110, 111, 110, 101] := by decide +kernel
theorem starts_txt {fs : Codes} (G : GoodF fs) {p : Nat} {o : Option (Nat × Nat)} (h : fs[p]? = some o) {w : List Bool} (hw : w ≠ []) : ∃ z, txt o = .str z ∧ Txt.startswith z (tx w) = begins w o := by
  cases o with
  | none =>
    refine ⟨_, rfl, ?_⟩
    rw [none_text]
    show Txt.startswith (tS [110, 111, 110, 101]) (tS (w.map ch)) = false
    rw [Bool.eq_false_iff]
    intro q
    rw [starts_iff] at q
    cases w with
    | nil => exact hw rfl
    | cons b r =>
      obtain ⟨t, ht⟩ := q
      rw [List.map_cons, List.cons_append] at ht
      injection ht with h1 _
      cases b <;> exact absurd h1 (by decide)
  | some x =>
    obtain ⟨c, l⟩ := x
    refine ⟨_, rfl, ?_⟩
    have hc := (G.ent p c l h).2.2
    show Txt.startswith (tS ((bitsOf l c).map ch)) (tS (w.map ch)) = (decide (w.length ≤ l) && val w == c / 2 ^ (l - w.length))
    rw [Bool.eq_iff_iff, starts_iff, prefix_map, prefix_bitsOf hc, Bool.and_eq_true, decide_eq_true_eq, beq_iff_eq]
theorem eq_txt {fs : Codes} (G : GoodF fs) {p : Nat} {o : Option (Nat × Nat)} (h : fs[p]? = some o) {w : List Bool} (hw : w ≠ []) : eqV (txt o) (.str (tx w)) = (o == some (val w, w.length)) := by
  cases o with
  | none =>
    show (("none" : Str) == tx w) = false
    rw [none_text, beq_eq_false_iff_ne]
    intro q
    have q := tS_inj q
    cases w with
    | nil => exact hw rfl
    | cons b r =>
      rw [List.map_cons] at q
      injection q with h1 _
      cases b <;> exact absurd h1 (by decide)
  | some x =>
    obtain ⟨c, l⟩ := x
    have hc := (G.ent p c l h).2.2
    show (tx (bitsOf l c) == tx w) = (some (c, l) == some (val w, w.length))
    rw [Bool.eq_iff_iff, beq_iff_eq, beq_iff_eq]
    constructor
    · intro q
      obtain ⟨h1, h2⟩ := (bitsOf_eq hc).mp (tx_inj q)
      rw [h1, h2]
    · intro q
      obtain ⟨h1, h2⟩ := Prod.mk.inj (Option.some.inj q)
      rw [(bitsOf_eq hc).mpr ⟨h2, h1⟩]
theorem in_txt {fs : Codes} (G : GoodF fs) {w : List Bool} (hw : w ≠ []) : inV (.str (tx w)) (fs.map txt) = (hit fs w).isSome := by
  unfold inV
  rw [List.any_map]
  cases e : hit fs w with
  | none =>
    rw [Option.isSome_none, List.any_eq_false]
    intro o ho
    obtain ⟨p, hp, rfl⟩ := List.mem_iff_getElem.mp ho
    have h2 := List.getElem?_eq_getElem hp
    show ¬ eqV (txt fs[p]) (.str (tx w)) = true
    rw [eq_txt G h2 hw, beq_iff_eq]
    intro q
    exact hit_none.mp e p (by rw [h2, q])
  | some p =>
    rw [Option.isSome_some, List.any_eq_true]
    have h2 := (hit_some G.uniq).mp e
    refine ⟨_, List.mem_of_getElem? h2, ?_⟩
    show eqV (txt (some (val w, w.length))) (.str (tx w)) = true
    rw [eq_txt G h2 hw]
    exact beq_self_eq_true _
theorem flat_txt (fs : Codes) : (fs.map txt).all flatV = true := by
  rw [List.all_map, List.all_eq_true]
  intro o _
  cases o <;> rfl
/-! ### the answers -/
def AnsIs (H : Hp) (x : V) : Ans → Prop
  | .thing p _ => x = nV p
  | .bad => ∃ r l, x = .ref r ∧ H r = some (.tup [.str "refused", .ref l]) ∧ H l = some (.lst [.bl true, .bl false])
  | .short => ∃ r l, x = .ref r ∧ H r = some (.tup [.str "refused", .ref l]) ∧ H l = some (.lst [.bl false, .bl true])
theorem AnsIs.mono {H H' : Hp} {x : V} {a : Ans} (h : AnsIs H x a) (s : Same H H') : AnsIs H' x a := by
  cases a with
  | thing p n => exact h
  | bad =>
    obtain ⟨r, l, e, h1, h2⟩ := h
    exact ⟨r, l, e, s _ _ h1, s _ _ h2⟩
  | short =>
    obtain ⟨r, l, e, h1, h2⟩ := h
    exact ⟨r, l, e, s _ _ h1, s _ _ h2⟩
def endOf (t : Nat) : Ans → Nat
  | .thing _ n => t + n
  | _ => t
def spDue : Sp := fun vs H Q _ => ∃ (a : Addr) (fs : Codes) (bs : List Bool) (t : Nat), vs = [.ref a, .str (tx bs), nV t] ∧ H a = some (.lst (fs.map txt)) ∧ GoodF fs ∧ t ≤ bs.length ∧ bs.length ≤ 100000 ∧
  ∀ (H' : Hp) (p : Addr) (x : V), Same H H' → AnsIs H' x (due fs [] (bs.drop t)) → H' p = some (.tup [x, nV (endOf t (due fs [] (bs.drop t)))]) → Q (.ref p) H'
theorem due_cons (fs : Codes) (w : List Bool) (b : Bool) (r : List Bool) : due fs w (b :: r) = match hit fs (w ++ [b]) with
    | some p => .thing p (w.length + 1)
    | none => if begun fs (w ++ [b]) = true then due fs (w ++ [b]) r else .bad := by
  conv => lhs; unfold due
  all_goals rfl
theorem cut_from {bs : List Bool} {t : Nat} (h : t ≤ bs.length) : cutS (tx bs) (some (t : Int)) none = tx (bs.drop t) := by
  unfold cutS
  rw [HT.sIx_nat, HT.sIx_none, tx_len, Nat.min_eq_left h]
  have e : (tx bs).cps.toList = bs.map ch := rfl
  rw [e, ← List.map_drop, List.take_of_length_le (by rw [List.length_map, List.length_drop]; exact Nat.le_refl _)]
  rfl
/-- lists of texts as data -/
theorem dp_strs {K : PySem.W.Frag} {H : Hp} : ∀ zs : List Str, DpAll K H (zs.map V.str) (zs.map PyData.str)
  | [] => .nil
  | z :: r => .cons (.str z) (dp_strs r)
theorem depth_strs : ∀ zs : List Str, PyData.depthAll (zs.map PyData.str) = 0
  | [] => rfl
  | z :: r => by
    show max (PyData.depth (.str z)) (PyData.depthAll (r.map PyData.str)) = 0
    rw [depth_strs r]
    rfl
theorem shaped_strs {zs : List Str} (h : ∀ z ∈ zs, PyData.strOk z = true) : SeqAt.shaped (.list (zs.map PyData.str)) = true := by
  have h1 : ∀ zs : List Str, (∀ z ∈ zs, PyData.strOk z = true) → PyData.canLayAll0 (zs.map PyData.str) = true := by
    intro zs
    induction zs with
    | nil => intro _; rfl
    | cons z r ih =>
      intro h
      show (PyData.strOk z && PyData.canLayAll0 (r.map PyData.str)) = true
      rw [ih (fun z hz => h z (List.mem_cons_of_mem _ hz)), h z (List.mem_cons_self ..)]
      rfl
  unfold SeqAt.shaped
  rw [Bool.and_eq_true, decide_eq_true_eq]
  refine ⟨h1 zs h, ?_⟩
  show PyData.depthAll (zs.map PyData.str) + 1 ≤ 64
  rw [depth_strs]
  decide
theorem tx_ok (bs : List Bool) : PyData.strOk (tx bs) = true := by
  show (bs.map ch).toArray.all (· < 0x110000) = true
  rw [← Array.all_toList, List.all_eq_true]
  intro c hc
  obtain ⟨b, _, rfl⟩ := List.mem_map.mp hc
  cases b <;> rfl
/-- the text itself -/
def txS : Option (Nat × Nat) → Str
  | none => "none"
  | some x => tx (bitsOf x.2 x.1)
theorem txt_str (o : Option (Nat × Nat)) : txt o = .str (txS o) := by cases o <;> rfl
theorem txS_ok (o : Option (Nat × Nat)) : PyData.strOk (txS o) = true := by
  cases o with
  | none => decide +kernel
  | some x => exact tx_ok _
theorem eqv_nil (zs : List Str) : PyData.eqv (.list (zs.map PyData.str)) (.list []) = zs.isEmpty := by
  cases zs <;> rfl
section
variable {P : Program} {w : World} {K : PySem.W.Frag} {mg : Str → Option Value} {base : Heap}
theorem scDue : FnScope ["_law_codes_here", "_law_bits_here", "_law_at", "_law_word_here", "_law_bit", "_law_begun", "_law_code"] ["_law_codes_here", "_law_bits_here", "_law_at"] (defScope sDue) := ⟨rfl, rfl, rfl, by decide +kernel, rfl, by decide +kernel, by decide +kernel⟩
theorem ok_due {f : Addr} {fd : FuncData} (F : FnP K "_law_due" "_law_due" sDue f fd) (T : Tx mg) : FnOk P w K mg base CX0 1 f fd ["_law_codes_here", "_law_bits_here", "_law_at"] spDue := by
  refine fnp_ok F scDue (fun vs H Q E h => ?_) (fun cdv A outer s H vs Q E hr h => ?_)
  · obtain ⟨a, fs, bs, t, rfl, _⟩ := h
    rfl
  · obtain ⟨a, fs, bs, t, rfl, ha, G, ht, hlen, q⟩ := h
    have hu := hr.units
    refine ⟨_, pss_cons (ps_set (i := 3) scDue.nd rfl (.inr rfl) pe_str)
      (pss_cons (ps_for PassesOwn.never rfl (pi_str (pe_slice sl_str (pv 1) (po_some (pv 2)) po_none)) (pg_name (i := 4) scDue.nd rfl (.inl rfl))
        (pss_cons (ps_set (i := 3) scDue.nd rfl (.inr rfl) (pe_op op_add_str (pv 3) (pv 4)))
        (pss_cons (ps_setLc (i := 5) (own := [("_law_code", 6)]) (g := gName 6) rfl scDue.nd rfl rfl (sw_true rfl rfl rfl (by decide +kernel)) (pi_list (pv 0))
            (blkOk_by (own := [("_law_code", 6)]) (N := ["_law_codes_here", "_law_bits_here", "_law_at", "_law_word_here", "_law_bit", "_law_begun", "_law_code"]) (sc := defScope sDue) (by decide +kernel))
            (fun _ _ _ _ _ => pg_name (i := 6) scDue.nd rfl (Or.inl rfl)) (fun _ _ _ _ _ => pts_one (pt_val (pe_m1 PySem.F.slot_str_startswith PySem.F.type_str_startswith mt_startswith (pv 6) (pv 3)))) (fun _ _ _ _ _ => pv 6))
        (pss_cons (ps_if (pt_cmpR op_in_seq (pv 3) (pv 0) (by rfl))
            (pss_one (ps_ret (pe_tup (pa_cons (pe_bm PySem.F.plainAttrs_list PySem.F.slot_list_index PySem.F.type_list_index mt_index (pv 0) (pa_cons (pv 3) pa_nil)) (pa_cons (pe_op n_add (pv 2) (pe_callB call_len_str (by rfl) T.len boot_len (pa_cons (pv 3) pa_nil))) pa_nil))))) pss_nil)
        (pss_one (ps_if (pt_cmpR (op_eqD hu) (pv 5) (pe_lst pa_nil) (nomark _))
            (pss_one (ps_ret (pe_tup (pa_cons (pe_tup (pa_cons pe_str (pa_cons (pe_lst (pa_cons pe_bl (pa_cons pe_bl pa_nil))) pa_nil))) (pa_cons (pv 2) pa_nil))))) pss_nil))))))
      (pss_one (ps_ret (pe_tup (pa_cons (pe_tup (pa_cons pe_str (pa_cons (pe_lst (pa_cons pe_bl (pa_cons pe_bl pa_nil))) pa_nil))) (pa_cons (pv 2) pa_nil)))))), ?_⟩
    have hsz : (tx bs).length ≤ sizeLine := by
      rw [tx_len]
      exact Nat.le_trans hlen (by decide)
    refine ⟨_, rfl, _, rfl, (t : Int), rfl, tx bs, rfl, hsz, ?_⟩
    rw [cut_from ht]
    refine ⟨tx (bs.drop t), rfl, for_it walk_str (fun i σ H' => ∃ v4 v5 : Option V, σ = [some (.ref a), some (.str (tx bs)), some (nV t), some (.str (tx ((bs.drop t).take i))), v4, v5, none] ∧ Same H H' ∧ due fs [] (bs.drop t) = due fs ((bs.drop t).take i) ((bs.drop t).drop i)) ⟨none, none, rfl, Same.refl H, rfl⟩ (fun _ _ _ _ _ => trivial) ?_ ?_⟩
    · rintro i x σ H' H2 hi ⟨v4, v5, rfl, s1, hd⟩ ⟨rfl, c, hc, rfl⟩
      have hi : i < (bs.drop t).length := by
        have : (tx (bs.drop t)).length = (bs.drop t).length := tx_len _
        exact Nat.lt_of_lt_of_eq hi this
      have hib : i < bs.length := by
        rw [List.length_drop] at hi
        omega
      have hb : (bs.drop t)[i]? = some (bs.drop t)[i] := List.getElem?_eq_getElem hi
      generalize (bs.drop t)[i] = b at hb
      have ec : c = ch b := by
        have : ((bs.drop t).map ch)[i]? = some c := by
          rw [← hc]
          exact (List.getElem?_toArray ..).symm
        rw [List.getElem?_map, hb] at this
        exact (Option.some.inj this).symm
      subst ec
      have ew : (bs.drop t).take (i + 1) = (bs.drop t).take i ++ [b] := take_more hb
      have ed : (bs.drop t).drop i = b :: (bs.drop t).drop (i + 1) := by
        rw [List.drop_eq_getElem_cons hi]
        have := List.getElem?_eq_getElem hi
        rw [hb] at this
        rw [← Option.some.inj this]
      have hw : (bs.drop t).take (i + 1) ≠ [] := by
        rw [ew]
        exact List.append_ne_nil_of_right_ne_nil _ (List.cons_ne_nil _ _)
      have hwl : ((bs.drop t).take (i + 1)).length = i + 1 := by
        rw [List.length_take]
        omega
      have hsw : (tx ((bs.drop t).take (i + 1))).length ≤ sizeLine := by
        rw [tx_len, hwl]
        exact Nat.le_trans (Nat.le_trans hib hlen) (by decide)
      rw [ed] at hd
      rw [due_cons, ← ew] at hd
      have ewl : ((bs.drop t).take i).length + 1 = i + 1 := by
        rw [List.length_take]
        omega
      have etx : tx ((bs.drop t).take i) ++ tS [ch b] = tx ((bs.drop t).take (i + 1)) := by
        rw [ew, ← tx_cat]
        rfl
      rw [ewl] at hd
      refine ⟨_, rfl, _, rfl, tx ((bs.drop t).take i), tS [ch b], rfl, rfl, ?_, ?_⟩
      · have e1 := tx_len ((bs.drop t).take i)
        have e2 := tS_len [ch b]
        rw [e1, e2, List.length_singleton, ewl]
        exact Nat.le_trans (Nat.le_trans hib hlen) (by decide)
      rw [etx]
      generalize (bs.drop t).take (i + 1) = w' at *
      have ha2 : H2 a = some (.lst (fs.map txt)) := s1 _ _ ha
      refine ⟨_, rfl, a, rfl, ⟨_, SqL.of ha2⟩, fun D hD => ?_⟩
      have naD : a ≠ D := ne_of_none ha2 hD
      refine lc_list (K := K) (a := a) (xs := fs.map txt) (fun j H3 => ∃ u : HO, H3 = upd H2 D u ∧ u = .lst (((fs.take j).filter (begins w')).map txt)) ⟨_, rfl, rfl⟩ ?_ ?_ ?_
      · rintro j H3 hj ⟨u, rfl, rfl⟩
        exact SqL.of ((upd_ne naD).trans ha2)
      · rintro j x H3 hx ⟨u, rfl, rfl⟩
        obtain ⟨o, ho, rfl⟩ := getElem_map_some hx
        obtain ⟨z, hz, hs⟩ := starts_txt G ho hw
        rw [hz]
        refine ⟨rfl, _, rfl, ⟨z, rfl⟩, _, rfl, z, tx w', rfl, rfl, _, rfl, ?_⟩
        have et : ∀ b : Bool, begins w' o = b → ((fs.take (j + 1)).filter (begins w')).map txt = ((fs.take j).filter (begins w')).map txt ++ (if b = true then [V.str z] else []) := fun b eb => by
          rw [take_more ho, List.filter_append, List.map_append]
          congr 1
          rw [List.filter_cons, eb]
          cases b
          · rfl
          · show [txt o] = _
            rw [hz]
            rfl
        have hlt : (((fs.take j).filter (begins w')).map txt).length < sizeLine := by
          rw [List.length_map]
          have h1 := List.length_filter_le (begins w') (fs.take j)
          rw [List.length_take] at h1
          have h2 := G.n300
          have h3 : (300 : Nat) < sizeLine := by decide
          omega
        rw [hs]
        refine ite2 (fun cc => ?_) (fun cc => ?_)
        · have e1 := et true cc
          exact ⟨_, rfl, _, upd_same, hlt, _, upd_upd, congrArg HO.lst e1.symm⟩
        · have e1 := et false (Bool.eq_false_iff.mpr cc)
          rw [if_neg Bool.false_ne_true, List.append_nil] at e1
          exact ⟨_, rfl, congrArg HO.lst e1.symm⟩
      · rintro H3 ⟨u, rfl, rfl⟩
        rw [List.length_map, List.take_length]
        have ha3 : upd H2 D (.lst ((fs.filter (begins w')).map txt)) a = some (.lst (fs.map txt)) := (upd_ne naD).trans ha2
        have s3 : Same H (upd H2 D (.lst ((fs.filter (begins w')).map txt))) := s1.new hD
        refine ⟨_, rfl, _, rfl, a, fs.map txt, rfl, .inl (SqL.of ha3), rfl, flat_txt fs, _, rfl, ?_⟩
        rw [if_neg Bool.false_ne_true, in_txt G hw]
        cases eh : hit fs w' with
        | some p =>
          rw [eh] at hd
          refine iteT ?_
          have hp := (hit_some G.uniq).mp eh
          refine ⟨_, rfl, .inl ⟨rfl, _, SqL.of ha3⟩, _, rfl, a, fs.map txt, .str (tx w'), p, txt (some (val w', w'.length)), rfl, rfl, SqL.of ha3, rfl, flat_txt fs, ?_, ?_, ?_, ?_⟩
          · rw [List.getElem?_map, hp]
            rfl
          · rw [eq_txt G hp hw]
            exact beq_self_eq_true _
          · intro m z' hm hz'
            obtain ⟨o, ho, rfl⟩ := getElem_map_some hz'
            rw [eq_txt G ho hw, beq_eq_false_iff_ne]
            intro eo
            rw [eo] at ho
            exact absurd (G.uniq m p _ ho hp) (Nat.ne_of_lt hm)
          · refine ⟨_, rfl, _, rfl, tx w', rfl, hsw, t, (tx w').length, rfl, rfl, (by show 2 ≤ sizeLine; decide), fun r hr => ?_⟩
            refine q _ r (nV p) (s3.new hr) ?_ ?_
            · rw [hd]
              rfl
            · rw [hd, tx_len, hwl]
              exact upd_same
        | none =>
          rw [eh] at hd
          refine iteF ?_
          have ebn : (fs.filter (begins w')).isEmpty = !begun fs w' := by
            unfold begun
            rw [Bool.eq_iff_iff, List.isEmpty_iff, List.filter_eq_nil_iff, Bool.not_eq_true', List.any_eq_false]
          refine ⟨_, rfl, Nat.zero_le _, fun e he => ?_⟩
          have nDe : D ≠ e := ne_of_none upd_same he
          have ez : (fs.filter (begins w')).map txt = ((fs.filter (begins w')).map txS).map V.str := by
            rw [List.map_map]
            exact List.map_congr_left fun o _ => txt_str o
          refine ⟨.list (((fs.filter (begins w')).map txS).map PyData.str), .list [], .lst (SqL.of ((upd_ne nDe).trans (upd_same.trans (congrArg (fun l => some (HO.lst l)) ez)))) (dp_strs _), .lst (SqL.of upd_same) .nil, shaped_strs (fun z hz => ?_), rfl, _, rfl, ?_⟩
          · obtain ⟨o, _, rfl⟩ := List.mem_map.mp hz
            exact txS_ok o
          rw [eqv_nil, List.isEmpty_map, ebn]
          have s4 : Same H (upd (upd H2 D (.lst ((fs.filter (begins w')).map txt))) e (.lst [])) := s3.new he
          cases ebg : begun fs w' with
          | false =>
            rw [ebg, if_neg Bool.false_ne_true] at hd
            refine iteT ?_
            refine ⟨Nat.le_of_lt (by show 2 < sizeLine; decide), fun l hl => ⟨Nat.le_of_lt (by show 2 < sizeLine; decide), fun r hr => ⟨_, rfl, Nat.le_of_lt (by show 2 < sizeLine; decide), fun p hp => ?_⟩⟩⟩
            have nlr : l ≠ r := ne_of_none upd_same hr
            have nrp : r ≠ p := ne_of_none upd_same hp
            have nlp : l ≠ p := ne_of_none ((upd_ne nlr).trans upd_same) hp
            refine q _ p (.ref r) (((s4.new hl).new hr).new hp) ?_ ?_
            · rw [hd]
              exact ⟨r, l, rfl, (upd_ne nrp).trans upd_same, (upd_ne nlp).trans ((upd_ne nlr).trans upd_same)⟩
            · rw [hd]
              exact upd_same
          | true =>
            rw [ebg, if_pos rfl] at hd
            refine iteF ?_
            exact ⟨_, _, rfl, s4, hd⟩
    · rintro σ H' ⟨v4, v5, rfl, s1, hd⟩
      have esz : (tx (bs.drop t)).cps.size = (bs.drop t).length := tx_len _
      rw [esz, List.take_length, List.drop_length] at hd
      have hd : due fs [] (bs.drop t) = .short := by
        rw [hd]
        unfold due
        rfl
      refine ⟨Nat.le_of_lt (by show 2 < sizeLine; decide), fun l hl => ⟨Nat.le_of_lt (by show 2 < sizeLine; decide), fun r hr => ⟨_, rfl, Nat.le_of_lt (by show 2 < sizeLine; decide), fun p hp => ?_⟩⟩⟩
      have nlr : l ≠ r := ne_of_none upd_same hr
      have nrp : r ≠ p := ne_of_none upd_same hp
      have nlp : l ≠ p := ne_of_none ((upd_ne nlr).trans upd_same) hp
      refine q _ p (.ref r) (((s1.new hl).new hr).new hp) ?_ ?_
      · rw [hd]
        exact ⟨r, l, rfl, (upd_ne nrp).trans upd_same, (upd_ne nlp).trans ((upd_ne nlr).trans upd_same)⟩
      · rw [hd]
        exact upd_same
end
end Bale
set_option Elab.async false
set_option linter.all false
set_option maxRecDepth 100000
set_option maxHeartbeats 4000000
/-! The law's bits. -/
namespace Bale
open PySem PySem.Spec PyProof.Rows L2
abbrev sBits : Stmt := top 51
theorem txt_none {o : Option (Nat × Nat)} (h : txt o = .str "none") (g : ∀ c l, o = some (c, l) → 1 ≤ l) : o = none := by
  cases o with
  | none => rfl
  | some x =>
    obtain ⟨c, l⟩ := x
    have h1 : (tx (bitsOf l c)) = ("none" : Str) := V.str.inj h
    rw [none_text] at h1
    have h2 := tS_inj h1
    have hl := bitsOf_length l c
    have := g c l rfl
    cases e : bitsOf l c with
    | nil =>
      rw [e] at hl
      have : (0 : Nat) = l := hl
      omega
    | cons b r =>
      rw [e, List.map_cons] at h2
      injection h2 with h3 _
      cases b <;> exact absurd h3 (by decide)
theorem cut_to {bs : List Bool} {t : Nat} (h : t ≤ bs.length) : cutS (tx bs) none (some (t : Int)) = tx (bs.take t) := by
  unfold cutS
  rw [HT.sIx_nat, HT.sIx_none, tx_len, Nat.min_eq_left h]
  have e : (tx bs).cps.toList = bs.map ch := rfl
  rw [e]
  show (⟨(List.take (t - 0) (List.drop 0 (bs.map ch))).toArray⟩ : Str) = _
  rw [Nat.sub_zero, List.drop_zero, ← List.map_take]
  rfl
theorem ifNF {c A B : Prop} [Decidable c] (hc : ¬ c) (h : A) : if (!decide c) = true then A else B := by
  rw [decide_eq_false hc]
  exact iteT h
def wS (w : List Bool) : V := .str (tx w)
def spBits (K : PySem.W.Frag) : Sp := fun vs H Q _ => ∃ (a : Addr) (ns : List Int) (b : Addr) (fs : Codes) (p : Nat) (x : Nat × Nat), vs = [.ref a, .ref b] ∧ SqL K H a (ns.map V.int) ∧ H b = some (.lst (fs.map txt)) ∧ GoodF fs ∧ fs[p]? = some (some x) ∧
  ∀ (H' : Hp) (r : Addr) (bs : List Bool) (n : Nat), Same H H' → H' r = some (.tup [.str (tx bs), nV n]) → n ≤ bs.length → n ≤ 3 → bs.length ≤ 1000 → Q (.ref r) H'
section
variable {P : Program} {w : World} {K : PySem.W.Frag} {mg : Str → Option Value} {base : Heap}
abbrev nmBits : List Str := ["_law_script", "_law_texts_here", "_law_text", "_law_some", "_law_bits_here", "_law_ahead", "_law_k", "_law_number"]
theorem scBits : FnScope nmBits ["_law_script", "_law_texts_here"] (defScope sBits) := ⟨rfl, rfl, rfl, by decide +kernel, rfl, by decide +kernel, by decide +kernel⟩
theorem ok_bits {f : Addr} {fd : FuncData} (F : FnP K "_law_bits" "_law_bits" sBits f fd) (T : Tx mg) (cC : Cal P w K mg base 1 "_law_cell_at" (spCellA K)) (cM : Cal P w K mg base 1 "_law_mixed" spMixed) :
    FnOk P w K mg base CX0 2 f fd ["_law_script", "_law_texts_here"] (spBits K) := by
  refine fnp_ok F scBits (fun vs H Q E h => ?_) (fun cdv A outer s H vs Q E hr h => ?_)
  · obtain ⟨a, ns, b, fs, p, x, rfl, _⟩ := h
    rfl
  · obtain ⟨a, ns, b, fs, p0, x0, rfl, hS, hb, G, hx0, q⟩ := h
    refine ⟨_, pss_cons (ps_setLc (i := 3) (own := [("_law_text", 2)]) (g := gName 2) rfl scBits.nd rfl rfl (sw_true rfl rfl rfl (by decide +kernel)) (pi_list (pv 1))
            (blkOk_by (own := [("_law_text", 2)]) (N := nmBits) (sc := defScope sBits) (by decide +kernel))
            (fun _ _ _ _ _ => pg_name (i := 2) scBits.nd rfl (Or.inl rfl)) (fun _ _ _ _ _ => pts_one (pt_cmpR op_ne (pv 2) pe_str (nomark _))) (fun _ _ _ _ _ => pv 2))
      (pss_cons (ps_set (i := 4) scBits.nd rfl (.inl rfl) (pe_slice sl_str pe_str po_none (po_some (pe_op m_mod (pe_f cC hr (by decide) (by rfl) (pa_cons (pv 0) (pa_cons (pe_n 2) pa_nil))) (pe_n 4)))))
      (pss_cons (ps_set (i := 5) scBits.nd rfl (.inl rfl) (pe_callB call_len_str (by rfl) T.len boot_len (pa_cons (pv 4) pa_nil)))
      (pss_cons (ps_for PassesOwn.never rfl (pi_range1 rfl T.range (pa_cons (pe_op m_mod (pe_op op_fdiv (pe_f cC hr (by decide) (by rfl) (pa_cons (pv 0) (pa_cons (pe_n 2) pa_nil))) (pe_n 4)) (pe_n 10)) pa_nil)) (pg_name (i := 6) scBits.nd rfl (.inl rfl))
        (pss_one (ps_set (i := 4) scBits.nd rfl (.inl rfl) (pe_op op_add_str (pv 4) (pe_ix n_ix (pv 3) (pe_op n_mod (pe_op n_div (pe_f cM hr (by decide) (by rfl) (pa_cons (pe_op op_fdiv (pe_f cC hr (by decide) (by rfl) (pa_cons (pv 0) (pa_cons (pe_n 2) pa_nil))) (pe_n 40)) (pa_cons (pe_op n_add (pv 6) (pe_n 50)) pa_nil))) (pe_n 7)) (pe_callB call_len_seq (by rfl) T.len boot_len (pa_cons (pv 3) pa_nil))) (fun _ _ => rfl))))))
      (pss_cons (ps_set (i := 7) scBits.nd rfl (.inr rfl) (pe_f cM hr (by decide) (by rfl) (pa_cons (pe_op op_fdiv (pe_f cC hr (by decide) (by rfl) (pa_cons (pv 0) (pa_cons (pe_n 2) pa_nil))) (pe_n 40)) (pa_cons (pe_n 31) pa_nil))))
      (pss_cons (ps_set (i := 4) scBits.nd rfl (.inl rfl) (pe_op op_add_str (pv 4) (pe_join pe_str (pe_lc (own := [("_law_k", 6)]) (g := gName 6) (tt := tYes) rfl scBits.nd (pi_range1 rfl T.range (pa_cons (pe_op n_mod (pe_op n_div (pv 7) (pe_n 128)) (pe_n 8)) pa_nil))
              (blkOk_by (own := [("_law_k", 6)]) (N := nmBits) (sc := defScope sBits) (by decide +kernel))
              (fun _ _ _ _ _ => pg_name (i := 6) scBits.nd rfl (Or.inl rfl)) (fun _ _ _ _ _ => pts_nil)
              (fun _ _ _ _ _ => pe_callTy r_strbit (by rfl) T.str boot_str (pa_cons (pe_op n_bit (pe_op n_shr (pv 7) (pv 6)) (pe_n 1)) pa_nil))))))
      (pss_cons (ps_if (pt_cmpR n_eq (pe_op n_mod (pe_op n_div (pv 7) (pe_n 1024)) (pe_n 3)) (pe_n 1) (nomark _))
          (pss_cons (ps_set (i := 2) scBits.nd rfl (.inl rfl) (pe_ix n_ix (pv 3) (pe_op n_mod (pe_op n_div (pv 7) (pe_n 4096)) (pe_callB call_len_seq (by rfl) T.len boot_len (pa_cons (pv 3) pa_nil))) (fun _ _ => rfl)))
          (pss_one (ps_set (i := 4) scBits.nd rfl (.inl rfl) (pe_op op_add_str (pv 4) (pe_slice sl_str (pv 2) po_none (po_some (pe_op n_mod (pe_op n_div (pv 7) (pe_n 65536)) (pe_callB call_len_str (by rfl) T.len boot_len (pa_cons (pv 2) pa_nil))))))))) pss_nil)
      (pss_one (ps_ret (pe_tup (pa_cons (pv 4) (pa_cons (pv 5) pa_nil))))))))))), ?_⟩
    refine ⟨_, rfl, b, rfl, ⟨_, SqL.of hb⟩, fun D hD => ?_⟩
    have nbD : b ≠ D := ne_of_none hb hD
    refine lc_list (K := K) (a := b) (xs := fs.map txt) (fun j H3 => ∃ ws : List (List Bool), H3 = upd H D (.lst (ws.map wS)) ∧ (∀ w ∈ ws, 1 ≤ w.length ∧ w.length ≤ 12) ∧ ws.length ≤ j ∧ ∀ p x, p < j → fs[p]? = some (some x) → ws ≠ [])
      ⟨[], rfl, (fun _ h => nomatch h), Nat.le_refl _, fun p x h => absurd h (Nat.not_lt_zero p)⟩ ?_ ?_ ?_
    · rintro j H3 hj ⟨ws, rfl, _⟩
      exact SqL.of ((upd_ne nbD).trans hb)
    · rintro j x H3 hx ⟨ws, rfl, hw, hn, hne⟩
      obtain ⟨o, ho, rfl⟩ := getElem_map_some hx
      have hj : j < fs.length := (List.getElem?_eq_some_iff.mp ho).1
      have hsz : (ws.map wS).length < sizeLine := by
        rw [List.length_map]
        have h2 := G.n300
        have h3 : (300 : Nat) < sizeLine := by decide
        omega
      refine ⟨rfl, _, rfl, ?_, _, rfl, ?_⟩
      · cases o <;> rfl
      · cases o with
        | none => exact ifN (c := txt none = .str "none") rfl ⟨ws, rfl, hw, Nat.le_succ_of_le hn, fun p x hp hpx => by
            rcases Nat.lt_or_eq_of_le (Nat.le_of_lt_succ hp) with h | h
            · exact hne p x h hpx
            · rw [h, ho] at hpx
              cases hpx⟩
        | some x =>
          obtain ⟨c, l⟩ := x
          have hl := G.ent j c l ho
          refine ifNF (c := txt (some (c, l)) = .str "none") (fun e => ?_) ⟨_, rfl, _, upd_same, hsz, ws ++ [bitsOf l c], ?_, ?_, ?_, ?_⟩
          · cases txt_none e fun c' l' e' => by
              cases e'
              exact hl.1
          · rw [upd_upd, List.map_append]
            rfl
          · intro w hw'
            rcases List.mem_append.mp hw' with h | h
            · exact hw w h
            · rw [List.mem_singleton.mp h, bitsOf_length]
              exact ⟨hl.1, hl.2.1⟩
          · rw [List.length_append]
            exact Nat.succ_le_succ hn
          · exact fun _ _ _ _ => List.append_ne_nil_of_right_ne_nil _ (List.cons_ne_nil _ _)
    · rintro H3 ⟨ws, rfl, hw, hn, hne⟩
      have hne : ws ≠ [] := hne p0 x0 (by rw [List.length_map]; exact (List.getElem?_eq_some_iff.mp hx0).1) hx0
      have hpos : 0 < ws.length := List.length_pos_iff.mpr hne
      have hwn : ws.length ≤ 300 := by
        rw [List.length_map] at hn
        exact Nat.le_trans hn G.n300
      have hS1 : SqL K (upd H D (.lst (ws.map wS))) a (ns.map V.int) := ((Same.refl H).new hD).seq hS
      have hD1 : upd H D (.lst (ws.map wS)) D = some (.lst (ws.map wS)) := upd_same
      have s1 : Same H (upd H D (.lst (ws.map wS))) := (Same.refl H).new hD
      generalize upd H D (.lst (ws.map wS)) = H1 at hS1 hD1 s1 ⊢
      have getw : ∀ k : Nat, k < ws.length → ∃ w, w ∈ ws ∧ (ws.map wS)[k]? = some (wS w) ∧ 1 ≤ w.length ∧ w.length ≤ 12 := fun k hk =>
        ⟨ws[k], List.getElem_mem hk, by rw [List.getElem?_map, List.getElem?_eq_getElem hk]; rfl, hw _ (List.getElem_mem hk)⟩
      have e101 : ("101" : Str) = tx [true, false, true] := by decide +kernel
      have cat : ∀ {b1 b2 : List Bool}, b1.length + b2.length ≤ 1000 → (tx b1).length + (tx b2).length ≤ sizeLine := fun {b1 b2} h => by
        rw [tx_len, tx_len]
        exact Nat.le_trans h (by decide)
      have hlm : ((ws.map wS).length : Int) = (ws.length : Int) := by rw [List.length_map]
      refine ⟨_, rfl, a, ns, 2, rfl, hS1, fun z0 => ⟨z0, 4, rfl, rfl, (by show (0 : Nat) < 4; decide), fun m0 hm0 => ⟨(m0 : Int), rfl, "101", rfl, (by decide +kernel), ?_⟩⟩⟩
      rw [e101, cut_to (Nat.le_of_lt_succ hm0)]
      have h3 : (List.take m0 [true, false, true]).length ≤ 3 := by
        rw [List.length_take]
        exact Nat.min_le_right _ _
      generalize List.take m0 [true, false, true] = b0 at h3 ⊢
      refine ⟨_, rfl, tx b0, rfl, (by rw [tx_len]; exact Nat.le_trans h3 (by decide)), ?_⟩
      rw [tx_len]
      refine ⟨_, rfl, a, ns, 2, rfl, hS1, fun z1 => ⟨z1, 4, rfl, rfl, ⟨by decide, by decide⟩, z1 / 4, 10, rfl, rfl, (by show (0 : Nat) < 10; decide), fun m1 hm1 => ⟨(m1 : Int), rfl, by omega, by omega,
        for_range (lo := 0) (n := m1) (fun i σ H' => ∃ (bs : List Bool) (v6 : Option V), σ = [some (.ref a), some (.ref b), none, some (.ref D), some (.str (tx bs)), some (nV b0.length), v6, none] ∧ H' = H1 ∧ b0.length ≤ bs.length ∧ bs.length ≤ 3 + 12 * i)
          ⟨b0, none, rfl, rfl, Nat.le_refl _, h3⟩ ?_ ?_⟩⟩⟩
      · rintro i σ H' hi ⟨bs, v6, rfl, rfl, hb0, hbl⟩
        have ei : V.int (0 + (i : Int)) = nV i := congrArg V.int (Int.zero_add _)
        rw [ei]
        refine ⟨_, rfl, _, rfl, _, rfl, a, ns, 2, rfl, hS1, fun z => ⟨z, 40, rfl, rfl, ⟨by decide, by decide⟩, _, rfl, i, 50, rfl, rfl, z / 40, i + 50, rfl, by omega, fun m => ⟨m, 7, rfl, rfl, ⟨by decide, by decide⟩, _, rfl, D, _, rfl, .inl (SqL.of hD1), m / 7, (ws.map wS).length, rfl, rfl, (by show 0 < (ws.map wS).length; rw [List.length_map]; exact hpos), ?_⟩⟩⟩
        obtain ⟨w, hwm, hg, w1, w12⟩ := getw (m / 7 % (ws.map wS).length) (by
          have := Nat.mod_lt (m / 7) (show 0 < (ws.map wS).length by rw [List.length_map]; exact hpos)
          rwa [List.length_map] at this ⊢)
        refine ⟨D, _, m / 7 % (ws.map wS).length, wS w, rfl, rfl, SqL.of hD1, hg, tx bs, tx w, rfl, rfl, cat (by omega), ?_⟩
        rw [tx_cat]
        exact ⟨bs ++ w, _, rfl, rfl, by rw [List.length_append]; omega, by rw [List.length_append]; omega⟩
      · rintro σ H' ⟨bs, v6, rfl, rfl, hb0, hbl⟩
        refine ⟨_, rfl, a, ns, 2, rfl, hS1, fun z => ⟨z, 40, rfl, rfl, ⟨by decide, by decide⟩, z / 40, 31, rfl, by decide, fun m => ?_⟩⟩
        refine ⟨_, rfl, ⟨_, rfl⟩, _, rfl, m, 128, rfl, rfl, ⟨by decide, by decide⟩, m / 128, 8, rfl, rfl, (by show (0 : Nat) < 8; decide), ((m / 128 % 8 : Nat) : Int), rfl, by omega, by omega, fun E2 hE2 => ?_⟩
        have hn8 : m / 128 % 8 < 8 := Nat.mod_lt _ (by decide)
        generalize m / 128 % 8 = n8 at hn8 ⊢
        have nDE : D ≠ E2 := ne_of_none hD1 hE2
        refine lc_range (lo := 0) (n := n8) (fun k H3 => ∃ u : HO, H3 = upd H' E2 u ∧ u = .lst ((List.range k).map fun j => V.str (tS [ch (m / 2 ^ j % 2 == 1)]))) ⟨_, rfl, rfl⟩ ?_ ?_
        · rintro k H3 hk ⟨u, rfl, rfl⟩
          have ek : V.int (0 + (k : Int)) = nV k := congrArg V.int (Int.zero_add _)
          rw [ek]
          refine ⟨rfl, _, rfl, _, rfl, m, k, rfl, rfl, m / 2 ^ k, rfl, rfl, m / 2 ^ k % 2, rfl, Nat.mod_lt _ (by decide), _, upd_same, ?_, _, upd_upd, ?_⟩
          · rw [List.length_map, List.length_range]
            exact Nat.lt_of_lt_of_le hk (Nat.le_trans (Nat.le_of_lt hn8) (by decide))
          · rw [List.range_succ, List.map_append]
            rfl
        · rintro H3 ⟨u, rfl, rfl⟩
          have ejoin : ((List.range n8).map fun j => V.str (tS [ch (m / 2 ^ j % 2 == 1)])) = ((((List.range n8).map fun j => m / 2 ^ j % 2 == 1).map ch).map fun c => tS [c]).map V.str := by
            rw [List.map_map, List.map_map, List.map_map]
            rfl
          have el7 : ((List.range n8).map fun j => m / 2 ^ j % 2 == 1).length = n8 := by rw [List.length_map, List.length_range]
          generalize ((List.range n8).map fun j => m / 2 ^ j % 2 == 1) = b7 at ejoin el7
          rw [ejoin]
          refine ⟨_, E2, (b7.map ch).map fun c => tS [c], rfl, rfl, .inl (SqL.of upd_same), ?_, ?_⟩
          · have e1 : (((b7.map ch).map fun c => tS [c]).map (·.length)).sum ≤ n8 := by
              rw [List.map_map]
              have : (fun x : Str => x.length) ∘ (fun c => tS [c]) = fun _ => 1 := by
                funext j
                exact tS_len _
              rw [this, List.map_const', List.sum_replicate_nat, List.length_map, el7]
              omega
            have e2 : (("" : Str)).length = 0 := by decide +kernel
            rw [e2, Nat.mul_zero, Nat.add_zero]
            exact Nat.le_trans e1 (Nat.le_trans (Nat.le_of_lt hn8) (by decide))
          · rw [join_signs]
            refine ⟨tx bs, tx b7, rfl, rfl, cat (by omega), ?_⟩
            rw [tx_cat]
            have hD3 : upd H' E2 (.lst ((((b7.map ch).map fun c => tS [c]).map V.str))) D = some (.lst (ws.map wS)) := (upd_ne nDE).trans hD1
            have s3 : Same H (upd H' E2 (.lst ((((b7.map ch).map fun c => tS [c]).map V.str)))) := s1.new hE2
            generalize upd H' E2 (.lst ((((b7.map ch).map fun c => tS [c]).map V.str))) = H3 at hD3 s3 ⊢
            refine ⟨_, rfl, m, 1024, rfl, rfl, ⟨by decide, by decide⟩, m / 1024, 3, rfl, rfl, (by show (0 : Nat) < 3; decide), m / 1024 % 3, 1, rfl, rfl, _, rfl, ?_⟩
            refine ite2 (fun c => ?_) (fun c => ?_)
            · refine ⟨_, rfl, _, rfl, m, 4096, rfl, rfl, ⟨by decide, by decide⟩, _, rfl, D, _, rfl, .inl (SqL.of hD3), m / 4096, (ws.map wS).length, rfl, rfl, (by show 0 < (ws.map wS).length; rw [List.length_map]; exact hpos), ?_⟩
              obtain ⟨w, hwm, hg, w1, w12⟩ := getw (m / 4096 % (ws.map wS).length) (by
                have := Nat.mod_lt (m / 4096) (show 0 < (ws.map wS).length by rw [List.length_map]; exact hpos)
                rwa [List.length_map] at this ⊢)
              refine ⟨D, _, m / 4096 % (ws.map wS).length, wS w, rfl, rfl, SqL.of hD3, hg, ?_⟩
              refine ⟨_, rfl, _, rfl, _, rfl, m, 65536, rfl, rfl, ⟨by decide, by decide⟩, _, rfl, tx w, rfl, (by rw [tx_len]; exact Nat.le_trans w12 (by decide)), ?_⟩
              rw [tx_len]
              refine ⟨m / 65536, w.length, rfl, rfl, w1, ((m / 65536 % w.length : Nat) : Int), rfl, tx w, rfl, (by rw [tx_len]; exact Nat.le_trans w12 (by decide)), ?_⟩
              rw [cut_to (Nat.le_of_lt (Nat.mod_lt _ w1))]
              have h12 : (List.take (m / 65536 % w.length) w).length ≤ 12 := by
                rw [List.length_take]
                omega
              generalize List.take (m / 65536 % w.length) w = b9 at h12 ⊢
              refine ⟨tx (bs ++ b7), tx b9, rfl, rfl, cat (by rw [List.length_append]; omega), ?_⟩
              rw [tx_cat]
              refine ⟨_, rfl, _, rfl, Nat.le_of_lt (by show 2 < sizeLine; decide), fun r hr => ?_⟩
              refine q _ r _ _ (s3.new hr) upd_same ?_ h3 ?_
              · rw [List.length_append, List.length_append]
                omega
              · rw [List.length_append, List.length_append]
                omega
            · refine ⟨_, rfl, _, rfl, Nat.le_of_lt (by show 2 < sizeLine; decide), fun r hr => ?_⟩
              refine q _ r _ _ (s3.new hr) upd_same ?_ h3 ?_
              · rw [List.length_append]
                omega
              · rw [List.length_append]
                omega
end
end Bale
set_option Elab.async false
set_option linter.all false
set_option maxRecDepth 100000
set_option maxHeartbeats 4000000
/-! The law's row of bytes. -/
namespace Bale
open PySem PySem.Spec PyProof.Rows L2
abbrev sRowL : Stmt := top 52
theorem cut_mid {bs : List Bool} {t s : Nat} (h : t ≤ bs.length) : cutS (tx bs) (some (t : Int)) (some ((t + s : Nat) : Int)) = tx ((bs.drop t).take s) := by
  unfold cutS
  rw [HT.sIx_nat, HT.sIx_nat, tx_len, Nat.min_eq_left h]
  have e : (tx bs).cps.toList = bs.map ch := rfl
  rw [e, ← List.map_drop, ← List.map_take]
  have e2 : List.take (min (t + s) bs.length - t) (bs.drop t) = List.take s (bs.drop t) := by
    rw [List.take_eq_take_iff, List.length_drop]
    omega
  rw [e2]
  rfl
theorem tx1 (b : Bool) : decide (V.str (tS [ch b]) = V.str "1") = b := by
  cases b
  · refine decide_eq_false fun h => ?_
    have e : (("1" : Str)) = tS [49] := by decide +kernel
    have h := V.str.inj h
    rw [e] at h
    exact absurd (tS_inj h) (by decide)
  · refine decide_eq_true ?_
    have e : (("1" : Str)) = tS [49] := by decide +kernel
    rw [e]
    rfl
def spRowL : Sp := fun vs H Q _ => ∃ bs : List Bool, vs = [.str (tx bs)] ∧ bs.length ≤ 1000 ∧
  ∀ (H' : Hp) (p : Addr) (bytes : List Nat), Same H H' → H p = none → H' p = some (.lst (bytes.map nV)) → (∀ x ∈ bytes, x < 256) → bs.length ≤ 8 * bytes.length → bytes.length ≤ bs.length + 1 → bytesBits bytes = bs ++ List.replicate (8 * bytes.length - bs.length) false → Q (.ref p) H'
section
variable {P : Program} {w : World} {K : PySem.W.Frag} {mg : Str → Option Value} {base : Heap}
abbrev nmRow : List Str := ["_law_bits_here", "_law_row_here", "_law_at", "_law_size", "_law_number", "_law_bit"]
theorem scRowL : FnScope nmRow ["_law_bits_here"] (defScope sRowL) := ⟨rfl, rfl, rfl, by decide +kernel, rfl, by decide +kernel, by decide +kernel⟩
theorem ok_rowL {f : Addr} {fd : FuncData} (F : FnP K "_law_row" "_law_row" sRowL f fd) (T : Tx mg) (B : BWT K) (cI : Mak P w K mg base 1 "BitRow" (cBW K) (spBWi K)) (cP : Met P w K mg base 3 (cBW K) "put" (spPut K)) (cR : Met P w K mg base 1 (cBW K) "row" (spRow K)) :
    FnOk P w K mg base CX0 4 f fd ["_law_bits_here"] spRowL := by
  refine fnp_ok F scRowL (fun vs H Q E h => ?_) (fun cdv A outer s H vs Q E hr h => ?_)
  · obtain ⟨bs, rfl, _⟩ := h
    rfl
  · obtain ⟨bs, rfl, hlen, q⟩ := h
    refine ⟨_, pss_cons (ps_set (i := 1) scRowL.nd rfl (.inl rfl) (pe_new0 cI hr (by decide) (by rfl)))
      (pss_cons (ps_set (i := 2) scRowL.nd rfl (.inl rfl) (pe_n 0))
      (pss_cons (ps_while PassesOwn.never (pt_cmpR n_lt (pv 2) (pe_callB call_len_str (by rfl) T.len boot_len (pa_cons (pv 0) pa_nil)) (nomark _))
        (pss_cons (ps_set (i := 3) scRowL.nd rfl (.inl rfl) (pe_op n_add (pe_n 1) (pe_op n_mod (pv 2) (pe_n 3))))
        (pss_cons (ps_set (i := 4) scRowL.nd rfl (.inl rfl) (pe_n 0))
        (pss_cons (ps_for PassesOwn.never rfl (pi_str (pe_slice sl_str (pv 0) (po_some (pv 2)) (po_some (pe_op n_add (pv 2) (pv 3))))) (pg_name (i := 5) scRowL.nd rfl (.inl rfl))
          (pss_one (ps_set (i := 4) scRowL.nd rfl (.inl rfl) (pe_op op_add (pe_op n_mul (pe_n 2) (pv 4)) (pe_callTy call_int1 (by rfl) T.int boot_int (pa_cons (pe_cmpR op_eq (pv 5) pe_str (nomark _)) pa_nil))))))
        (pss_cons (ps_expr (pe_m cP hr (by decide) (pv 1) (pa_cons (pv 4) (pa_cons (pe_callB call_len_str (by rfl) T.len boot_len (pa_cons (pe_slice sl_str (pv 0) (po_some (pv 2)) (po_some (pe_op n_add (pv 2) (pv 3)))) pa_nil)) pa_nil))))
        (pss_one (ps_set (i := 2) scRowL.nd rfl (.inl rfl) (pe_op n_add (pv 2) (pv 3)))))))))
      (pss_one (ps_ret (pe_m0 cR hr (by decide) (pv 1)))))), ?_⟩
    intro b dx hb hdx hne
    refine ⟨H, b, dx, rfl, ((Same.refl H).new hdx).new (by rw [upd_ne hne.symm]; exact hb), hb, upd_same, fun H1 hW => ⟨rfl, ?_⟩⟩
    have hsz : (tx bs).length ≤ sizeLine := by
      rw [tx_len]
      exact Nat.le_trans hlen (by decide)
    refine while_by (fun σ H' => ∃ (t : Nat) (v3 v4 v5 : Option V), σ = [some (.str (tx bs)), some (.ref b), some (nV t), v3, v4, v5] ∧ BWAt K H H' b (bs.take t))
      (fun σ H' => match σ with | [_, _, some (.int t), _, _, _] => bs.length - t.toNat | _ => 0)
      ⟨0, none, none, none, rfl, hW⟩ ?_ ?_
    · rintro σ H' ⟨t, v3, v4, v5, rfl, hB⟩
      refine ⟨_, rfl, _, rfl, tx bs, rfl, hsz, ?_⟩
      rw [tx_len]
      refine ⟨t, bs.length, rfl, rfl, _, rfl, ?_⟩
      refine ite2 (fun c => ?_) (fun c => ?_)
      · have hlt : t < bs.length := of_decide_eq_true c
        refine ⟨_, rfl, t, 3, rfl, rfl, (by show (0 : Nat) < 3; decide), 1, t % 3, rfl, rfl, ?_⟩
        have hs0 : 0 < 1 + t % 3 := by omega
        have hs3 : 1 + t % 3 ≤ 3 := by
          have := Nat.mod_lt t (show 0 < 3 by decide)
          omega
        have hwl : ((bs.drop t).take (1 + t % 3)).length ≤ 3 := by
          rw [List.length_take]
          omega
        have hwp : 0 < ((bs.drop t).take (1 + t % 3)).length := by
          rw [List.length_take, List.length_drop]
          omega
        have ets : bs.take (t + (1 + t % 3)) = bs.take t ++ (bs.drop t).take (1 + t % 3) := List.take_add
        refine ⟨_, rfl, _, rfl, (t : Int), rfl, _, rfl, _, rfl, t, 1 + t % 3, rfl, rfl, ((t + (1 + t % 3) : Nat) : Int), rfl, tx bs, rfl, hsz, ?_⟩
        rw [cut_mid (Nat.le_of_lt hlt)]
        have hcut := cut_mid (bs := bs) (t := t) (s := 1 + t % 3) (Nat.le_of_lt hlt)
        generalize (bs.drop t).take (1 + t % 3) = w1 at hwl hwp ets hcut ⊢
        refine ⟨tx w1, rfl, for_it walk_str (fun i σ H2 => ∃ v5 : Option V, σ = [some (.str (tx bs)), some (.ref b), some (nV t), some (nV (1 + t % 3)), some (nV (val (w1.take i))), v5] ∧ H2 = H')
          ⟨v5, rfl, rfl⟩ (fun _ _ _ _ _ => trivial) ?_ ?_⟩
        · rintro i x σ H2 H3 hi ⟨v5, rfl, rfl⟩ ⟨rfl, c, hc, rfl⟩
          have hi : i < w1.length := by
            have : (tx w1).length = w1.length := tx_len _
            exact Nat.lt_of_lt_of_eq hi this
          have hb : w1[i]? = some w1[i] := List.getElem?_eq_getElem hi
          generalize w1[i] = bt at hb
          have ec : c = ch bt := by
            have : (w1.map ch)[i]? = some c := by
              rw [← hc]
              exact (List.getElem?_toArray ..).symm
            rw [List.getElem?_map, hb] at this
            exact (Option.some.inj this).symm
          subst ec
          refine ⟨_, rfl, 2, val (w1.take i), rfl, rfl, .inl (by decide), _, rfl, rfl, .inr ⟨_, rfl, ?_⟩⟩
          have e1 : decide (V.str ⟨#[ch bt]⟩ = V.str "1") = bt := tx1 bt
          rw [e1]
          refine ⟨_, _, rfl, rfl, ?_⟩
          have e2 : V.int (((2 * val (w1.take i) : Nat) : Int) + (if bt = true then 1 else 0)) = nV (val (w1.take (i + 1))) := by
            rw [take_more hb, val_snoc]
            cases bt
            · exact congrArg V.int (by rw [if_neg Bool.false_ne_true, Bool.toNat_false]; omega)
            · exact congrArg V.int (by rw [if_pos rfl, Bool.toNat_true]; omega)
          exact ⟨_, congrArg (fun v => [some (V.str (tx bs)), some (V.ref b), some (nV t), some (nV (1 + t % 3)), some v, some (V.str ⟨#[ch bt]⟩)]) e2, rfl⟩
        · rintro σ H2 ⟨v5, rfl, rfl⟩
          have esz : (tx w1).cps.size = w1.length := tx_len _
          rw [esz, List.take_length]
          obtain ⟨dx', l, full, part, filled, hI, h8, ebs⟩ := id hB
          refine ⟨_, rfl, b, dx', _, rfl, hI.2.2.2.1, bw_no _ _ _ (by decide +kernel) (by decide +kernel) (by decide +kernel), ?_⟩
          refine ⟨_, rfl, _, rfl, _, rfl, (t : Int), rfl, _, rfl, _, rfl, t, 1 + t % 3, rfl, rfl, ((t + (1 + t % 3) : Nat) : Int), rfl, tx bs, rfl, hsz, ?_⟩
          rw [hcut]
          refine ⟨tx w1, rfl, (by rw [tx_len]; exact Nat.le_trans hwl (by decide)), ?_⟩
          rw [tx_len]
          refine ⟨H, b, bs.take t, val w1, w1.length, rfl, hB, val_lt w1, by omega, (by rw [List.length_take]; omega), fun H3 hB3 => ?_⟩
          rw [bitsOf_val, ← ets] at hB3
          refine ⟨_, rfl, _, rfl, t, 1 + t % 3, rfl, rfl, ⟨_, _, _, _, rfl, hB3⟩, ?_⟩
          show bs.length - ((t + (1 + t % 3) : Nat) : Int).toNat < bs.length - ((t : Nat) : Int).toNat
          rw [Int.toNat_natCast, Int.toNat_natCast]
          omega
      · have hge : bs.length ≤ t := Nat.le_of_not_lt fun q => c (decide_eq_true q)
        rw [List.take_of_length_le hge] at hB
        obtain ⟨dx', l, full, part, filled, hI, h8, ebs⟩ := id hB
        refine ⟨_, rfl, b, dx', _, rfl, hI.2.2.2.1, bw_no _ _ _ (by decide +kernel) (by decide +kernel) (by decide +kernel), H, b, bs, rfl, hB, by omega, q⟩
    · rintro σ H' Q1 Q2 hQ ⟨x, hx, y, hy, z, e1, e2, i, j, e3, e4, k', e5, q⟩
      exact ⟨x, hx, y, hy, z, e1, e2, i, j, e3, e4, k', e5, hQ _ _ q⟩
end
end Bale
set_option Elab.async false
set_option linter.all false
set_option maxRecDepth 100000
set_option maxHeartbeats 4000000
/-! Lengths are looked at. -/
namespace Bale
open PySem PySem.Spec PyProof.Rows L2
abbrev sNeedLens : Stmt := top 26
def spNeedLens : Sp := fun vs H Q _ => ∃ (a : Addr) (ls : List Nat), vs = [.ref a] ∧ H a = some (.lst (ls.map nV)) ∧ Lens ls ∧ Q .non H
section
variable {P : Program} {w : World} {K : PySem.W.Frag} {mg : Str → Option Value} {base : Heap}
theorem scNeedLens : FnScope ["lengths", "room", "length"] ["lengths"] (defScope sNeedLens) := ⟨rfl, rfl, rfl, by decide +kernel, rfl, by decide +kernel, by decide +kernel⟩
theorem ok_needlens {f : Addr} {fd : FuncData} (F : FnP K "need_lengths" "need_lengths" sNeedLens f fd) (T : Tx mg) (cB : Cal P w K mg base 1 "is_between" spBetween) : FnOk P w K mg base CX0 2 f fd ["lengths"] spNeedLens := by
  obtain ⟨t1, hT⟩ := T.things
  obtain ⟨t2, hL⟩ := T.length
  refine fnp_ok F scNeedLens (fun vs H Q E h => ?_) (fun cdv A outer s H vs Q E hr h => ?_)
  · obtain ⟨a, ls, rfl, _⟩ := h
    rfl
  · obtain ⟨a, ls, rfl, ha, L, q⟩ := h
    refine ⟨_, pss_cons (ps_if (PW.pt (pw_or (pt_not (pt_val (pe_callB call_isi (by rfl) T.isi boot_isinstance (pa_cons (pv 0) (pa_cons (pe_bltn (v := .ty "list") (by rfl) T.list boot_list rfl) pa_nil))))) (pw_or1 (pt_not (pt_chain op_le op_le pe_int (pe_callB call_len_seq (by rfl) T.len boot_len (pa_cons (pv 0) pa_nil)) (pe_gi (by rfl) hT)))))) pss_never pss_nil)
      (pss_cons (ps_set (i := 1) scNeedLens.nd rfl (.inl rfl) (pe_n 0))
      (pss_cons (ps_for PassesOwn.never rfl (pi_list (pv 0)) (pg_name (i := 2) scNeedLens.nd rfl (.inl rfl))
        (pss_cons (ps_if (pt_not (pt_val (pe_f cB hr (by decide) (by rfl) (pa_cons (pv 2) (pa_cons (pe_n 0) (pa_cons (pe_gi (by rfl) hL) pa_nil)))))) pss_never pss_nil)
        (pss_one (ps_if (pt_cmpR n_gt (pv 2) (pe_n 0) (nomark _)) (pss_one (ps_aug (i := 1) scNeedLens.nd rfl (.inl rfl) (pe_op n_sh1 (pe_n 1) (pe_op n_sub (pe_gn (n := 12) (by rfl) hL) (pv 2))) a_add)) pss_nil))))
      (pss_one (ps_if (pt_not (pt_chain n_lt n_le (pe_n 0) (pv 1) (pe_op n_sh1 (pe_n 1) (pe_gn (n := 12) (by rfl) hL)))) pss_never pss_nil)))), ?_⟩
    have hlen : ((ls.map nV).length : Int) = (ls.length : Int) := by rw [List.length_map]
    have h0 := L.n0
    have h300 := L.n300
    refine ⟨_, rfl, _, _, _, _, true, rfl, .ty _, .base (.lst ha), kit_ty (by decide +kernel), true, rfl, iteF ?_⟩
    refine ⟨_, rfl, a, _, rfl, .inl (SqL.of ha), ?_⟩
    rw [List.length_map]
    refine ⟨_, _, rfl, rfl, true, congrArg V.bl (decide_eq_true (by omega)), iteT ⟨_, _, rfl, rfl, true, congrArg V.bl (decide_eq_true (by omega)), iteF ?_⟩⟩
    refine ⟨_, rfl, a, rfl, ⟨_, SqL.of ha⟩, for_list (K := K) (a := a) (xs := ls.map nV) (fun i σ H' => ∃ v2 : Option V, σ = [some (.ref a), some (nV (kraft (ls.take i))), v2] ∧ H' = H)
      ⟨none, rfl, rfl⟩ (fun i σ H' _ ⟨_, _, e⟩ => e ▸ SqL.of ha) ?_ ?_⟩
    · rintro i y σ H' hi ⟨v2, rfl, rfl⟩
      obtain ⟨l, hl, rfl⟩ := getElem_map_some hi
      have hl12 : l ≤ 12 := L.le l (List.mem_of_getElem? hl)
      have ek : kraft (ls.take (i + 1)) = kraft (ls.take i) + wt l := by
        rw [take_more hl]
        unfold kraft
        rw [List.map_append, List.sum_append, List.map_singleton, List.sum_singleton]
      refine ⟨_, rfl, (l : Int), 0, 12, rfl, by omega, by omega, true, rfl, iteF ?_⟩
      refine ⟨_, rfl, l, 0, rfl, rfl, _, rfl, ?_⟩
      refine ite2 (fun c => ?_) (fun c => ?_)
      · have c0 : 0 < l := of_decide_eq_true c
        have ew : wt l = 2 ^ (12 - l) := if_neg (Nat.ne_of_gt c0)
        refine ⟨_, rfl, _, rfl, 12, l, rfl, rfl, hl12, 12 - l, rfl, rfl, by omega, kraft (ls.take i), 2 ^ (12 - l), rfl, rfl, ?_⟩
        rw [ew] at ek
        exact ⟨_, congrArg (fun n => [some (V.ref a), some (nV n), some (nV l)]) ek.symm, rfl⟩
      · have c0 : l = 0 := Nat.eq_zero_of_not_pos fun q => c (decide_eq_true q)
        subst c0
        have ew : wt 0 = 0 := rfl
        rw [ew, Nat.add_zero] at ek
        show ∃ v2 : Option V, _
        rw [ek]
        exact ⟨_, rfl, rfl⟩
    · rintro σ H' ⟨v2, rfl, rfl⟩
      rw [List.length_map, List.take_length]
      obtain ⟨l, hm, h0⟩ := L.some
      have hk := kraft_pos hm h0
      have hk2 := L.k
      refine ⟨_, rfl, 0, kraft ls, rfl, rfl, true, congrArg V.bl (decide_eq_true hk), iteT ⟨12, rfl, rfl, by decide, kraft ls, 2 ^ 12, rfl, rfl, true, congrArg V.bl (decide_eq_true hk2), iteF q⟩⟩
end
end Bale
set_option Elab.async false
set_option linter.all false
set_option maxRecDepth 100000
set_option maxHeartbeats 4000000
/-! Places in the order of a list: sorted(range(n), key=lambda at: xs[at]). -/
namespace Bale
open PySem PySem.Spec PyProof.Rows L2
section
open PySem.W PySem.Calls
variable {prog : Program} {w : World} {A : Around} {E : Value → Shared → Prop} {s : Shared}
theorem each_range' {R : Value → Nat → Prop} : ∀ (us : List Value) (f : Nat → Nat), (∀ j v, us[j]? = some v → R v (f j)) → EachIs R us ((List.range us.length).map f)
  | [], _, _ => .nil
  | u :: r, f, h => by
    rw [List.length_cons, List.range_succ_eq_map, List.map_cons, List.map_map]
    exact .cons (h 0 u rfl) (each_range' r (f ∘ Nat.succ) fun j v e => h (j + 1) v e)
theorem each_range {R : Value → Nat → Prop} (us : List Value) (h : ∀ j v, us[j]? = some v → R v j) : EachIs R us (List.range us.length) := by
  have := each_range' us (fun j => j) h
  rwa [List.map_id'] at this
theorem sorted_rangeKey {r q : Addr} {n : Nat} {t u v : Tok} {k : Nat → Nat} {Q : Value → Shared → Prop} (hh : A.handled = none) (hr : IsRange s.heap r 0 (n : Int) 1 t u v) (hn : n ≤ 300) (hu : A.units + 64 < cLine)
    (turn : ∀ (p : Nat) (t0 : Tok), p < n → ∀ (h : Heap) (tk : Nat), (∀ b o, s.heap.get? b = some o → h.get? b = some o) →
      wpAny (model prog w) A.in1.in1 (call (.ref q) [.int (p : Int) t0]) (KeyPure (.int (k p : Int)) { s with heap := h, toks := tk }) (fun _ _ => False) { s with heap := h, toks := tk })
    (h : ∀ (h1 : Heap) (out : List Value) (c : Nat) (h' : Heap) (tk : Nat), (∀ b o, s.heap.get? b = some o → h1.get? b = some o) → (∀ b o, h1.get? b = some o → h'.get? b = some o) → h'.get? h1.objs.size = some (seqObj "list" (List.toArray out) c) →
      EachIs (fun v (p : Nat) => ∃ t, v = .int (p : Int) t) out ((List.range n).mergeSort fun a b => decide (k a ≤ k b)) → Q (.ref h1.objs.size) { s with heap := h', toks := tk }) :
    wpAny (model prog w) A (call (.builtin "sorted") [.ref r] [(Str.ofString "key", .ref q)]) Q E s := by
  refine call_function_entry_kw kind_sorted plain_sorted entry_sorted (ksk_s1 _ _) ?_
  unfold Builtin.«sorted»
  refine wpAny_bind (m := checkCount "sorted" 1 1 _) (wpAny_pure ?_)
  refine wpAny_bind (L2.collect_range (A := A.in1) hh hr (small_one (by decide) (by decide) (by omega) (by omega)) (by rw [rangeSize_one]; split <;> omega) (by omega : n ≤ 2 ^ 24) fun h1 tk1 acc k1 hi => ?_)
  obtain ⟨hsz, hit⟩ := hi
  have hL : acc.toList.length ≤ sizeLine := by
    rw [Array.length_toList, hsz]
    exact Nat.le_trans hn (by decide)
  refine wpAny_bind (wpAny_newList ?_ hL)
  have hobj : (h1.push (seqObj "list" (List.toArray acc.toList) 0)).get? h1.objs.size = some (seqObj "list" (List.toArray acc.toList) 0) := Heap.get?_push_size _ rfl
  have k2 : ∀ b o, s.heap.get? b = some o → (h1.push (seqObj "list" (List.toArray acc.toList) 0)).get? b = some o := fun b o e => Heap.get?_push_of_some _ (k1 b o e)
  refine wpAny_bind (wpAny_holding (wpAny_call_entry_kw slot_list_sort ⟨_, hobj, rfl⟩ entry_list_sort ?body (ksk_l1 _ _)))
  case body =>
    show wpAny (model prog w) A.in1.in1 (Builtin.«list.sort» ⟨[.ref h1.objs.size], [(Str.ofString "key", .ref q)]⟩) _ _ _
    rw [ksk_t1]
    have eE : EachIs (fun v (p : Nat) => ∃ t, v = .int (p : Int) t) acc.toList (List.range n) := by
      have hl2 : acc.toList.length = n := by rw [Array.length_toList, hsz]
      rw [← hl2]
      refine each_range acc.toList fun j v hj => ?_
      obtain ⟨t, rfl⟩ := hit j v (by rw [← hj, Array.getElem?_toList])
      exact ⟨t, by rw [Int.mul_one, Int.zero_add]⟩
    have up1 : ∀ {g : Heap}, KeepsBut h1.objs.size (h1.push (seqObj "list" (List.toArray acc.toList) 0)) g → ∀ b o, h1.get? b = some o → g.get? b = some o := fun {g} kp b o e =>
      kp b o (Nat.ne_of_lt (Heap.lt_size e)) (Heap.get?_push_of_some _ e)
    have up : ∀ {g : Heap}, KeepsBut h1.objs.size (h1.push (seqObj "list" (List.toArray acc.toList) 0)) g → ∀ b o, s.heap.get? b = some o → g.get? b = some o := fun {g} kp b o e => up1 kp b o (k1 b o e)
    have hal : AllAlike ((List.range n).map fun p => PyData.int (k p : Int)) := by
      intro d hd d' hd'
      obtain ⟨_, _, rfl⟩ := List.mem_map.mp hd
      obtain ⟨_, _, rfl⟩ := List.mem_map.mp hd'
      rfl
    have hso : Sortable ((List.range n).map fun p => PyData.int (k p : Int)) := .inr fun d hd => by
      obtain ⟨_, _, rfl⟩ := List.mem_map.mp hd
      exact ⟨fun e => (nomatch e), fun xs e => (nomatch e)⟩
    have ell : ((List.range n).map fun p => PyData.int (k p : Int)).length = acc.toList.length := by
      rw [List.length_map, List.length_range, Array.length_toList, hsz]
    refine keyH_tree (kz := (List.range n).map fun p => PyData.int (k p : Int)) (s := { s with heap := h1.push (seqObj "list" (List.toArray acc.toList) 0), toks := tk1 }) hobj ell hL hal hso (fun d hd => ?_)
      (keyH_turns (s := { s with heap := h1.push (seqObj "list" (List.toArray acc.toList) 0), toks := tk1 }) (k := fun p => PyData.int (k p : Int)) eE fun v p hv hp g tk kp => ?_) fun h' tk out c kp hD ko => ⟨_, rfl, wpAny_pure ⟨_, rfl, ?_⟩⟩
    · obtain ⟨_, _, rfl⟩ := List.mem_map.mp hd
      show A.units + 1 + 1 + 0 < cLine
      omega
    · obtain ⟨t0, rfl⟩ := hv
      exact turn p t0 (List.mem_range.mp hp) g tk (up kp)
    · have eo := keyedOut_each (fun p => PyData.int (k p : Int)) ko eE
      rw [dataLe_int (fun p => (k p : Int))] at eo
      have e2 : (fun a b : Nat => decide ((k a : Int) ≤ (k b : Int))) = fun a b => decide (k a ≤ k b) := by
        funext a b
        exact decide_eq_decide.mpr Int.ofNat_le
      rw [e2] at eo
      exact h _ out c h' tk k1 (up1 kp) hD eo
/-- lengths[at], the list's cell in the lambda's closure -/
theorem key_call {q c0 a c' : Addr} {qual : Str} {params : Arguments} {scope : Scope} {cl : List (Str × Addr)} {pm ctv : Value} {p1 p2 p3 : Pos} {items : List Value} {i : Nat} {l : Int} {t0 t1 : Tok} {h : Heap} {tk : Nat}
    (hd : A.depth < recursionLimit) (hq : h.get? q = some (kla_obj "<lambda>" qual params (.Subscript (.Name "lengths" p1) (.Name "at" p2) p3) scope cl pm c' ctv)) (hcr : h.CodeRec (.ref c') qual) (hnl : h.NoLimit)
    (hco : scope.isCoroutine = false) (hge : scope.isGenerator = false) (hk : scope.kind = .function) (hnc : ∀ y ∈ scope.names, y.2 ≠ .cell) (hat : scope.names.lookup (("at" : Str)) = some .local) (hle : scope.names.lookup (("lengths" : Str)) = some .free)
    (hbind : ∀ (v : Value) (pm cv ctv : Value), bindArgs (kla_fn "<lambda>" qual params (.Subscript (.Name "lengths" p1) (.Name "at" p2) p3) scope cl pm cv ctv) ⟨[v], []⟩ = pure [((("at" : Str)), v)])
    (hc : cl.lookup (("lengths" : Str)) = some c0) (hcell : h.IsCell c0 (some (.ref a))) (hl : h.IsList a items.toArray) (hi : items[i]? = some (.int l t1)) (hfit : i < 2 ^ 63) :
    wpAny (model prog w) A (call (.ref q) [.int (i : Int) t0]) (KeyPure (.int l) { s with heap := h, toks := tk }) (fun _ _ => False) { s with heap := h, toks := tk } := by
  have rc : codeAny (model prog w) A (.call (.ref q) ⟨[.int (i : Int) t0], []⟩) (fun r s' => ∃ u, r = .ok (.ret u) ∧ KeyPure (.int l) { s with heap := h, toks := tk } u s') { s with heap := h, toks := tk } := by
    refine kla_callFunE hd hq rfl hco hge rfl hcr ?_
    rw [hbind]
    refine wpAny_pure (wpAny_newFunctionEnv hnc (fun y hy => ?_) (fun h₁ hns hsb => ⟨hnl.fresh _ hsb, ?_⟩) hk)
    · rw [List.mem_singleton.mp hy]
      exact hat
    · have kp : ∀ b o, h.get? b = some o → h₁.get? b = some o := fun b o e => hsb.extBut b o (Nat.ne_of_lt (Heap.lt_size e)) (Heap.get?_push_of_some _ e)
      refine kla_codeExpr ?_
      refine Subscript_ (wpAny_Name (wpAny_loadName_free hk hle hc (v := .ref a) ?_ (wpAny_Name (wpAny_loadName_local hk hat hns (v := .int (i : Int) t0) rfl (item_listR (items := items.toArray) (k := (i : Int)) (x := .int l t1) ?_ (by omega) (by omega) ?_ ⟨_, rfl, h₁, _, rfl, kp, .int l t1⟩ rfl)) (by decide)) (by decide)) (by decide))
      · obtain ⟨o, ho, hd⟩ := hcell
        exact ⟨o, kp _ _ ho, hd⟩
      · obtain ⟨o, ho, h2⟩ := hl
        exact ⟨o, kp _ _ ho, h2⟩
      · rw [Int.toNat_natCast]
        simpa using hi
  refine wpAny_call (codeAny_mono rc fun r s' hr => ?_)
  obtain ⟨u, rfl, hu⟩ := hr
  exact hu
end
end Bale
set_option Elab.async false
set_option linter.all false
set_option maxRecDepth 100000
set_option maxHeartbeats 4000000
/-! sorted(range(n), key=lambda at: lengths[at]) as a reading. -/
namespace Bale
open PySem PySem.Spec PyProof.Rows L2
def order (ls : List Nat) : List Nat := (List.range ls.length).mergeSort fun a b => decide (lenAt ls a ≤ lenAt ls b)
theorem order_sorted (ls : List Nat) : Sorted ls (order ls) := by
  have tr : ∀ a b c : Nat, decide (lenAt ls a ≤ lenAt ls b) = true → decide (lenAt ls b ≤ lenAt ls c) = true → decide (lenAt ls a ≤ lenAt ls c) = true := fun a b c h1 h2 => by
    rw [decide_eq_true_eq] at h1 h2 ⊢
    omega
  have tot : ∀ a b : Nat, (decide (lenAt ls a ≤ lenAt ls b) || decide (lenAt ls b ≤ lenAt ls a)) = true := fun a b => by
    rw [Bool.or_eq_true, decide_eq_true_eq, decide_eq_true_eq]
    omega
  refine sorted_of ?_ (List.mergeSort_perm _ _) fun T hT hs => List.sublist_mergeSort tr tot ?_ hs
  · exact (List.pairwise_mergeSort tr tot _).imp fun h => of_decide_eq_true h
  · exact hT.imp fun h => decide_eq_true h
theorem lenAt_get' {ls : List Nat} {p : Nat} (h : p < ls.length) : ls[p]? = some (lenAt ls p) := by
  rw [List.getElem?_eq_getElem h]
  show _ = some (ls.getD p 0)
  rw [List.getD_eq_getElem?_getD, List.getElem?_eq_getElem h]
  rfl
theorem cr_range1 {X : Cx} : CallR X (.type "range") (fun vs H Q => ∃ i, vs = [V.int i] ∧ ∀ p, H p = none → Q (.ref p) (upd H p (.rng 0 i))) := by
  intro pins s σ H vs us Q I r h
  obtain ⟨i, rfl, q⟩ := h
  obtain ⟨u1, rfl, ri⟩ := vals1 r
  obtain ⟨t, rfl⟩ := ri
  refine call_range_1 ⟨.ref s.heap.objs.size, upd H s.heap.objs.size (.rng 0 i), I.laid (t' := s.toks + 1 + 1) (fun b o e => Heap.get?_push_of_some _ e) (Nat.le_refl _) ?_, rfl, q _ (I.hok.fresh (Nat.le_refl _))⟩
  exact ⟨_, _, _, Heap.get?_push_size _ rfl⟩
theorem vals_each : ∀ {out : List Value} {ps : List Nat}, PySem.W.EachIs (fun v (p : Nat) => ∃ t, v = .int (p : Int) t) out ps → Vals (ps.map nV) out
  | _, _, .nil => .nil
  | _, _, .cons h r => .cons h (vals_each r)
def tSortK (T : List (Addr × Str)) (t : TA) (j : Nat) : TE := fun σ H Q => t σ H fun vs H1 => ∃ (r a : Addr) (ls : List Nat), vs = [.ref r] ∧ H1 r = some (.rng 0 (ls.length : Int)) ∧ σ[j]? = some (some (.ref a)) ∧ H1 a = some (.lst (ls.map nV)) ∧ ls.length ≤ 300 ∧ LamX.Tabs T H1 ∧
  ∀ H2 p, LamX.ExtN H1 H2 → LamX.Tabs T H2 → H2 p = none → Q (.ref p) (upd H2 p (.lst ((order ls).map nV)))
section
variable {X : Cx}
theorem pe_sortKey {T : List (Addr × Str)} {c P : Addr} {e : Expr} {te : TE} {j k : Nat} {params : Arguments} {scope : Scope} {p p1 p2 p3 lpos kpos pos : Pos} (hr : Room k X.A) (he : PE X e te)
    (TB : LamX.TabB X.base X.mg c P) (hcode : X.env.code = .ref c) (hmT : (P, X.env.qual ++ "<lambda>") ∈ T) (huT : ∀ p ∈ T, p.1 = P → p.2 = X.env.qual ++ "<lambda>")
    (hN : X.N[j]? = some (("lengths" : Str))) (hcl : X.env.scope.names.lookup (("lengths" : Str)) = some .cell)
    (hco : scope.isCoroutine = false) (hge : scope.isGenerator = false) (hk : scope.kind = .function) (hnc : ∀ y ∈ scope.names, y.2 ≠ .cell) (hat : scope.names.lookup (("at" : Str)) = some .local) (hle : scope.names.lookup (("lengths" : Str)) = some .free)
    (hfr : ∀ y ∈ scope.names, y.2 = .free → y.1 = ("lengths" : Str)) (hdef : defaultsOf params X.env = ([], []))
    (hbind : ∀ (q : Str) (cl : List (Str × Addr)) (v : Value) (pm cv ctv : Value), bindArgs (PySem.W.kla_fn "<lambda>" q params (.Subscript (.Name "lengths" p1) (.Name "at" p2) p3) scope cl pm cv ctv) ⟨[v], []⟩ = pure [((("at" : Str)), v)])
    (hg : Gl X "sorted") (hm : X.mg "sorted" = none)
    (hes : starEach [e] X.env = (false, eval e X.env) :: starEach [] X.env := by rfl)
    (hb : backTo pos (starEach [e] X.env) = (false, eval e X.env) :: backTo pos (starEach [] X.env) := by rfl) (hpl : (backTo pos (starEach [e] X.env)).any (·.1) = false := by rfl) :
    PE X (.Call (.Name "sorted" p) [e] [⟨some "key", .Lambda params (.Subscript (.Name "lengths" p1) (.Name "at" p2) p3) scope lpos, kpos⟩] pos) (tSortK T (tCons te tNil) j) := by
  refine ⟨fun pins s σ H Q I h => ?_⟩
  refine wpAny_Call_Name_kw (ld_blt I hg hm boot_sorted ?_)
  refine PyProof.Rows.callWith_kw (thn ((pa_cons he pa_nil hes).run pos pins s σ H _ I h) fun us s1 ⟨vs, H1, I1, r1, q1⟩ => ?_) hb hpl rfl rfl
  obtain ⟨r, a, ls, rfl, hrg, hσ, ha, h300, hT, q⟩ := q1
  obtain rfl := Vals.ref1 r1
  show wpAny _ _ (evalAll ((do let v ← eval (.Lambda params (.Subscript (.Name "lengths" p1) (.Name "at" p2) p3) scope lpos) X.env; standAt pos; pure v) :: [])) _ _ s1
  have hfree : ∀ y ∈ scope.names, y.2 = .free → ∃ c, X.env.cells.lookup y.1 = some c := fun y hy e => by
    rw [hfr y hy e]
    exact I1.ok.has _ (.inl hcl)
  refine wpAny_evalAll_cons (wpAny_bind (LamX.lam_make2 I1 TB hcode hmT huT hT hdef hfree fun f c' pm ctv H2 s2 I2 eN T2 hf hfn hfs hc' => wpAny_bind (wpAny_standAt (wpAny_pure (wpAny_evalAll_nil ?_)))))
  show wpAny (model X.prog X.w) X.A (call (.builtin "sorted") [.ref r] [(Str.ofString "key", .ref f)]) _ _ s2
  have ha2 : H2 a = some (.lst (ls.map nV)) := eN _ _ ha (fun ps z => by cases z)
  have hr2 : H2 r = some (.rng 0 (ls.length : Int)) := eN _ _ hrg (fun ps z => by cases z)
  obtain ⟨t, u, v, hrange⟩ := I2.hok r _ hr2
  obtain ⟨its, rv, pl, hz⟩ := I2.list (SqL.of ha2)
  obtain ⟨⟨oc, cvs, ct, hoc, hdc, hvc⟩, _, _⟩ := I2.hok c' _ hc'
  -- the list's cell
  obtain ⟨c0, hc0, hcell⟩ : ∃ c0, X.env.cells.lookup (("lengths" : Str)) = some c0 ∧ s2.heap.IsCell c0 (some (.ref a)) := by
    obtain ⟨m, hn, hl⟩ := I2.loc
    obtain ⟨w', r', l⟩ := hl j "lengths" (.ref a) hN hσ (.inr (.inl hcl))
    cases r'
    rcases l with ⟨hk', _⟩ | ⟨_, c0, e1, e2⟩
    · have hk' : X.env.scope.names.lookup (("lengths" : Str)) = some .local := hk'
      rw [hcl] at hk'
      cases hk'
    · exact ⟨c0, e1, e2⟩
  have hcl0 : (cloFrom X.env.cells scope.names []).lookup (("lengths" : Str)) = some c0 := by
    obtain ⟨c1, h1⟩ := mem_lookup (cloFrom_has (cells := X.env.cells) (acc := []) (PySem.mem_of_lookup hle))
    rcases cloFrom_mem (PySem.mem_of_lookup h1) with hm | ⟨_, h2⟩
    · cases hm
    · rw [h1, h2, hc0]
      rfl
  refine sorted_rangeKey (n := ls.length) (k := lenAt ls) hr.hd hrange h300 hr.units (fun p t0 hp h tk kp => ?_) fun h1 out c h' tk k1 k2 hD eo => ?_
  · obtain ⟨w', ew, rw'⟩ := rv.get (i := p) (x := nV (lenAt ls p)) (by rw [List.getElem?_map, lenAt_get' hp]; rfl)
    obtain ⟨t1, rfl⟩ := rw'
    refine key_call (c0 := c0) (a := a) (c' := c') (items := its) (t1 := t1) (s := s2) hr.depth (kp _ _ hf) ⟨c', oc, cvs, ct, rfl, kp _ _ hoc, hdc, hvc⟩ (I2.nolimit.keeps kp) hco hge hk hnc hat hle (hbind _ _) hcl0 ?_ ?_ ew (Nat.lt_of_lt_of_le hp (Nat.le_trans h300 (by decide)))
    · obtain ⟨o, ho, hd⟩ := hcell
      exact ⟨o, kp _ _ ho, hd⟩
    · obtain ⟨o, ho, h2⟩ := pl.isList
      exact ⟨o, kp _ _ ho, h2⟩
  · have I3 : Inv X pins σ H2 { s2 with heap := h1, toks := tk } := I2.kept k1
    have hl : ((order ls).map nV).length ≤ sizeLine := by
      rw [List.length_map, (order_sorted ls).perm.length_eq, List.length_range]
      exact Nat.le_trans h300 (by decide)
    exact ⟨.ref h1.objs.size, upd H2 h1.objs.size (.lst ((order ls).map nV)), I3.laid (t' := tk) k2 (Nat.le_refl _) ⟨hl, out, c, vals_each eo, hD⟩, rfl, q H2 _ eN T2 (I3.hok.fresh (Nat.le_refl _))⟩
end
end Bale
set_option Elab.async false
set_option linter.all false
set_option maxRecDepth 100000
set_option maxHeartbeats 4000000
/-! The program's codes. -/
namespace Bale
open PySem PySem.Spec PyProof.Rows L2
abbrev sCodesOf : Stmt := top 27
/-- from a def whose code object is known -/
theorem fnp_okC {P : Program} {w : World} {K : PySem.W.Frag} {mg : Str → Option Value} {base : Heap} {x q : Str} {st : Stmt} {p : He.Defn} {fd : FuncData} {N ps : List Str} {k : Nat} {sp : Sp} (F : FnP K x q st (He.fAd K p) fd) (S : FnScope N ps (defScope st)) (len : ∀ vs H Q E, sp vs H Q E → vs.length = ps.length)
    (hb : ∀ (A : Around) (outer : List Env) (s : Shared) (H : Hp) (vs : List V) (Q : VK) (E : XK), Room k (A.deeper (envOfC q (defScope st) s.heap.objs.size (He.fAd K p) (.ref (He.codeOf K p)))) → sp vs H Q E →
      ∃ t, PSs (cxOf CX0 P w K mg base N q (defScope st) (He.fAd K p) (.ref (He.codeOf K p)) A outer s H E).nox (defBody st) t ∧ t { nx := fun _ H' => Q .non H', rt := Q } (start N vs) H) : FnOk P w K mg base CX0 (k + 1) (He.fAd K p) fd ps sp := by
  obtain ⟨oc, od, dV, kV, doc, pm, an, cdv, ct, osl, rfl, lk, hcd, _, _⟩ := F.ex
  obtain ⟨c, rfl⟩ := He.codeIn_ref hcd
  have ec : He.codeOf K p = c := He.codeOf_eq lk rfl
  refine fn_of lk hcd S len fun A outer s H vs Q E hr hsp => ?_
  rw [ec] at hb
  obtain ⟨t, h1, h2⟩ := hb A outer s H vs Q E hr hsp
  exact ⟨t, h1.nox, h2⟩
/-- the def with the lambda: its code object and its table -/
abbrev dC : He.Defn := ("codes_of", none)
abbrev tP (K : PySem.W.Frag) : Addr := (He.cT K dC).2
abbrev qL : Str := (("codes_of" : Str) ++ ".<locals>.") ++ "<lambda>"
abbrev tT (K : PySem.W.Frag) : List (Addr × Str) := [(tP K, qL)]
theorem tab_put {T : List (Addr × Str)} {H : Hp} {d : Addr} {vs : List V} {o : HO} (t : LamX.Tabs T H) (hd : H d = some (.lst vs)) : LamX.Tabs T (upd H d o) := fun p hp => by
  obtain ⟨ps, h1, h2, h3⟩ := t p hp
  refine ⟨ps, (upd_ne fun e => ?_).trans h1, h2, fun pos cv hc => ?_⟩
  · rw [e, hd] at h1
    cases h1
  · obtain ⟨c, e1, e2⟩ := h3 pos cv hc
    refine ⟨c, e1, (upd_ne fun e => ?_).trans e2⟩
    rw [e, hd] at e2
    cases e2
theorem tab_same {T : List (Addr × Str)} {H H' : Hp} (t : LamX.Tabs T H) (s : Same H H') : LamX.Tabs T H' := t.ext s
theorem ext_put {H0 H : Hp} {d : Addr} {o : HO} (e : LamX.ExtN H0 H) (hd : H0 d = none) : LamX.ExtN H0 (upd H d o) := fun b u h n => by
  rw [upd_ne (ne_of_none h hd)]
  exact e _ _ h n
theorem ext_same {H0 H H' : Hp} (e : LamX.ExtN H0 H) (s : Same H H') : LamX.ExtN H0 H' := fun b u h n => s _ _ (e _ _ h n)
def spCodesOf (K : PySem.W.Frag) : Sp := fun vs H Q _ => ∃ (a : Addr) (ls : List Nat), vs = [.ref a] ∧ H a = some (.lst (ls.map nV)) ∧ Lens ls ∧ LamX.Tabs (tT K) H ∧
  ∀ (H' : Hp) (p : Addr), LamX.ExtN H H' → LamX.Tabs (tT K) H' → H p = none → FoundAt H' p (canon ls) → Q (.ref p) H'
section
variable {P : Program} {w : World} {K : PySem.W.Frag} {mg : Str → Option Value} {base : Heap}
theorem scCodesOf : FnScope ["lengths", "found", "code", "last", "place", "length"] ["lengths"] (defScope sCodesOf) := ⟨rfl, rfl, rfl, by decide +kernel, rfl, by decide +kernel, by decide +kernel⟩
theorem ok_codesof {fd : FuncData} (F : FnP K "codes_of" "codes_of" sCodesOf (He.fAd K dC) fd) (T : Tx mg) (TB : LamX.TabB base mg (He.codeOf K dC) (tP K)) (cN : Cal P w K mg base 2 "need_lengths" spNeedLens) : FnOk P w K mg base CX0 3 (He.fAd K dC) fd ["lengths"] (spCodesOf K) := by
  refine fnp_okC F scCodesOf (fun vs H Q E h => ?_) (fun A outer s H vs Q E hr h => ?_)
  · obtain ⟨a, ls, rfl, _⟩ := h
    rfl
  · obtain ⟨a, ls, rfl, ha, L, hT, q⟩ := h
    refine ⟨_, pss_cons (ps_expr (pe_f cN hr (by decide) (by rfl) (pa_cons (pv 0) pa_nil)))
      (pss_cons (ps_set (i := 1) scCodesOf.nd rfl (.inl rfl) (pe_op op_rep (pe_lst (pa_cons pe_non pa_nil)) (pe_callB n_len (by rfl) T.len boot_len (pa_cons (pv 0) pa_nil))))
      (pss_cons (ps_set (i := 2) scCodesOf.nd rfl (.inl rfl) (pe_n 0))
      (pss_cons (ps_set (i := 3) scCodesOf.nd rfl (.inl rfl) (pe_n 0))
      (pss_cons (ps_for PassesOwn.never rfl (pi_list (pe_sortKey (T := tT K) (j := 0) hr (pe_callTy cr_range1 (by rfl) T.range boot_range (pa_cons (pe_callB n_len (by rfl) T.len boot_len (pa_cons (pv 0) pa_nil)) pa_nil)) TB rfl (List.mem_singleton.mpr rfl) (fun p hp _ => by rw [List.mem_singleton.mp hp]; rfl) rfl rfl
            rfl rfl rfl (by decide +kernel) rfl rfl (by decide +kernel) rfl (fun _ _ _ _ _ _ => rfl) rfl T.sorted)) (pg_name (i := 4) scCodesOf.nd rfl (.inl rfl))
        (pss_cons (ps_set (i := 5) scCodesOf.nd rfl (.inl rfl) (pe_ix n_ix (pv 0) (pv 4) (fun _ _ => rfl)))
        (pss_one (ps_if (pt_cmpR n_gt (pv 5) (pe_n 0) (nomark _))
          (pss_cons (ps_set (i := 2) scCodesOf.nd rfl (.inl rfl) (pe_op n_shl (pv 2) (pe_op n_sub (pv 5) (pv 3))))
          (pss_cons (ps_asg (pe_tup (pa_cons (pv 2) (pa_cons (pv 5) pa_nil))) (pg_sub (pv 1) (pv 4) n_set))
          (pss_cons (ps_aug (i := 2) scCodesOf.nd rfl (.inl rfl) (pe_n 1) a_add)
          (pss_one (ps_set (i := 3) scCodesOf.nd rfl (.inl rfl) (pv 5)))))) pss_nil))))
      (pss_one (ps_ret (pv 1))))))), ?_⟩
    have sorted := order_sorted ls
    have h300 := L.n300
    refine ⟨_, rfl, a, ls, rfl, ha, L, ?_⟩
    refine ⟨(by show 1 ≤ sizeLine; decide), fun m hm => ?_⟩
    have s1 : Same H (upd H m (.lst [.non])) := (Same.refl H).new hm
    refine ⟨_, rfl, a, ls, rfl, SqL.of (s1 _ _ ha), m, (ls.length : Int), _, rfl, rfl, upd_same, by omega, by omega, (by show 1 * ((ls.length : Int)).toNat ≤ sizeLine; rw [Int.toNat_natCast, Nat.one_mul]; exact Nat.le_trans L.n300 (by decide)), fun d hd => ?_⟩
    have el : (List.replicate ((ls.length : Int)).toNat [V.non]).flatten = List.replicate ls.length V.non := by
      rw [Int.toNat_natCast]
      exact flat_rep _ _
    have hd0 : H d = Option.none := by
      by_cases e : d = m
      · rw [e, upd_same] at hd
        cases hd
      · rw [upd_ne e] at hd
        exact hd
    have s2 := s1.new (o := .lst (List.replicate ((ls.length : Int)).toNat [V.non]).flatten) hd
    have hd2 : upd (upd H m (.lst [.non])) d (.lst (List.replicate ((ls.length : Int)).toNat [V.non]).flatten) d = some (.lst (List.replicate ls.length V.non)) := upd_same.trans (congrArg (fun l => some (HO.lst l)) el)
    generalize upd (upd H m (.lst [.non])) d (.lst (List.replicate ((ls.length : Int)).toNat [V.non]).flatten) = H2 at s2 hd2 ⊢
    have ha2 : H2 a = some (.lst (ls.map nV)) := s2 _ _ ha
    refine ⟨_, rfl, a, ls, rfl, SqL.of ha2, (ls.length : Int), rfl, fun r hr0 => ?_⟩
    have s3 : Same H2 (upd H2 r (.rng 0 (ls.length : Int))) := (Same.refl H2).new hr0
    refine ⟨r, a, ls, rfl, upd_same, rfl, s3 _ _ ha2, L.n300, tab_same hT (s2.trans s3), fun H4 p eN T4 hp0 => ?_⟩
    have e04 : LamX.ExtN H H4 := fun b o h n => eN _ _ (s3 _ _ (s2 _ _ h)) n
    have ha4 : H4 a = some (.lst (ls.map nV)) := e04 _ _ ha (fun ps z => by cases z)
    have hd4 : H4 d = some (.lst (List.replicate ls.length V.non)) := eN _ _ (s3 _ _ hd2) (fun ps z => by cases z)
    have ndp : d ≠ p := ne_of_none hd4 hp0
    have nap : a ≠ p := ne_of_none ha4 hp0
    have nad : a ≠ d := ne_of_none ha hd0
    have s5 : Same H4 (upd H4 p (.lst ((order ls).map nV))) := (Same.refl H4).new hp0
    refine ⟨p, rfl, ⟨_, SqL.of upd_same⟩, for_list (K := K) (a := p) (xs := (order ls).map nV) (fun i σ H' => ∃ v4 v5 : Option V, σ = [some (.ref a), some (.ref d), some (nV (((order ls).take i).foldl (stepA ls) (empt ls, 0, 0)).2.1), some (nV (((order ls).take i).foldl (stepA ls) (empt ls, 0, 0)).2.2), v4, v5] ∧
        H' a = some (.lst (ls.map nV)) ∧ H' p = some (.lst ((order ls).map nV)) ∧ LamX.ExtN H H' ∧ LamX.Tabs (tT K) H' ∧ FoundAt H' d (((order ls).take i).foldl (stepA ls) (empt ls, 0, 0)).1)
      ⟨none, none, rfl, (upd_ne nap).trans ha4, upd_same, ext_same e04 s5, tab_same T4 s5, _, (upd_ne ndp).trans hd4, CellsAre.empt _ _⟩ (fun i σ H' _ ⟨_, _, _, _, h, _⟩ => SqL.of h) ?_ ?_⟩
    · rintro i y σ H' hi ⟨v4, v5, rfl, ha', hp', eN', T', vs, hd', hC⟩
      obtain ⟨pl, hpl, rfl⟩ := getElem_map_some hi
      obtain ⟨hlen, hc, hz, hlt, estep⟩ := step_ok sorted L.le L.k hpl
      rw [estep]
      generalize ((order ls).take i).foldl (stepA ls) (empt ls, 0, 0) = st at hlen hc hz hC ⊢
      obtain ⟨fs, c, z⟩ := st
      refine ⟨_, rfl, _, rfl, a, _, pl, nV (lenAt ls pl), rfl, rfl, SqL.of ha', (by rw [List.getElem?_map, lenAt_get hlt]; rfl), _, rfl, lenAt ls pl, 0, rfl, rfl, _, rfl, ?_⟩
      refine ite2 (fun cc => ?_) (fun cc => ?_)
      · have c1 : 0 < lenAt ls pl := of_decide_eq_true cc
        have e2 : stepA ls (fs, c, z) pl = (fs.set pl (some (c * 2 ^ (lenAt ls pl - z), lenAt ls pl)), c * 2 ^ (lenAt ls pl - z) + 1, lenAt ls pl) := if_neg (Nat.ne_of_gt c1)
        have l12 : lenAt ls pl ≤ 12 := L.le _ (List.mem_of_getElem? (lenAt_get hlt))
        have hc : c ≤ 4096 := hc
        refine ⟨_, rfl, _, rfl, _, rfl, lenAt ls pl, z, rfl, rfl, hz, c, lenAt ls pl - z, rfl, rfl, ⟨by omega, by omega⟩, ?_⟩
        refine ⟨_, rfl, _, rfl, (by show 2 ≤ sizeLine; decide), fun t ht => ?_⟩
        have ndt : d ≠ t := ne_of_none hd' ht
        have npt : p ≠ t := ne_of_none hp' ht
        have nat' : a ≠ t := ne_of_none ha' ht
        have hd3 : upd H' t (.tup [nV (c * 2 ^ (lenAt ls pl - z)), nV (lenAt ls pl)]) d = some (.lst vs) := (upd_ne ndt).trans hd'
        refine ⟨_, rfl, _, rfl, d, vs, pl, rfl, rfl, hd3, (by rw [hC.len]; exact Nat.lt_of_lt_of_eq hlt hlen.symm), ?_⟩
        refine ⟨_, rfl, c * 2 ^ (lenAt ls pl - z), 1, rfl, rfl, _, rfl, ?_⟩
        have sn : Same H' (upd H' t (.tup [nV (c * 2 ^ (lenAt ls pl - z)), nV (lenAt ls pl)])) := (Same.refl H').new ht
        rw [e2]
        refine ⟨_, _, rfl, (upd_ne nad).trans ((upd_ne nat').trans ha'), (upd_ne ndp.symm).trans ((upd_ne npt).trans hp'), ext_put (ext_same eN' sn) hd0, tab_put (tab_same T' sn) hd3, _, upd_same, ?_⟩
        exact CellsAre.mono (CellsAre.set (hC.mono (tup_same sn)) pl (t := t) (x := (c * 2 ^ (lenAt ls pl - z), lenAt ls pl)) upd_same) (tup_put (lst_ntup hd3))
      · have c1 : lenAt ls pl = 0 := Nat.eq_zero_of_not_pos fun q => cc (decide_eq_true q)
        have e2 : stepA ls (fs, c, z) pl = (fs, c, z) := if_pos c1
        show ∃ v4 v5 : Option V, _
        rw [e2]
        exact ⟨_, _, rfl, ha', hp', eN', T', vs, hd', hC⟩
    · rintro σ H' ⟨v4, v5, rfl, ha', hp', eN', T', hF⟩
      rw [List.length_map, List.take_length] at hF
      have e : ((order ls).foldl (stepA ls) (empt ls, 0, 0)).1 = canon ls := runA_eq sorted L.le
      rw [e] at hF
      exact ⟨_, rfl, q _ d eN' T' hd0 hF⟩
end
end Bale
set_option Elab.async false
set_option linter.all false
set_option maxRecDepth 100000
set_option maxHeartbeats 4000000
/-! A reader of codes is made. -/
namespace Bale
open PySem PySem.Spec PyProof.Rows L2
abbrev sCRi : Stmt := inClass (top 28) 0
structure CRT (K : PySem.W.Frag) : Prop where
  cl : Cls K (cCR K)
  n1 : NoAttr K (cCR K) "known"
  n2 : NoAttr K (cCR K) "begun"
def crF (a b : Addr) : List (Str × V) := [("known", .ref a), ("begun", .ref b)]
theorem cr_known (a b : Addr) : (crF a b).lookup ("known" : Str) = some (.ref a) := lk1
theorem cr_begun (a b : Addr) : (crF a b).lookup ("begun" : Str) = some (.ref b) := (lk2 (by decide +kernel)).trans lk1
theorem cr_no (a b : Addr) {m : Str} (h1 : (m == ("known" : Str)) = false) (h2 : (m == ("begun" : Str)) = false) : (crF a b).lookup m = none := (lk2 h1).trans ((lk2 h2).trans rfl)
theorem cr_new (a b : Addr) : putF "begun" (.ref b) (putF "known" (.ref a) []) = crF a b := (pt2 (by decide +kernel)).trans rfl
/-! ### what stands in the dicts -/
def kK (l c : Nat) : List Key := [.inl (l : Int), .inl (c : Int)]
theorem kK_eq {l c l' c' : Nat} : kK l c = kK l' c' ↔ l = l' ∧ c = c' := by
  constructor
  · intro h
    injection h with h1 h2
    injection h2 with h2 _
    have h1 := Sum.inl.inj h1
    have h2 := Sum.inl.inj h2
    omega
  · rintro ⟨rfl, rfl⟩
    rfl
def plc (fs : Codes) (c l : Nat) : Option Nat := fs.findIdx? fun o => o == some (c, l)
def Known (kvs : List (List Key × V)) (fs : Codes) : Prop := ∀ l c : Nat, valV kvs (kK l c) = (plc fs c l).map nV
def BegP (fs : Codes) (s v : Nat) : Prop := ∃ p c l : Nat, fs[p]? = some (some (c, l)) ∧ 1 ≤ s ∧ s < l ∧ v = c / 2 ^ (l - s)
def Begun (kvs : List (List Key × V)) (R : Nat → Nat → Prop) : Prop := ∀ s v : Nat, (valV kvs (kK s v)).isSome = true ↔ R s v
theorem known_nil : Known [] [] := fun _ _ => rfl
theorem begun_nil : Begun [] (BegP []) := fun s v => by
  constructor
  · intro h
    cases h
  · rintro ⟨p, c, l, e, _⟩
    rw [List.getElem?_nil] at e
    cases e
theorem Begun.congr {kvs : List (List Key × V)} {R R' : Nat → Nat → Prop} (b : Begun kvs R) (h : ∀ s v, R s v ↔ R' s v) : Begun kvs R' := fun s v => (b s v).trans (h s v)
theorem Begun.put {kvs : List (List Key × V)} {R : Nat → Nat → Prop} {s0 v0 : Nat} {y : V} (b : Begun kvs R) : Begun (putK kvs (kK s0 v0) y) (fun s v => R s v ∨ (s = s0 ∧ v = v0)) := fun s v => by
  rw [valV_put]
  by_cases e : kK s v = kK s0 v0
  · rw [if_pos e]
    exact ⟨fun _ => .inr (kK_eq.mp e), fun _ => rfl⟩
  · rw [if_neg e, b s v]
    exact ⟨.inl, fun h => h.elim id fun q => absurd (kK_eq.mpr q) e⟩
theorem putL_len (kvs : List (List Key × V)) (k : List Key) (v : V) : (putK kvs k v).length ≤ kvs.length + 1 := by
  unfold putK
  split
  · rw [List.length_map]
    exact Nat.le_succ _
  · rw [List.length_append]
    exact Nat.le_refl _
theorem Known.skip {kvs : List (List Key × V)} {fs : Codes} (k : Known kvs fs) : Known kvs (fs ++ [none]) := fun l c => by
  rw [k l c]
  unfold plc
  rw [List.findIdx?_append]
  have : ([none] : Codes).findIdx? (fun o => o == some (c, l)) = none := rfl
  rw [this]
  cases fs.findIdx? (fun o => o == some (c, l)) <;> rfl
theorem Known.put {kvs : List (List Key × V)} {fs : Codes} {l0 c0 : Nat} (k : Known kvs fs) (hn : plc fs c0 l0 = none) : Known (putK kvs (kK l0 c0) (nV fs.length)) (fs ++ [some (c0, l0)]) := fun l c => by
  rw [valV_put]
  unfold plc at hn ⊢
  rw [List.findIdx?_append]
  by_cases e : kK l c = kK l0 c0
  · rw [if_pos e]
    obtain ⟨rfl, rfl⟩ := kK_eq.mp e
    rw [hn]
    have : ([some (c, l)] : Codes).findIdx? (fun o => o == some (c, l)) = some 0 := by
      rw [List.findIdx?_cons, beq_self_eq_true]
      rfl
    rw [this]
    show _ = some (nV (0 + fs.length))
    rw [Nat.zero_add]
  · rw [if_neg e, k l c]
    have hne : ¬ (l0 = l ∧ c0 = c) := fun q => e (kK_eq.mpr ⟨q.1.symm, q.2.symm⟩)
    have : ([some (c0, l0)] : Codes).findIdx? (fun o => o == some (c, l)) = Option.none := by
      rw [List.findIdx?_eq_none_iff]
      intro o ho
      rw [List.mem_singleton.mp ho, beq_eq_false_iff_ne]
      intro q
      have q := Option.some.inj q
      injection q with q1 q2
      exact hne ⟨q2, q1⟩
    rw [this]
    unfold plc
    cases fs.findIdx? (fun o => o == some (c, l)) <;> rfl
theorem begP_none {fs : Codes} (s v : Nat) : BegP fs s v ↔ BegP (fs ++ [none]) s v := by
  constructor
  · rintro ⟨p, c, l, e, h⟩
    exact ⟨p, c, l, by rw [List.getElem?_append_left (List.getElem?_eq_some_iff.mp e).1]; exact e, h⟩
  · rintro ⟨p, c, l, e, h⟩
    refine ⟨p, c, l, ?_, h⟩
    by_cases hp : p < fs.length
    · rwa [List.getElem?_append_left hp] at e
    · rw [List.getElem?_append_right (Nat.le_of_not_lt hp), List.getElem?_singleton] at e
      split at e
      · cases Option.some.inj e
      · cases e
theorem begP_some {fs : Codes} {c0 l0 : Nat} (s v : Nat) : (BegP fs s v ∨ (1 ≤ s ∧ s < l0 ∧ v = c0 / 2 ^ (l0 - s))) ↔ BegP (fs ++ [some (c0, l0)]) s v := by
  constructor
  · rintro (⟨p, c, l, e, h⟩ | h)
    · exact ⟨p, c, l, by rw [List.getElem?_append_left (List.getElem?_eq_some_iff.mp e).1]; exact e, h⟩
    · exact ⟨fs.length, c0, l0, by rw [List.getElem?_append_right (Nat.le_refl _), Nat.sub_self]; rfl, h⟩
  · rintro ⟨p, c, l, e, h⟩
    by_cases hp : p < fs.length
    · rw [List.getElem?_append_left hp] at e
      exact .inl ⟨p, c, l, e, h⟩
    · rw [List.getElem?_append_right (Nat.le_of_not_lt hp), List.getElem?_singleton] at e
      split at e
      · have e := Option.some.inj (Option.some.inj e)
        injection e with e1 e2
        subst e1 e2
        exact .inr h
      · cases e
theorem at_none {fs : Codes} (u : Uniq fs) {n c l : Nat} (h : fs[n]? = some (some (c, l))) : plc (fs.take n) c l = none := by
  unfold plc
  rw [List.findIdx?_eq_none_iff]
  intro o ho
  obtain ⟨p, hp, e⟩ := List.mem_iff_getElem.mp ho
  rw [beq_eq_false_iff_ne]
  intro q
  rw [List.length_take] at hp
  have hp2 : p < fs.length := by omega
  rw [List.getElem_take] at e
  have : fs[p]? = some (some (c, l)) := by rw [List.getElem?_eq_getElem hp2, e, q]
  have := u p n _ this h
  omega
/-! ### the object -/
/-- all but one object and the tables stand as they stood -/
def ExtK (r : Addr) (H H' : Hp) : Prop := ∀ b o, H b = some o → b ≠ r → (∀ ps, o ≠ .tbl ps) → H' b = some o
theorem ExtK.of {r : Addr} {H H' : Hp} (e : LamX.ExtN H H') : ExtK r H H' := fun b o h _ n => e b o h n
theorem ExtK.refl (r : Addr) (H : Hp) : ExtK r H H := fun _ _ h _ _ => h
theorem ExtK.put {r : Addr} {H0 H : Hp} {o : HO} (e : ExtK r H0 H) : ExtK r H0 (upd H r o) := fun b u h n t => by
  rw [upd_ne n]
  exact e b u h n t
theorem ExtK.own {r d : Addr} {H0 H : Hp} {o : HO} (e : ExtK r H0 H) (hd : H0 d = none) : ExtK r H0 (upd H d o) := fun b u h n t => by
  rw [upd_ne (ne_of_none h hd)]
  exact e b u h n t
theorem ExtK.same {r : Addr} {H0 H H' : Hp} (e : ExtK r H0 H) (s : Same H H') : ExtK r H0 H' := fun b u h n t => s _ _ (e b u h n t)
theorem ExtK.ext {r : Addr} {H0 H H' : Hp} (e : ExtK r H0 H) (s : LamX.ExtN H H') : ExtK r H0 H' := fun b u h n t => s _ _ (e b u h n t) t
theorem tab_up {T : List (Addr × Str)} {H : Hp} {d : Addr} {u o : HO} (t : LamX.Tabs T H) (hd : H d = some u) (h1 : ∀ ps, u ≠ .tbl ps) (h2 : ∀ φ, u ≠ .ext φ) : LamX.Tabs T (upd H d o) := fun p hp => by
  obtain ⟨ps, q1, q2, q3⟩ := t p hp
  refine ⟨ps, (upd_ne fun e => ?_).trans q1, q2, fun pos cv hc => ?_⟩
  · rw [e, hd] at q1
    exact h1 ps (Option.some.inj q1)
  · obtain ⟨c, e1, e2⟩ := q3 pos cv hc
    refine ⟨c, e1, (upd_ne fun e => ?_).trans e2⟩
    rw [e, hd] at e2
    exact h2 _ (Option.some.inj e2)
def CRIn (K : PySem.W.Frag) (H : Hp) (r dk db : Addr) (fs : Codes) (B : Nat → Nat → Prop) (n m : Nat) : Prop :=
  (∃ dx, H r = some (.ins (cCR K) dx (crF dk db))) ∧ (∃ kvs, H dk = some (.dT kvs) ∧ Known kvs fs ∧ kvs.length ≤ n) ∧ ∃ kvs, H db = some (.dT kvs) ∧ Begun kvs B ∧ kvs.length ≤ m
/-- a reader of the codes fs at r -/
def CRAt (K : PySem.W.Frag) (H : Hp) (r : Addr) (fs : Codes) : Prop := ∃ dk db n m, CRIn K H r dk db fs (BegP fs) n m
def spCRi (K : PySem.W.Frag) : Sp := fun vs H Q _ => ∃ (p dx a : Addr) (ls : List Nat), vs = [.ref p, .ref a] ∧ H p = some (.ins (cCR K) dx []) ∧ H a = some (.lst (ls.map nV)) ∧ Lens ls ∧ Good ls (canon ls) ∧ LamX.Tabs (tT K) H ∧
  ∀ H' : Hp, CRAt K H' p (canon ls) → ExtK p H H' → LamX.Tabs (tT K) H' → Q .non H'
section
variable {P : Program} {w : World} {K : PySem.W.Frag} {mg : Str → Option Value} {base : Heap}
theorem scCRi : FnScope ["self", "lengths", "place", "told", "code", "length", "size"] ["self", "lengths"] (defScope sCRi) := ⟨rfl, rfl, rfl, by decide +kernel, rfl, by decide +kernel, by decide +kernel⟩
theorem ok_cri {f : Addr} {fd : FuncData} (F : FnP K "__init__" "CodeReader.__init__" sCRi f fd) (C : CRT K) (T : Tx mg) (cC : Cal P w K mg base 3 "codes_of" (spCodesOf K)) : FnOk P w K mg base CX0 4 f fd ["self", "lengths"] (spCRi K) := by
  refine fnp_ok F scCRi (fun vs H Q E h => ?_) (fun cdv A outer s H vs Q E hr h => ?_)
  · obtain ⟨p, dx, a, ls, rfl, _⟩ := h
    rfl
  · obtain ⟨p, dx, a, ls, rfl, hp, ha, L, G, hT, q⟩ := h
    have hu : (A.deeper (envOfC "CodeReader.__init__" (defScope sCRi) s.heap.objs.size f cdv)).units + 1 < cLine := by
      have := hr.units
      omega
    refine ⟨_, pss_cons (ps_fld (pv 0) pe_dnewT rfl)
      (pss_cons (ps_fld (pv 0) pe_dnewT rfl)
      (pss_one (ps_for PassesOwn.never rfl (pi_enum (by rfl) T.enum (pa_cons (pe_f cC hr (by decide) (by rfl) (pa_cons (pv 1) pa_nil)) pa_nil)) (pg_tup rfl (pgs_cons (pg_name (i := 2) scCRi.nd rfl (.inl rfl)) (pgs_cons (pg_name (i := 3) scCRi.nd rfl (.inl rfl)) pgs_nil)))
        (pss_one (ps_if (pt_cmpR op_notN (pv 3) pe_non (nomark _))
          (pss_cons (ps_asg (pv 3) (pg_tup rfl (pgs_cons (pg_name (i := 4) scCRi.nd rfl (.inl rfl)) (pgs_cons (pg_name (i := 5) scCRi.nd rfl (.inl rfl)) pgs_nil))))
          (pss_cons (ps_dput hu (pe_fld (pv 0) rfl) (pe_tup (pa_cons (pv 5) (pa_cons (pv 4) pa_nil))) (pv 2) rfl)
          (pss_one (ps_for PassesOwn.never rfl (pi_range2 (by rfl) T.range (pa_cons pe_int (pa_cons (pv 5) pa_nil))) (pg_name (i := 6) scCRi.nd rfl (.inl rfl))
            (pss_one (ps_dput hu (pe_fld (pv 0) rfl) (pe_tup (pa_cons (pv 6) (pa_cons (pe_op n_shr (pv 4) (pe_op n_sub (pv 5) (pv 6))) pa_nil))) pe_bl rfl)))))) pss_nil))))), ?_⟩
    intro dk hdk
    have npk : p ≠ dk := ne_of_none hp hdk
    refine ⟨_, rfl, p, _, dx, [], rfl, (upd_ne npk).trans hp, C.cl, C.n1, (by show 0 < 1000; decide), ?_⟩
    intro db hdb
    have npb : p ≠ db := ne_of_none upd_same hdb
    have nkb : dk ≠ db := ne_of_none ((upd_ne npk.symm).trans upd_same) hdb
    have hdb0 : H db = Option.none := by
      rw [upd_ne npb.symm, upd_ne nkb.symm] at hdb
      exact hdb
    refine ⟨_, rfl, p, _, dx, _, rfl, (upd_ne npb).trans upd_same, C.cl, C.n2, (by show 1 < 1000; decide), ?_⟩
    have ep : upd (upd (upd (upd H dk (.dT [])) p (.ins (cCR K) dx (putF "known" (.ref dk) []))) db (.dT [])) p (.ins (cCR K) dx (putF "begun" (.ref db) (putF "known" (.ref dk) []))) p = some (.ins (cCR K) dx (crF dk db)) := Eq.trans upd_same (congrArg (fun q => some (HO.ins (cCR K) dx q)) (cr_new dk db))
    have ek : upd (upd (upd (upd H dk (.dT [])) p (.ins (cCR K) dx (putF "known" (.ref dk) []))) db (.dT [])) p (.ins (cCR K) dx (putF "begun" (.ref db) (putF "known" (.ref dk) []))) dk = some (.dT []) := (upd_ne npk.symm).trans ((upd_ne nkb).trans ((upd_ne npk.symm).trans upd_same))
    have eb : upd (upd (upd (upd H dk (.dT [])) p (.ins (cCR K) dx (putF "known" (.ref dk) []))) db (.dT [])) p (.ins (cCR K) dx (putF "begun" (.ref db) (putF "known" (.ref dk) []))) db = some (.dT []) := (upd_ne npb.symm).trans upd_same
    have eX : ExtK p H (upd (upd (upd (upd H dk (.dT [])) p (.ins (cCR K) dx (putF "known" (.ref dk) []))) db (.dT [])) p (.ins (cCR K) dx (putF "begun" (.ref db) (putF "known" (.ref dk) [])))) := ((((ExtK.refl p H).own hdk).put).own hdb0).put
    have eT : LamX.Tabs (tT K) (upd (upd (upd (upd H dk (.dT [])) p (.ins (cCR K) dx (putF "known" (.ref dk) []))) db (.dT [])) p (.ins (cCR K) dx (putF "begun" (.ref db) (putF "known" (.ref dk) [])))) :=
      tab_up (tab_same (tab_up (tab_same hT ((Same.refl H).new hdk)) ((upd_ne npk).trans hp) (fun ps z => by cases z) (fun φ z => by cases z)) ((Same.refl _).new hdb)) ((upd_ne npb).trans upd_same) (fun ps z => by cases z) (fun φ z => by cases z)
    generalize upd (upd (upd (upd H dk (.dT [])) p (.ins (cCR K) dx (putF "known" (.ref dk) []))) db (.dT [])) p (.ins (cCR K) dx (putF "begun" (.ref db) (putF "known" (.ref dk) []))) = H1 at ep ek eb eX eT ⊢
    have nap : a ≠ p := ne_of ha hp (by intro q; cases q)
    have ha1 : H1 a = some (.lst (ls.map nV)) := eX _ _ ha nap (fun ps z => by cases z)
    refine ⟨_, rfl, a, ls, rfl, ha1, L, eT, fun H2 l eN T2 hl0 ⟨vs, hl, hC⟩ => ?_⟩
    have hp2 : H2 p = some (.ins (cCR K) dx (crF dk db)) := eN _ _ ep (fun ps z => by cases z)
    have hk2 : H2 dk = some (.dT []) := eN _ _ ek (fun ps z => by cases z)
    have hb2 : H2 db = some (.dT []) := eN _ _ eb (fun ps z => by cases z)
    have glen : (canon ls).length = ls.length := G.len
    have h300 := L.n300
    refine ⟨l, vs, rfl, SqL.of hl, for_it walk_enum (fun i σ H' => ∃ v2 v3 v4 v5 v6 : Option V, σ = [some (.ref p), some (.ref a), v2, v3, v4, v5, v6] ∧ CRIn K H' p dk db ((canon ls).take i) (BegP ((canon ls).take i)) i (12 * i) ∧ H' l = some (.lst vs) ∧ CellsAre H' vs (canon ls) ∧ ExtK p H H' ∧ LamX.Tabs (tT K) H')
      ⟨none, none, none, none, none, rfl, ⟨⟨dx, hp2⟩, ⟨[], hk2, known_nil, Nat.le_refl _⟩, ⟨[], hb2, begun_nil, Nat.le_refl _⟩⟩, hl, hC, eX.ext eN, T2⟩ (fun i σ H' _ ⟨_, _, _, _, _, _, _, h, _⟩ => SqL.of h) ?_ ?_⟩
    · rintro i x σ H3 H4 hi ⟨v2, v3, v4, v5, v6, rfl, hI, hl3, hC3, hX3, hT3⟩ ⟨t, x1, x2, rfl, ht, rfl, e1, e2⟩
      have e1 : x1 = nV i := (Option.some.inj e1).symm
      subst e1
      have hlt : i < (canon ls).length := by rw [← hC.len]; exact hi
      obtain ⟨o, ho⟩ : ∃ o, (canon ls)[i]? = some o := ⟨_, List.getElem?_eq_getElem hlt⟩
      obtain ⟨v, hv, hc⟩ := hC3.at_ i o ho
      have ev : x2 = v := Option.some.inj (e2.symm.trans hv)
      subst ev
      obtain ⟨⟨dx3, hp3⟩, ⟨kv, hk3, hK3, hkn⟩, ⟨bv, hb3, hB3, hbn⟩⟩ := hI
      have sn : Same H3 (upd H3 t (.tup [nV i, x2])) := (Same.refl H3).new ht
      have hp4 := sn _ _ hp3
      have hk4 := sn _ _ hk3
      have hb4 := sn _ _ hb3
      have hl4 := sn _ _ hl3
      have hC4 := hC3.mono (tup_same sn)
      have hX4 := hX3.same sn
      have hT4 := tab_same hT3 sn
      have hc := hc.mono (tup_same sn)
      have htt : upd H3 t (.tup [nV i, x2]) t = some (.tup [nV i, x2]) := upd_same
      generalize upd H3 t (.tup [nV i, x2]) = H4 at hp4 hk4 hb4 hl4 hC4 hX4 hT4 htt hc ⊢
      have et : (canon ls).take (i + 1) = (canon ls).take i ++ [o] := take_more ho
      have etl : ((canon ls).take i).length = i := by
        rw [List.length_take]
        omega
      have hs4 : (4000 : Nat) < sizeLine := by decide
      have hs1 : kv.length < sizeLine := by omega
      refine ⟨t, _, rfl, SqT.of htt, rfl, _, _, rfl, _, _, rfl, rfl, ?_⟩
      cases o with
      | none =>
        have hc : x2 = V.non := hc
        subst hc
        refine ⟨_, rfl, rfl, _, rfl, ifN (c := V.non = V.non) rfl ?_⟩
        refine ⟨_, _, _, _, _, rfl, ⟨⟨dx3, hp4⟩, ⟨kv, hk4, ?_, Nat.le_succ_of_le hkn⟩, ⟨bv, hb4, ?_, by omega⟩⟩, hl4, hC4, hX4, hT4⟩
        · rw [et]
          exact hK3.skip
        · rw [et]
          exact hB3.congr begP_none
      | some x =>
        obtain ⟨c, n⟩ := x
        obtain ⟨tc, rfl, htc⟩ := hc
        have hG := (G.ent i c n ho).2
        refine ⟨_, rfl, rfl, _, rfl, ifNF (c := V.ref tc = V.non) (fun e => nomatch e) ?_⟩
        refine ⟨_, rfl, tc, _, rfl, SqT.of htc, rfl, _, _, rfl, _, _, rfl, rfl, ?_⟩
        refine ⟨_, rfl, _, rfl, p, _, dx3, _, _, rfl, hp4, C.cl, C.n1, cr_known _ _, _, rfl, _, rfl, (by show 2 ≤ sizeLine; decide), fun t2 ht2 => ?_⟩
        have s5 : Same H4 (upd H4 t2 (.tup [nV n, nV c])) := (Same.refl H4).new ht2
        have hk5 := s5 _ _ hk4
        refine ⟨dk, _, rfl, DPut.t (k := kK n c) hk5 upd_same hs1, ?_⟩
        have npk : p ≠ dk := ne_of hp4 hk4 (by intro q; cases q)
        have npb : p ≠ db := ne_of hp4 hb4 (by intro q; cases q)
        have nlk : l ≠ dk := ne_of hl4 hk4 (by intro q; cases q)
        have nlb : l ≠ db := ne_of hl4 hb4 (by intro q; cases q)
        have ndt : ∀ (kvs : List (List Key × V)) (xs : List V), HO.dT kvs ≠ .tup xs := fun _ _ q => by cases q
        have hp6 : upd (upd H4 t2 (.tup [nV n, nV c])) dk (.dT (putK kv (kK n c) (nV i))) p = some (.ins (cCR K) dx3 (crF dk db)) := (upd_ne npk).trans (s5 _ _ hp4)
        have hk6 : upd (upd H4 t2 (.tup [nV n, nV c])) dk (.dT (putK kv (kK n c) (nV i))) dk = some (.dT (putK kv (kK n c) (nV i))) := upd_same
        have hb6 : upd (upd H4 t2 (.tup [nV n, nV c])) dk (.dT (putK kv (kK n c) (nV i))) db = some (.dT bv) := (upd_ne nkb.symm).trans (s5 _ _ hb4)
        have hl6 : upd (upd H4 t2 (.tup [nV n, nV c])) dk (.dT (putK kv (kK n c) (nV i))) l = some (.lst vs) := (upd_ne nlk).trans (s5 _ _ hl4)
        have hC6 : CellsAre (upd (upd H4 t2 (.tup [nV n, nV c])) dk (.dT (putK kv (kK n c) (nV i)))) vs (canon ls) := (hC4.mono (tup_same s5)).mono (tup_put fun xs e => by
          rw [hk5] at e
          cases e)
        have hX6 : ExtK p H (upd (upd H4 t2 (.tup [nV n, nV c])) dk (.dT (putK kv (kK n c) (nV i)))) := (hX4.same s5).own hdk
        have hT6 : LamX.Tabs (tT K) (upd (upd H4 t2 (.tup [nV n, nV c])) dk (.dT (putK kv (kK n c) (nV i)))) := tab_up (tab_same hT4 s5) hk5 (fun ps z => by cases z) (fun φ z => by cases z)
        generalize upd (upd H4 t2 (.tup [nV n, nV c])) dk (.dT (putK kv (kK n c) (nV i))) = H6 at hp6 hk6 hb6 hl6 hC6 hX6 hT6 ⊢
        have hK6 : Known (putK kv (kK n c) (nV i)) ((canon ls).take (i + 1)) := by
          rw [et]
          have := hK3.put (l0 := n) (c0 := c) (at_none G.uniq ho)
          rwa [etl] at this
        have hkn6 : (putK kv (kK n c) (nV i)).length ≤ i + 1 := Nat.le_trans (putL_len _ _ _) (Nat.succ_le_succ hkn)
        generalize putK kv (kK n c) (nV i) = kv6 at hk6 hK6 hkn6
        refine ⟨_, rfl, 1, (n : Int), rfl, ⟨by decide, by decide, by omega, by omega⟩, for_range (lo := 1) (n := ((n : Int) - 1).toNat) (fun k σ H' => ∃ v6 : Option V, σ = [some (.ref p), some (.ref a), some (nV i), some (.ref tc), some (nV c), some (nV n), v6] ∧ H' p = some (.ins (cCR K) dx3 (crF dk db)) ∧ H' dk = some (.dT kv6) ∧
            (∃ bv, H' db = some (.dT bv) ∧ Begun bv (fun s v => BegP ((canon ls).take i) s v ∨ (1 ≤ s ∧ s ≤ k ∧ v = c / 2 ^ (n - s))) ∧ bv.length ≤ 12 * i + k) ∧ H' l = some (.lst vs) ∧ CellsAre H' vs (canon ls) ∧ ExtK p H H' ∧ LamX.Tabs (tT K) H')
          ⟨v6, rfl, hp6, hk6, ⟨bv, hb6, hB3.congr fun s v => ⟨.inl, fun h => h.elim id fun h => by omega⟩, hbn⟩, hl6, hC6, hX6, hT6⟩ ?_ ?_⟩
        · rintro k σ H7 hk ⟨v6, rfl, hp7, hk7, ⟨bv, hb7, hB7, hbn7⟩, hl7, hC7, hX7, hT7⟩
          have hkn : k + 1 < n := by omega
          have hs2 : bv.length < sizeLine := by omega
          have ek : V.int (1 + (k : Int)) = nV (k + 1) := congrArg V.int (by omega)
          rw [ek]
          refine ⟨_, rfl, p, _, dx3, _, _, rfl, hp7, C.cl, C.n2, cr_begun _ _, _, rfl, _, rfl, _, rfl, _, rfl, n, k + 1, rfl, rfl, Nat.le_of_lt hkn, c, n - (k + 1), rfl, rfl, (by show 2 ≤ sizeLine; decide), fun t3 ht3 => ?_⟩
          have s8 : Same H7 (upd H7 t3 (.tup [nV (k + 1), nV (c / 2 ^ (n - (k + 1)))])) := (Same.refl H7).new ht3
          have hb8 := s8 _ _ hb7
          refine ⟨db, _, rfl, DPut.t (k := kK (k + 1) (c / 2 ^ (n - (k + 1)))) hb8 upd_same hs2, ?_⟩
          refine ⟨_, rfl, (upd_ne npb).trans (s8 _ _ hp7), (upd_ne nkb).trans (s8 _ _ hk7), ⟨_, upd_same, hB7.put.congr fun s v => ?_, Nat.le_trans (putL_len _ _ _) (Nat.succ_le_succ hbn7)⟩, (upd_ne nlb).trans (s8 _ _ hl7), (hC7.mono (tup_same s8)).mono (tup_put fun xs e => by
            rw [hb8] at e
            cases e), (hX7.same s8).own hdb0, tab_up (tab_same hT7 s8) hb8 (fun ps z => by cases z) (fun φ z => by cases z)⟩
          constructor
          · rintro ((h | ⟨h1, h2, h3⟩) | ⟨rfl, rfl⟩)
            · exact .inl h
            · exact .inr ⟨h1, Nat.le_succ_of_le h2, h3⟩
            · exact .inr ⟨Nat.succ_pos k, Nat.le_refl _, rfl⟩
          · rintro (h | ⟨h1, h2, h3⟩)
            · exact .inl (.inl h)
            · rcases Nat.lt_or_eq_of_le h2 with h4 | h4
              · exact .inl (.inr ⟨h1, Nat.le_of_lt_succ h4, h3⟩)
              · subst h4
                exact .inr ⟨rfl, h3⟩
        · rintro σ H7 ⟨v6, rfl, hp7, hk7, ⟨bv, hb7, hB7, hbn7⟩, hl7, hC7, hX7, hT7⟩
          refine ⟨_, _, _, _, _, rfl, ⟨⟨dx3, hp7⟩, ⟨kv6, hk7, hK6, hkn6⟩, ⟨bv, hb7, ?_, by omega⟩⟩, hl7, hC7, hX7, hT7⟩
          rw [et]
          refine (hB7.congr fun s v => ?_).congr begP_some
          constructor
          · rintro (h | ⟨h1, h2, h3⟩)
            · exact .inl h
            · exact .inr ⟨h1, by omega, h3⟩
          · rintro (h | ⟨h1, h2, h3⟩)
            · exact .inl h
            · exact .inr ⟨h1, by omega, h3⟩
    · rintro σ H' ⟨v2, v3, v4, v5, v6, rfl, hI, hl3, hC3, hX3, hT3⟩
      rw [hC.len, List.take_length] at hI
      exact q _ ⟨dk, db, _, _, hI⟩ hX3 hT3
end
end Bale
set_option Elab.async false
set_option linter.all false
set_option maxRecDepth 100000
set_option maxHeartbeats 4000000
/-! A def that is called in an except suite, with the error that stands there. -/
namespace Bale
open PySem PySem.Spec PyProof.Rows L2
/-- the promise: P1 the error and its object -/
structure FnW (P : Program) (w : World) (K : PySem.W.Frag) (mg : Str → Option Value) (base : Heap) (k : Nat) (f : Addr) (fd : FuncData) (ps : List Str) (sp : Addr × Obj → Sp) : Prop where
  len : ∀ p vs H Q E, sp p vs H Q E → vs.length = ps.length
  run : ∀ (B : Around) (out : List Env) (t : Shared) (G : Hp) (us : List Value) (vs : List V) (Q : VK) (pe : Addr × Obj), L2H.RoomH k B → L2H.PinOk out G t pe → Env0 P w K mg base B out t G → BindsTo t fd ⟨us, []⟩ (ps.zip us) → Vals vs us → sp pe vs G Q E0 →
    codeAny (model P w) B (.call (.ref f) ⟨us, []⟩) (CR CX0 out P w G t Q E0) t
theorem fnw_ok {P : Program} {w : World} {K : PySem.W.Frag} {mg : Str → Option Value} {base : Heap} {x q : Str} {st : Stmt} {f : Addr} {fd : FuncData} {N ps : List Str} {k : Nat} {sp : Addr × Obj → Sp} (F : FnP K x q st f fd) (S : FnScope N ps (defScope st)) (len : ∀ p vs H Q E, sp p vs H Q E → vs.length = ps.length)
    (hb : ∀ (cdv : Value) (B : Around) (out : List Env) (t : Shared) (G : Hp) (vs : List V) (Q : VK) (pe : Addr × Obj), L2H.RoomH k (B.deeper (envOfC q (defScope st) t.heap.objs.size f cdv)) → sp pe vs G Q E0 →
      ∃ r, PSs (L2H.cxH CX0 P w K mg base N q (defScope st) f cdv B out t G E0 pe) (defBody st) r ∧ r { nx := fun _ H' => Q .non H', rt := Q } (start N vs) G) : FnW P w K mg base (k + 1) f fd ps sp := by
  obtain ⟨oc, od, dV, kV, doc, pm, an, cdv, ct, osl, rfl, look, code, _, _⟩ := F.ex
  refine ⟨len, fun B out t G us vs Q pe room pin e0 bind rv h => ?_⟩
  have up : K.In t.heap := e0.mod.kin.keeps fun b o e => (e0.bs b o e).1
  have nl : t.heap.NoLimit := e0.mod.nolimit.keeps fun b o e => (e0.bs b o e).1
  refine codeAny_call_function room.depth (up _ _ look) rfl S.co S.gen rfl (PySem.W.codeRec_of up code) (bind _ _ _ _ ?_)
  have kinds : ∀ y ∈ ps.zip us, (defScope st).names.lookup y.1 = some .local ∨ ((defScope st).names.lookup y.1 = some .cell ∧ ((cellsFrom (t.heap.objs.size + 1) (defScope st).names []).lookup y.1).isSome = true) := by
    rintro ⟨n, v⟩ hy
    rcases S.par n (List.of_mem_zip hy).1 with z | z
    · exact .inl z
    · exact .inr ⟨z, PySem.W.cellsFrom_some _ _ _ (.inl z)⟩
  refine wpAny_newFunctionEnv_cells S.kind kinds fun env he t1 call => ?_
  subst he
  refine ⟨nl.keeps call.toInCall.keep, codeAny_func ?_⟩
  obtain ⟨r, hr, hq⟩ := hb cdv B out t G vs Q pe (room.deeper _) h
  have I0 := L2H.inv_startH (CX := CX0) (E := E0) (cd := cdv) (f := f) (qual := q) (A := B) S pin e0 (len _ _ _ _ _ h) rv call
  refine wpAny_mono (hr.run [] t1 (start N vs) G _ I0 hq) (fun fl t2 hs => ?_) fun e t2 hs => hs
  have done : ∀ {σ' : L2.St} {G' : Hp} {v : V} {u : Value}, Inv (L2H.cxH CX0 P w K mg base N q (defScope st) f cdv B out t G E0 pe) [] σ' G' t2 → RelV v u → Q v G' → CE out P w G t Q u t2 :=
    fun {σ' G' v u} J z y => ⟨v, G', J.os, J.bare, J.base, J.hok, z, y⟩
  cases fl with
  | ret u =>
    obtain ⟨v, σ', G', J, z, y⟩ := hs
    exact done J z y
  | next =>
    obtain ⟨σ', G', J, y⟩ := hs
    exact done (v := .non) (u := .none) J rfl y
  | brk =>
    obtain ⟨_, _, _, y⟩ := hs
    exact y.elim
  | cont =>
    obtain ⟨_, _, _, y⟩ := hs
    exact y.elim
/-- .. and its call -/
structure CalW (P : Program) (w : World) (K : PySem.W.Frag) (mg : Str → Option Value) (base : Heap) (k : Nat) (x : Str) (sp : Addr × Obj → Sp) : Prop where
  ex : ∃ (f : Addr) (fd : FuncData) (ps : List Str), FnW P w K mg base k f fd ps sp ∧ mg x = some (.ref f) ∧ PySem.W.keepIn K (.ref f) = true ∧ Binds K fd ps []
section
variable {X : Cx} {k j : Nat} {x : Str} {sp : Addr × Obj → Sp} {q pos : Pos} {e : Expr} {es : List Expr} {t : TA} {pe : Addr × Obj}
theorem pe_fw (c : CalW X.prog X.w X.K X.mg X.base k x sp) (hr : L2H.RoomH j X.A) (hk : k ≤ j) (hp : pe ∈ X.pn) (hg : Gl X x) (ha : PA X (e :: es) t) (hdb : (x == ("__debug__" : Str)) = false := by decide)
    (he : starEach (e :: es) X.env = (false, eval e X.env) :: starEach es X.env := by rfl) (hpl : (backTo pos (starEach es X.env)).any (·.1) = false := by rfl) :
    PE X (.Call (.Name x q) (e :: es) [] pos) (tCall (sp pe) [] E0 t) := by
  obtain ⟨f, fd, ps, F, hm, kp, b⟩ := c.ex
  refine ⟨fun pins s σ H Q I h => ?_⟩
  refine wpAny_Call_Name_kw (ld_glob I hg hm ?_ hdb)
  refine PySem.W.callWith_K (h₀ := X.base) I.ok.mod.kin kp (thn (ha.run pos pins s σ H _ I h) fun us s1 ⟨vs, H1, I1, rv, y⟩ => ⟨I1.kIn, ?_⟩) he hpl
  have y : sp pe (vs ++ []) H1 Q E0 := y
  rw [List.append_nil] at y
  have ll : us.length = ps.length := by
    rw [← rv.length]
    exact F.len _ _ _ _ _ y
  have bb := b s1 us I1.kIn (by rw [List.append_nil]; exact ll)
  rw [List.append_nil] at bb
  have pin := I1.pin pe (List.mem_append_left _ hp)
  have pin2 : L2H.PinOk X.stack H1 s1 pe := ⟨pin.1, pin.2.1, fun z => by
    rcases List.mem_cons.mp (I1.stkSub pe.1 z) with z | z
    · exact pin.2.2.1 z
    · exact pin.2.2.2.1 z, pin.2.2.2.2⟩
  refine wpAny_call (codeAny_mono (F.run X.A X.stack s1 H1 us vs Q pe (hr.mono hk) pin2 I1.env0 bb rv y) fun r s2 z => ?_)
  cases r with
  | error e => exact (show False from z).elim
  | ok fl =>
    cases fl with
    | ret u => exact I1.after z
    | next => exact z.elim
    | brk => exact z.elim
    | cont => exact z.elim
/-- isinstance of the error that stands in the suite -/
theorem call_isP {D : Addr} (C : ExcC X.K D) (hp : pe ∈ X.pn) (hz : Zc (.ref D) none pe.2) (hf : ∃ vs, pe.2.data = .fields vs) : CallR X (.builtin "isinstance") (rIsE X.K D pe.1) := by
  intro pins s σ H xs us Q I r h
  obtain ⟨c, cv, b, rfl, hcv, e, y⟩ := h
  cases r with
  | cons rx rr =>
    cases rr with
    | cons rt rr =>
      cases rr
      cases rx
      have ec := hcv _ rt
      subst ec
      have at_ := (I.pin pe (List.mem_append_left _ hp)).1
      have J : PySem.W.InstAt s.heap pe.1 pe.2 D none := by
        obtain ⟨a, ⟨oc, od, oda, osl⟩⟩ := pe
        obtain ⟨z1, z2⟩ := hz
        obtain ⟨vs, z3⟩ := hf
        dsimp only at z1 z2 z3
        subst z1 z2 z3
        exact ⟨at_, rfl, rfl, trivial⟩
      exact PySem.W.kia_one (PySem.W.handS_kitx_exc C.hg C.hk C.hs C.hd C.ha C.hn C.ht C.hm) I.kIn J e (fun z => nomatch z) fun tk => ⟨.bl b, H, I.kept (t' := tk) fun _ _ z => z, rfl, y⟩
end
end Bale
set_option Elab.async false
set_option linter.all false
set_option maxRecDepth 100000
set_option maxHeartbeats 4000000
/-! The law's word for an error. -/
namespace Bale
open PySem PySem.Spec PyProof.Rows L2
abbrev sWord : Stmt := top 47
def others : List Str := ["BadBits", "BadBody", "BadCheck", "BadLengths", "BadHead", "BadShares", "BadLetters", "BadMark", "BadPieces", "BadRow", "BadTable", "BadTail", "Behind", "Cut", "NoRange", "Over"]
structure WD (K : PySem.W.Frag) (D : Addr) (b1 b2 : Bool) : Prop where
  exc : ExcC K D
  no16 : ∀ x ∈ others, PySem.W.kitOne K (.ref D) (.ref (He.ga K x)) = some false
  ve : PySem.W.kitOne K (.ref D) (.type "ValueError") = some true
  bad : PySem.W.kitOne K (.ref D) (.ref (cBad K)) = some b1
  nob : PySem.W.kitOne K (.ref D) (.ref (cNo K)) = some b2
/-- the names of the errors -/
structure TE8 (K : PySem.W.Frag) (mg : Str → Option Value) : Prop where
  g16 : ∀ x ∈ others, mg x = some (.ref (He.ga K x))
  bad : mg "BadCode" = some (.ref (cBad K))
  nob : mg "NoBits" = some (.ref (cNo K))
  ve : mg "ValueError" = none
def spWord (K : PySem.W.Frag) : Addr × Obj → Sp := fun p vs H Q _ => ∃ (D : Addr) (b1 b2 : Bool), vs = [.ref p.1] ∧ Zc (.ref D) none p.2 ∧ (∃ vs, p.2.data = .fields vs) ∧ WD K D b1 b2 ∧
  ∀ (H' : Hp) (r l : Addr), Same H H' → H' r = some (.tup [.str "refused", .ref l]) → H' l = some (.lst [.bl b1, .bl b2]) → Q (.ref r) H'
section
variable {P : Program} {w : World} {K : PySem.W.Frag} {mg : Str → Option Value} {base : Heap}
theorem scWord : FnScope ["_law_e", "_law_some"] ["_law_e"] (defScope sWord) := ⟨rfl, rfl, rfl, by decide +kernel, rfl, by decide +kernel, by decide +kernel⟩
theorem pe_isP {X : Cx} {pe : Addr × Obj} {D : Addr} {x : Str} {C : Addr} {p p2 p3 pos : Pos} {xe : Str} {i : Nat} (C1 : ExcC X.K D) (hp : pe ∈ X.pn) (hz : Zc (.ref D) none pe.2) (hf : ∃ vs, pe.2.data = .fields vs) (hi : X.mg "isinstance" = none) (hgi : Gl X "isinstance") (hN : X.N[i]? = some xe) (hv : Vis X.env.scope xe) (hg : Gl X x) (hm : X.mg x = some (.ref C))
    (hd : (x == ("__debug__" : Str)) = false := by decide) (hd1 : (xe == ("__debug__" : Str)) = false := by decide) (hd2 : (xe == ("__classdict__" : Str)) = false := by decide)
    (e1 : starEach [.Name xe p2, .Name x p3] X.env = (false, eval (.Name xe p2) X.env) :: starEach [.Name x p3] X.env := by rfl) (e2 : starEach [.Name x p3] X.env = (false, eval (.Name x p3) X.env) :: starEach [] X.env := by rfl) :
    PE X (.Call (.Name "isinstance" p) [.Name xe p2, .Name x p3] [] pos) (tCB (rIsE X.K D pe.1) (tCons (tVar i) (tCons (tC (.ref C)) tNil))) :=
  pe_callB (call_isP C1 hp hz hf) hgi hi boot_isinstance (pa_cons (pe_var hN hv hd1 hd2) (pa_cons (pe_glob hg hm rfl hd) pa_nil e2) e1)
theorem ok_word {f : Addr} {fd : FuncData} (F : FnP K "_law_word" "_law_word" sWord f fd) (T : Tx mg) (E : TE8 K mg) : FnW P w K mg base 1 f fd ["_law_e"] (spWord K) := by
  refine fnw_ok F scWord (fun p vs H Q E h => ?_) (fun cdv A outer s H vs Q pe hr h => ?_)
  · obtain ⟨D, b1, b2, rfl, _⟩ := h
    rfl
  · obtain ⟨D, b1, b2, rfl, hz, hf, W, q⟩ := h
    have m : ∀ x ∈ others, mg x = some (.ref (He.ga K x)) := E.g16
    have isx : ∀ {x : Str} {C : Addr} {p p2 p3 pos : Pos}, Gl (L2H.cxH CX0 P w K mg base ["_law_e", "_law_some"] "_law_word" (defScope sWord) f cdv A outer s H E0 pe) x → mg x = some (.ref C) → (x == ("__debug__" : Str)) = false →
        PE (L2H.cxH CX0 P w K mg base ["_law_e", "_law_some"] "_law_word" (defScope sWord) f cdv A outer s H E0 pe) (.Call (.Name "isinstance" p) [.Name "_law_e" p2, .Name x p3] [] pos) (tCB (rIsE K D pe.1) (tCons (tVar 0) (tCons (tC (.ref C)) tNil))) :=
      fun hg hm hd => pe_isP (X := L2H.cxH CX0 P w K mg base ["_law_e", "_law_some"] "_law_word" (defScope sWord) f cdv A outer s H E0 pe) (i := 0) W.exc (List.mem_cons_self ..) hz hf T.isi (by rfl) rfl (.inl rfl) hg hm hd
    refine ⟨_, pss_cons (ps_set (i := 1) scWord.nd rfl (.inl rfl) (pe_lst (pa_cons (isx (by rfl) (m "BadBits" (by decide)) (by decide)) (pa_cons (isx (by rfl) (m "BadBody" (by decide)) (by decide)) (pa_cons (isx (by rfl) (m "BadCheck" (by decide)) (by decide)) (pa_cons (isx (by rfl) (m "BadLengths" (by decide)) (by decide)) pa_nil))))))
      (pss_cons (ps_set (i := 1) scWord.nd rfl (.inl rfl) (pe_op op_cat (pv 1) (pe_lst (pa_cons (isx (by rfl) (m "BadHead" (by decide)) (by decide)) (pa_cons (isx (by rfl) (m "BadShares" (by decide)) (by decide)) (pa_cons (isx (by rfl) (m "BadLetters" (by decide)) (by decide)) pa_nil))))))
      (pss_cons (ps_set (i := 1) scWord.nd rfl (.inl rfl) (pe_op op_cat (pv 1) (pe_lst (pa_cons (isx (by rfl) (m "BadMark" (by decide)) (by decide)) (pa_cons (isx (by rfl) (m "BadPieces" (by decide)) (by decide)) (pa_cons (isx (by rfl) (m "BadRow" (by decide)) (by decide)) (pa_cons (isx (by rfl) (m "BadTable" (by decide)) (by decide)) pa_nil)))))))
      (pss_cons (ps_set (i := 1) scWord.nd rfl (.inl rfl) (pe_op op_cat (pv 1) (pe_lst (pa_cons (isx (by rfl) (m "BadTail" (by decide)) (by decide)) (pa_cons (isx (by rfl) (m "Behind" (by decide)) (by decide)) (pa_cons (isx (by rfl) (m "Cut" (by decide)) (by decide)) (pa_cons (isx (by rfl) (m "NoRange" (by decide)) (by decide)) pa_nil)))))))
      (pss_cons (ps_if (PW.pt (pw_or (pt_cmpR op_in_seq pe_bl (pe_op op_cat (pv 1) (pe_lst (pa_cons (isx (by rfl) (m "Over" (by decide)) (by decide)) pa_nil))) (by rfl))
          (pw_or1 (pt_not (pt_val (pe_callB (call_isP W.exc (List.mem_cons_self ..) hz hf) (by rfl) T.isi boot_isinstance (pa_cons (pv 0) (pa_cons (pe_bltn (v := .ty "ValueError") (by rfl) E.ve (by decide +kernel) rfl) pa_nil))))))))
        pss_never pss_nil)
      (pss_one (ps_ret (pe_tup (pa_cons pe_str (pa_cons (pe_lst (pa_cons (isx (by rfl) E.bad (by decide)) (pa_cons (isx (by rfl) E.nob (by decide)) pa_nil))) pa_nil))))))))), ?_⟩
    have k : ∀ x ∈ others, PySem.W.kitOne K (.ref D) (.ref (He.ga K x)) = some false := W.no16
    have sz : ∀ {n : Nat}, n ≤ 20 → n ≤ sizeLine := fun {n} h => Nat.le_trans h (by decide)
    refine ⟨_, rfl, _, .ref (He.ga K "BadBits"), false, rfl, (fun u r => r), k "BadBits" (by decide), _, rfl, _, .ref (He.ga K "BadBody"), false, rfl, (fun u r => r), k "BadBody" (by decide), _, rfl, _, .ref (He.ga K "BadCheck"), false, rfl, (fun u r => r), k "BadCheck" (by decide), _, rfl, _, .ref (He.ga K "BadLengths"), false, rfl, (fun u r => r), k "BadLengths" (by decide), sz (by decide : 4 ≤ 20), fun l1 h1 => ?_⟩
    have s1 : Same H (upd H l1 (.lst [.bl false, .bl false, .bl false, .bl false])) := (Same.refl H).new h1
    have e1 : upd H l1 (.lst [.bl false, .bl false, .bl false, .bl false]) l1 = some (.lst (List.replicate 4 (V.bl false))) := upd_same
    generalize upd H l1 (.lst [.bl false, .bl false, .bl false, .bl false]) = H1 at s1 e1 ⊢
    refine ⟨_, rfl, _, rfl, _, .ref (He.ga K "BadHead"), false, rfl, (fun u r => r), k "BadHead" (by decide), _, rfl, _, .ref (He.ga K "BadShares"), false, rfl, (fun u r => r), k "BadShares" (by decide), _, rfl, _, .ref (He.ga K "BadLetters"), false, rfl, (fun u r => r), k "BadLetters" (by decide), sz (by decide : 3 ≤ 20), fun m1 hm1 => ?_⟩
    have n1 : l1 ≠ m1 := ne_of_none e1 hm1
    refine ⟨l1, m1, _, _, rfl, rfl, (upd_ne n1).trans e1, upd_same, sz (by decide : 7 ≤ 20), fun l2 h2 => ?_⟩
    have s2 : Same H (upd (upd H1 m1 (.lst [.bl false, .bl false, .bl false])) l2 (.lst (List.replicate 4 (V.bl false) ++ [.bl false, .bl false, .bl false]))) := (s1.new hm1).new h2
    have e2 : upd (upd H1 m1 (.lst [.bl false, .bl false, .bl false])) l2 (.lst (List.replicate 4 (V.bl false) ++ [.bl false, .bl false, .bl false])) l2 = some (.lst (List.replicate 7 (V.bl false))) := upd_same
    generalize upd (upd H1 m1 (.lst [.bl false, .bl false, .bl false])) l2 (.lst (List.replicate 4 (V.bl false) ++ [.bl false, .bl false, .bl false])) = H2 at s2 e2 ⊢
    refine ⟨_, rfl, _, rfl, _, .ref (He.ga K "BadMark"), false, rfl, (fun u r => r), k "BadMark" (by decide), _, rfl, _, .ref (He.ga K "BadPieces"), false, rfl, (fun u r => r), k "BadPieces" (by decide), _, rfl, _, .ref (He.ga K "BadRow"), false, rfl, (fun u r => r), k "BadRow" (by decide), _, rfl, _, .ref (He.ga K "BadTable"), false, rfl, (fun u r => r), k "BadTable" (by decide), sz (by decide : 4 ≤ 20), fun m2 hm2 => ?_⟩
    have n2 : l2 ≠ m2 := ne_of_none e2 hm2
    refine ⟨l2, m2, _, _, rfl, rfl, (upd_ne n2).trans e2, upd_same, sz (by decide : 11 ≤ 20), fun l3 h3 => ?_⟩
    have s3 : Same H (upd (upd H2 m2 (.lst [.bl false, .bl false, .bl false, .bl false])) l3 (.lst (List.replicate 7 (V.bl false) ++ [.bl false, .bl false, .bl false, .bl false]))) := (s2.new hm2).new h3
    have e3 : upd (upd H2 m2 (.lst [.bl false, .bl false, .bl false, .bl false])) l3 (.lst (List.replicate 7 (V.bl false) ++ [.bl false, .bl false, .bl false, .bl false])) l3 = some (.lst (List.replicate 11 (V.bl false))) := upd_same
    generalize upd (upd H2 m2 (.lst [.bl false, .bl false, .bl false, .bl false])) l3 (.lst (List.replicate 7 (V.bl false) ++ [.bl false, .bl false, .bl false, .bl false])) = H3 at s3 e3 ⊢
    refine ⟨_, rfl, _, rfl, _, .ref (He.ga K "BadTail"), false, rfl, (fun u r => r), k "BadTail" (by decide), _, rfl, _, .ref (He.ga K "Behind"), false, rfl, (fun u r => r), k "Behind" (by decide), _, rfl, _, .ref (He.ga K "Cut"), false, rfl, (fun u r => r), k "Cut" (by decide), _, rfl, _, .ref (He.ga K "NoRange"), false, rfl, (fun u r => r), k "NoRange" (by decide), sz (by decide : 4 ≤ 20), fun m3 hm3 => ?_⟩
    have n3 : l3 ≠ m3 := ne_of_none e3 hm3
    refine ⟨l3, m3, _, _, rfl, rfl, (upd_ne n3).trans e3, upd_same, sz (by decide : 15 ≤ 20), fun l4 h4 => ?_⟩
    have s4 : Same H (upd (upd H3 m3 (.lst [.bl false, .bl false, .bl false, .bl false])) l4 (.lst (List.replicate 11 (V.bl false) ++ [.bl false, .bl false, .bl false, .bl false]))) := (s3.new hm3).new h4
    have e4 : upd (upd H3 m3 (.lst [.bl false, .bl false, .bl false, .bl false])) l4 (.lst (List.replicate 11 (V.bl false) ++ [.bl false, .bl false, .bl false, .bl false])) l4 = some (.lst (List.replicate 15 (V.bl false))) := upd_same
    generalize upd (upd H3 m3 (.lst [.bl false, .bl false, .bl false, .bl false])) l4 (.lst (List.replicate 11 (V.bl false) ++ [.bl false, .bl false, .bl false, .bl false])) = H4 at s4 e4 ⊢
    refine ⟨_, rfl, _, rfl, _, .ref (He.ga K "Over"), false, rfl, (fun u r => r), k "Over" (by decide), sz (by decide : 1 ≤ 20), fun m4 hm4 => ?_⟩
    have n4 : l4 ≠ m4 := ne_of_none e4 hm4
    refine ⟨l4, m4, _, _, rfl, rfl, (upd_ne n4).trans e4, upd_same, sz (by decide : 16 ≤ 20), fun l5 h5 => ?_⟩
    refine ⟨l5, List.replicate 16 (V.bl false), rfl, .inl (SqL.of upd_same), rfl, by decide, false, rfl, iteF ?_⟩
    refine ⟨_, rfl, _, .type "ValueError", true, rfl, (fun u r => r), W.ve, true, rfl, iteF ?_⟩
    refine ⟨_, rfl, _, .ref (cBad K), b1, rfl, (fun u r => r), W.bad, _, rfl, _, .ref (cNo K), b2, rfl, (fun u r => r), W.nob, sz (by decide : 2 ≤ 20), fun l hl => ?_⟩
    refine ⟨sz (by decide : 2 ≤ 20), fun r hr => ?_⟩
    have nlr : l ≠ r := ne_of_none upd_same hr
    exact q _ r l ((((s4.new hm4).new h5).new hl).new hr) upd_same ((upd_ne nlr).trans upd_same)
end
end Bale
set_option Elab.async false
set_option linter.all false
set_option maxRecDepth 100000
set_option maxHeartbeats 4000000
/-! A reader of codes tells a thing. -/
namespace Bale
open PySem PySem.Spec PyProof.Rows L2
abbrev sThing : Stmt := inClass (top 28) 1
abbrev mroVE : List Value := [.type "ValueError", .type "Exception", .type "BaseException", .type "object"]
/-- an own class of errors that is raised -/
structure EX1 (K : PySem.W.Frag) (C : Addr) : Prop where
  x : PySem.W.excIn K C mroVE "ValueError.__new__" = true
  k : PySem.W.keepIn K (.ref C) = true
  b : PySem.W.subIn K (.ref C) (.type "BaseException") = some true
  t : PySem.W.typeIn K (.ref C) = some (.type "type")
theorem plc_hit {fs : Codes} {w : List Bool} : plc fs (val w) w.length = hit fs w := rfl
theorem begP_begun {fs : Codes} {w : List Bool} (hh : hit fs w = none) (hw : 1 ≤ w.length) : BegP fs w.length (val w) ↔ begun fs w = true := by
  rw [begun_iff]
  constructor
  · rintro ⟨p, c, l, e, h1, h2, h3⟩
    exact ⟨p, c, l, e, Nat.le_of_lt h2, h3⟩
  · rintro ⟨p, c, l, e, h1, h2⟩
    refine ⟨p, c, l, e, hw, ?_, h2⟩
    rcases Nat.lt_or_eq_of_le h1 with h | h
    · exact h
    · exfalso
      subst h
      rw [Nat.sub_self, Nat.pow_zero, Nat.div_one] at h2
      subst h2
      exact hit_none.mp hh p e
theorem cr_ne_br {K : PySem.W.Frag} {H : Hp} {c r l dk db dx dy : Addr} {t : Nat} (h1 : H c = some (.ins (cCR K) dx (crF dk db))) (h2 : H r = some (.ins (cBR K) dy (brF l t))) : c ≠ r := fun e => by
  rw [e, h2] at h1
  have h1 := Option.some.inj h1
  injection h1 with _ _ h3
  unfold brF crF at h3
  injection h3 with h4 _
  have h5 : (("source" : Str)) = "known" := congrArg Prod.fst h4
  exact absurd h5 (by decide +kernel)
theorem CRIn.keep {K : PySem.W.Frag} {H H' : Hp} {c r l dk db dy : Addr} {t n m : Nat} {fs : Codes} {B : Nat → Nat → Prop} (h : CRIn K H c dk db fs B n m) (h2 : H r = some (.ins (cBR K) dy (brF l t))) (kp : Keep r H H') : CRIn K H' c dk db fs B n m := by
  obtain ⟨⟨dx, h1⟩, ⟨kv, e1, q1⟩, ⟨bv, e2, q2⟩⟩ := h
  exact ⟨⟨dx, kp _ _ h1 (cr_ne_br h1 h2)⟩, ⟨kv, kp _ _ e1 (ne_of e1 h2 (by intro z; cases z)), q1⟩, ⟨bv, kp _ _ e2 (ne_of e2 h2 (by intro z; cases z)), q2⟩⟩
theorem CRIn.same {K : PySem.W.Frag} {H H' : Hp} {c dk db : Addr} {n m : Nat} {fs : Codes} {B : Nat → Nat → Prop} (h : CRIn K H c dk db fs B n m) (s : Same H H') : CRIn K H' c dk db fs B n m := by
  obtain ⟨⟨dx, h1⟩, ⟨kv, e1, q1⟩, ⟨bv, e2, q2⟩⟩ := h
  exact ⟨⟨dx, s _ _ h1⟩, ⟨kv, s _ _ e1, q1⟩, ⟨bv, s _ _ e2, q2⟩⟩
theorem BRAt.same {K : PySem.W.Frag} {H H' : Hp} {r l : Addr} {ns : List Nat} {t : Nat} (h : BRAt K H r l ns t) (s : Same H H') : BRAt K H' r l ns t := by
  obtain ⟨⟨dx, h1⟩, h2, h3⟩ := h
  exact ⟨⟨dx, s _ _ h1⟩, s _ _ h2, h3⟩
def spThing (K : PySem.W.Frag) : Sp := fun vs H Q E => ∃ (c r l : Addr) (fs : Codes) (ns : List Nat) (t : Nat), vs = [.ref c, .ref r] ∧ CRAt K H c fs ∧ GoodF fs ∧ BRAt K H r l ns t ∧ t ≤ 8 * ns.length ∧
  ∀ H' : Hp, Keep r H H' → (∀ p n, due fs [] ((bytesBits ns).drop t) = .thing p n → BRAt K H' r l ns (t + n) → Q (nV p) H') ∧ (due fs [] ((bytesBits ns).drop t) = .bad → BRAt K H' r l ns t → E (.ref (cBad K)) none H') ∧
    (due fs [] ((bytesBits ns).drop t) = .short → BRAt K H' r l ns t → E (.ref (cNo K)) none H')
section
variable {P : Program} {w : World} {K : PySem.W.Frag} {mg : Str → Option Value} {base : Heap}
theorem scThing : FnScope ["self", "reader", "begin", "size", "code"] ["self", "reader"] (defScope sThing) := ⟨rfl, rfl, rfl, by decide +kernel, rfl, by decide +kernel, by decide +kernel⟩
theorem ok_thing {f : Addr} {fd : FuncData} (F : FnP K "thing" "CodeReader.thing" sThing f fd) (C : CRT K) (N : TE8 K mg) (xB : EX1 K (cBad K)) (xN : EX1 K (cNo K))
    (cL : Met P w K mg base 1 (cBR K) "left" (spLeft K)) (cP : Met P w K mg base 1 (cBR K) "place" (spPlace K)) (cG : Met P w K mg base 2 (cBR K) "go" (spGo K)) (cT : Met P w K mg base 3 (cBR K) "take" (spTake K)) :
    FnOk P w K mg base (L2.CX P w) 4 f fd ["self", "reader"] (spThing K) := by
  refine F.ok scThing (fun vs H Q E h => ?_) (fun cdv A outer s H vs Q E hr h => ?_)
  · obtain ⟨c, r, l, fs, ns, t, rfl, _⟩ := h
    rfl
  · obtain ⟨c, r, l, fs, ns, t, rfl, hC, G, hB, ht, q⟩ := h
    have hu : (A.deeper (envOfC "CodeReader.thing" (defScope sThing) s.heap.objs.size f cdv)).units + 1 < cLine := by
      have := hr.units
      omega
    refine ⟨_, pss_cons (ps_set (i := 2) scThing.nd rfl (.inl rfl) (pe_m0 cP hr (by decide) (pv 1)))
      (pss_cons (ps_set (i := 3) scThing.nd rfl (.inl rfl) (pe_n 0))
      (pss_cons (ps_set (i := 4) scThing.nd rfl (.inl rfl) (pe_n 0))
      (pss_cons (ps_while PassesOwn.leaving (pt_cmpR n_gt (pe_m0 cL hr (by decide) (pv 1)) (pe_n 0) (nomark _))
        (pss_cons (ps_set (i := 4) scThing.nd rfl (.inl rfl) (pe_op n_or (pe_op n_shl (pv 4) (pe_n 1)) (pe_m cT hr (by decide) (pv 1) (pa_cons (pe_n 1) pa_nil))))
        (pss_cons (ps_aug (i := 3) scThing.nd rfl (.inl rfl) (pe_n 1) a_add)
        (pss_cons (ps_if (pt_cmp (pc_din hu (pe_tup (pa_cons (pv 3) (pa_cons (pv 4) pa_nil))) (pe_fld (pv 0) rfl))) (pss_one (ps_ret (pe_dget hu (pe_fld (pv 0) rfl) (pe_tup (pa_cons (pv 3) (pa_cons (pv 4) pa_nil))) (fun _ _ => rfl)))) pss_nil)
        (pss_one (ps_if (pt_cmp (pc_dnotin hu (pe_tup (pa_cons (pv 3) (pa_cons (pv 4) pa_nil))) (pe_fld (pv 0) rfl)))
          (pss_cons (ps_expr (pe_m cG hr (by decide) (pv 1) (pa_cons (pv 2) pa_nil)))
          (pss_one (ps_raise rfl (takes_of rfl rfl rfl rfl) (pmk_own PySem.F.excBase_ValueError xB.x N.bad xB.k (raises_own xB.b xB.t) (by rfl))))) pss_nil))))))
      (pss_cons (ps_expr (pe_m cG hr (by decide) (pv 1) (pa_cons (pv 2) pa_nil)))
      (pss_one (ps_raise rfl (takes_of rfl rfl rfl rfl) (pmk_own PySem.F.excBase_ValueError xN.x N.nob xN.k (raises_own xN.b xN.t) (by rfl)))))))), ?_⟩
    obtain ⟨dk, db, n0, m0, hI⟩ := hC
    have hlen : ((bytesBits ns).drop t).length = 8 * ns.length - t := by rw [List.length_drop, bytesBits_length]
    have hat : ∀ k : Nat, ((bytesBits ns).drop t)[k]? = (bytesBits ns)[t + k]? := fun k => List.getElem?_drop
    generalize hrest : (bytesBits ns).drop t = rest at q hlen hat
    have two : 2 ≤ sizeLine := by decide
    obtain ⟨⟨dy, hr0⟩, _⟩ := id hB
    refine ⟨_, rfl, r, dy, _, rfl, hr0, br_no _ _ (by decide +kernel) (by decide +kernel), r, l, ns, t, rfl, hB, ?_⟩
    refine while_by (fun σ H' => ∃ k : Nat, σ = [some (.ref c), some (.ref r), some (nV t), some (nV k), some (nV (val (rest.take k)))] ∧ CRIn K H' c dk db fs (BegP fs) n0 m0 ∧ BRAt K H' r l ns (t + k) ∧ Keep r H H' ∧ k ≤ rest.length ∧ k ≤ 12 ∧ due fs [] rest = due fs (rest.take k) (rest.drop k))
      (fun σ H' => match σ with | [_, _, _, some (.int k), _] => 8 * ns.length - (t + k.toNat) | _ => 0)
      ⟨0, rfl, hI, hB, Keep.refl r H, Nat.zero_le _, Nat.zero_le _, rfl⟩ ?_ ?_
    · rintro σ H1 ⟨k, rfl, hI1, hB1, kp1, hk, h12, hd⟩
      obtain ⟨⟨dy1, hr1⟩, _⟩ := id hB1
      refine ⟨_, rfl, r, dy1, _, rfl, hr1, br_no _ _ (by decide +kernel) (by decide +kernel), r, l, ns, t + k, rfl, hB1, by omega, 8 * ns.length - (t + k), 0, rfl, rfl, _, rfl, ?_⟩
      refine ite2 (fun cc => ?_) (fun cc => ?_)
      · have c0 : 0 < 8 * ns.length - (t + k) := of_decide_eq_true cc
        have hkl : k < rest.length := by omega
        have hwl : (rest.take k).length = k := by
          rw [List.length_take]
          omega
        have hv : val (rest.take k) < 2 ^ 64 := by
          have h1 := val_lt (rest.take k)
          rw [hwl] at h1
          exact Nat.lt_of_lt_of_le h1 (Nat.pow_le_pow_right (by decide) (by omega))
        refine ⟨_, rfl, val (rest.take k), 1, rfl, rfl, ⟨hv, by decide⟩, _, rfl, r, dy1, _, rfl, hr1, br_no _ _ (by decide +kernel) (by decide +kernel), r, l, ns, t + k, 1, rfl, hB1, by decide, by omega, fun H2 n hB2 kp2 hb => ?_⟩
        obtain ⟨b, hb1, rfl⟩ := hb rfl
        rw [← hat k] at hb1
        have hI2 := hI1.keep hr1 kp2
        have ew : rest.take (k + 1) = rest.take k ++ [b] := take_more hb1
        have ed : rest.drop k = b :: rest.drop (k + 1) := by
          rw [List.drop_eq_getElem_cons hkl]
          have := List.getElem?_eq_getElem hkl
          rw [hb1] at this
          rw [← Option.some.inj this]
        have hwl2 : (rest.take (k + 1)).length = k + 1 := by
          rw [List.length_take]
          omega
        have ev : val (rest.take k) * 2 ^ 1 + b.toNat = val (rest.take (k + 1)) := by
          rw [ew, val_snoc, Nat.pow_one, Nat.mul_comm]
        have hb2 : b.toNat < 2 ^ 1 := by cases b <;> decide
        rw [ed, due_cons, ← ew, hwl] at hd
        refine ⟨val (rest.take k), 1, b.toNat, rfl, rfl, hb2, ?_⟩
        rw [ev]
        refine ⟨_, rfl, k, 1, rfl, rfl, ?_⟩
        have hphit : plc fs (val (rest.take (k + 1))) (k + 1) = hit fs (rest.take (k + 1)) := by
          unfold plc hit
          rw [hwl2]
        have hbeg : hit fs (rest.take (k + 1)) = none → (BegP fs (k + 1) (val (rest.take (k + 1))) ↔ begun fs (rest.take (k + 1)) = true) := fun hh => by
          have := begP_begun hh (by rw [hwl2]; exact Nat.succ_pos k)
          rwa [hwl2] at this
        have ekk : t + k + 1 = t + (k + 1) := Nat.add_assoc t k 1
        rw [ekk] at hB2
        have kp02 := kp1.trans kp2
        generalize hw1 : rest.take (k + 1) = w1 at hd hwl2 hphit hbeg ew ⊢
        refine ⟨_, rfl, _, rfl, two, fun t1 ht1 => ?_⟩
        have s3 : Same H2 (upd H2 t1 (.tup [nV (k + 1), nV (val w1)])) := (Same.refl H2).new ht1
        have e3 : upd H2 t1 (.tup [nV (k + 1), nV (val w1)]) t1 = some (.tup ((kK (k + 1) (val w1)).map kV)) := upd_same
        have hI3 := hI2.same s3
        have hB3 := hB2.same s3
        have kp3 : Keep r H (upd H2 t1 (.tup [nV (k + 1), nV (val w1)])) := kp02.trans (Keep.of s3)
        generalize upd H2 t1 (.tup [nV (k + 1), nV (val w1)]) = H3 at e3 hI3 hB3 kp3 ⊢
        obtain ⟨⟨dx3, hc3⟩, ⟨kv, hk3, hK3, _⟩, ⟨bv, hb3, hBe3, _⟩⟩ := id hI3
        have eK : valV kv (kK (k + 1) (val w1)) = (hit fs w1).map nV := by rw [hK3, hphit]
        refine ⟨_, rfl, c, _, dx3, _, _, rfl, hc3, C.cl, C.n1, cr_known _ _, dk, _, rfl, DGet.t (k := kK (k + 1) (val w1)) hk3 e3, _, rfl, ?_⟩
        rw [eK]
        cases eh : hit fs w1 with
        | some p =>
          rw [eh] at hd eK
          refine iteT ?_
          refine ⟨_, rfl, c, _, dx3, _, _, rfl, hc3, C.cl, C.n1, cr_known _ _, _, rfl, _, rfl, two, fun t2 ht2 => ?_⟩
          have s4 : Same H3 (upd H3 t2 (.tup [nV (k + 1), nV (val w1)])) := (Same.refl H3).new ht2
          refine ⟨dk, nV p, rfl, ?_, (q _ (kp3.trans (Keep.of s4))).1 p (k + 1) hd (hB3.same s4)⟩
          have := DGet.t (k := kK (k + 1) (val w1)) (s4 _ _ hk3) (b := t2) upd_same
          rw [eK] at this
          exact this
        | none =>
          rw [eh] at hd
          refine iteF ?_
          refine ⟨_, rfl, _, rfl, two, fun t2 ht2 => ?_⟩
          have s4 : Same H3 (upd H3 t2 (.tup [nV (k + 1), nV (val w1)])) := (Same.refl H3).new ht2
          have e4 : upd H3 t2 (.tup [nV (k + 1), nV (val w1)]) t2 = some (.tup ((kK (k + 1) (val w1)).map kV)) := upd_same
          have hI4 := hI3.same s4
          have hB4 := hB3.same s4
          have kp4 : Keep r H (upd H3 t2 (.tup [nV (k + 1), nV (val w1)])) := kp3.trans (Keep.of s4)
          have hc4 := s4 _ _ hc3
          have hb4 := s4 _ _ hb3
          generalize upd H3 t2 (.tup [nV (k + 1), nV (val w1)]) = H4 at e4 hI4 hB4 kp4 hc4 hb4 ⊢
          refine ⟨_, rfl, c, _, dx3, _, _, rfl, hc4, C.cl, C.n2, cr_begun _ _, db, _, rfl, DGet.t (k := kK (k + 1) (val w1)) hb4 e4, _, rfl, ?_⟩
          have eB : (valV bv (kK (k + 1) (val w1))).isSome = begun fs w1 := by
            rw [Bool.eq_iff_iff, hBe3 (k + 1) (val w1)]
            exact hbeg eh
          rw [eB]
          cases ebg : begun fs w1 with
          | false =>
            rw [ebg, if_neg Bool.false_ne_true] at hd
            refine iteT ?_
            obtain ⟨⟨dy4, hr4⟩, _⟩ := id hB4
            exact ⟨_, rfl, r, dy4, _, rfl, hr4, br_no _ _ (by decide +kernel) (by decide +kernel), _, rfl, r, l, ns, t + (k + 1), t, rfl, hB4, ht, fun H5 hB5 kp5 => (q H5 (kp4.trans kp5)).2.1 hd hB5⟩
          | true =>
            rw [ebg, if_pos rfl] at hd
            refine iteF ?_
            obtain ⟨p, c', l', e, h1, h2, _⟩ := (hbeg eh).mpr ebg
            have h3 := (G.ent p c' l' e).2.1
            refine ⟨⟨k + 1, by rw [hw1]; rfl, hI4, hB4, kp4, hkl, by omega, by rw [hw1]; exact hd⟩, ?_⟩
            show 8 * ns.length - (t + ((k + 1 : Nat) : Int).toNat) < 8 * ns.length - (t + ((k : Nat) : Int).toNat)
            rw [Int.toNat_natCast, Int.toNat_natCast]
            omega
      · have c0 : ¬ 0 < 8 * ns.length - (t + k) := fun q => cc (decide_eq_true q)
        have hke : k = rest.length := by omega
        have hd : due fs [] rest = .short := by
          rw [hd, hke, List.drop_length]
          unfold due
          rfl
        exact ⟨_, rfl, r, dy1, _, rfl, hr1, br_no _ _ (by decide +kernel) (by decide +kernel), _, rfl, r, l, ns, t + k, t, rfl, hB1, ht, fun H5 hB5 kp5 => (q H5 (kp1.trans kp5)).2.2 hd hB5⟩
    · rintro σ H' Q1 Q2 hQ ⟨x, hx, a, dx, fs', e1, e2, e3, r', l', ns', t', e4, e5, e6, i, j, e7, e8, k', e9, y⟩
      exact ⟨x, hx, a, dx, fs', e1, e2, e3, r', l', ns', t', e4, e5, e6, i, j, e7, e8, k', e9, hQ _ _ y⟩
end
end Bale
set_option Elab.async false
set_option linter.all false
set_option maxRecDepth 100000
set_option maxHeartbeats 4000000
/-! The law asks a reader of codes. -/
namespace Bale
open PySem PySem.Spec PyProof.Rows L2
abbrev sAsked : Stmt := top 48
/-- a method that may raise -/
structure MetX (P : Program) (w : World) (K : PySem.W.Frag) (mg : Str → Option Value) (base : Heap) (k : Nat) (C : Addr) (m : Str) (sp : Sp) : Prop where
  ex : ∃ (f : Addr) (fd : FuncData) (ps : List Str), Cls K C ∧ Meth K C m f ∧ FnOk P w K mg base (L2.CX P w) k f fd ps sp ∧ Binds K fd ps []
def tMethS (C : Addr) (m : Str) (sp : Sp) (E : L2.St → XK) (ta : TE) (t : TA) : TE := fun σ H Q => ta σ H fun x H1 => ∃ a dx fs, x = .ref a ∧ H1 a = some (.ins C dx fs) ∧ fs.lookup m = none ∧ t σ H1 fun vs H2 => sp (x :: vs) H2 Q (E σ)
section
variable {X : Cx} {k j : Nat} {C : Addr} {sp : Sp} {E : L2.St → XK} {m : Str} {pos apos : Pos} {e o : Expr} {es : List Expr} {ta : TE} {t : TA} {pl : Sem Bool}
theorem pe_mx (c : MetX X.prog X.w X.K X.mg X.base k C m sp) (hr : Room j X.A) (hk : k ≤ j) (hx : ∀ σ, PassesAt (L2.CX X.prog X.w) X σ (E σ)) (ho : PE X o ta) (ha : PA X (e :: es) t)
    (hst : starEach (e :: es) X.env = (false, eval e X.env) :: starEach es X.env := by rfl) (hpl : (backTo pos (starEach es X.env)).any (·.1) = false := by rfl)
    (ht : eval (.Call (.Attribute o m apos) (e :: es) [] pos) X.env = (eval o X.env >>= fun ov => standAt apos.atName >>= fun _ => holding [ov] (getMethod ov m pl) >>= fun fp => callWith pos fp.1 fp.2 (backTo pos (starEach (e :: es) X.env)) (backToKw pos (keywordEach [] X.env))) := by rfl) :
    PE X (.Call (.Attribute o m apos) (e :: es) [] pos) (tMethS C m sp E ta t) := by
  obtain ⟨f, fd, ps, hc, hm, F, hb⟩ := c.ex
  refine ⟨fun pins s σ H Q I h => ?_⟩
  refine PySem.W.methodCall_KW (pl := pl) (thn (ho.run pins s σ H _ I h) fun u s1 ⟨x, H1, I1, rx, a, dx, fs, ex, ea, l, y⟩ => ?_) ht
  subst ex
  cases (show u = Value.ref a from rx)
  refine getmeth_ok I1 ea hc hm l ?_
  refine PySem.W.callWith_K (first := [.ref a]) (h₀ := X.base) I.ok.mod.kin hm.kp (thn (ha.run pos pins s1 σ H1 _ I1 y) fun us s2 ⟨vs, H2, I2, rv, z⟩ => ⟨I2.kIn, ?_⟩) hst hpl
  exact run_fnS (us := .ref a :: us) (vs := .ref a :: vs) F (hr.mono hk) hb (hx σ) I2 (.cons rfl rv) z
theorem pe_imp {te te' : TE} (h : PE X e te) (hi : ∀ σ H Q, te' σ H Q → te σ H Q) : PE X e te' := ⟨fun pins s σ H Q I y => h.run pins s σ H Q I (hi σ H Q y)⟩
end
/-- the word, of an error of the class that is told -/
def spWordC (K : PySem.W.Frag) (a : Addr) (cls : Value) (d : Option Addr) : Sp := fun vs H Q _ => ∃ (D : Addr) (b1 b2 : Bool), cls = .ref D ∧ d = none ∧ vs = [.ref a] ∧ WD K D b1 b2 ∧
  ∀ (H' : Hp) (r l : Addr), Same H H' → H' r = some (.tup [.str "refused", .ref l]) → H' l = some (.lst [.bl b1, .bl b2]) → Q (.ref r) H'
def spAsked (K : PySem.W.Frag) : Sp := fun vs H Q _ => ∃ (c r l : Addr) (fs : Codes) (ns : List Nat) (t : Nat), vs = [.ref c, .ref r] ∧ CRAt K H c fs ∧ GoodF fs ∧ BRAt K H r l ns t ∧ t ≤ 8 * ns.length ∧
  ∀ (H' : Hp) (x : V), Keep r H H' → AnsIs H' x (due fs [] ((bytesBits ns).drop t)) → BRAt K H' r l ns (endOf t (due fs [] ((bytesBits ns).drop t))) → Q x H'
/-- what the two errors say of themselves -/
structure TWD (K : PySem.W.Frag) (mg : Str → Option Value) : Prop where
  pe : mg "PressError" = some (.ref (cPE K))
  bad : WD K (cBad K) true false
  nob : WD K (cNo K) false true
  eb : PySem.W.exmOne K (.ref (cBad K)) (.ref (cPE K)) = some true
  en : PySem.W.exmOne K (.ref (cNo K)) (.ref (cPE K)) = some true
section
variable {P : Program} {w : World} {K : PySem.W.Frag} {mg : Str → Option Value} {base : Heap}
theorem scAsked : FnScope ["_law_codes_here", "_law_reader", "_law_e"] ["_law_codes_here", "_law_reader"] (defScope sAsked) := ⟨rfl, rfl, rfl, by decide +kernel, rfl, by decide +kernel, by decide +kernel⟩
theorem ok_asked {f : Addr} {fd : FuncData} (F : FnP K "_law_asked" "_law_asked" sAsked f fd) (W : TWD K mg) (cT : MetX P w K mg base 4 (cCR K) "thing" (spThing K)) (cW : CalW P w K mg base 1 "_law_word" (spWord K)) :
    FnOk P w K mg base CX0 5 f fd ["_law_codes_here", "_law_reader"] (spAsked K) := by
  refine fnp_ok F scAsked (fun vs H Q E h => ?_) (fun cdv A outer s H vs Q E hr h => ?_)
  · obtain ⟨c, r, l, fs, ns, t, rfl, _⟩ := h
    rfl
  · obtain ⟨c, r, l, fs, ns, t, rfl, hC, G, hB, ht, q⟩ := h
    refine ⟨_, pss_one (ps_try_as (i := 2) rfl rfl scAsked.nd rfl rfl ⟨rfl, by decide, .inl W.pe⟩ takes0
      (fun W1 pn xe tk _ => pss_one (ps_ret (pe_mx cT hr (by decide) (fun σ => passAt tk σ) (pv 0) (pa_cons (pv 1) pa_nil))))
      (fun a oe cls d pn hz hf => pss_one (ps_ret (pe_imp (te' := tCall (spWordC K a cls d) [] E0 (tCons (tVar 2) tNil)) (pe_fw (j := 4) cW ⟨hr.dp, hr.un⟩ (by decide) (pe := (a, oe)) (List.mem_cons_self ..) (by rfl) (pa_cons (pv 2) pa_nil)) (fun σ H Q y => ?_))))), ?_⟩
    · obtain ⟨v, hv, D, b1, b2, rfl, rfl, ev, W2, y⟩ := y
      exact ⟨v, hv, D, b1, b2, ev, hz, hf, W2, y⟩
    · obtain ⟨dk, db, n0, m0, hI⟩ := id hC
      obtain ⟨⟨dx, hc⟩, _⟩ := id hI
      refine ⟨_, rfl, c, dx, _, rfl, hc, cr_no _ _ (by decide +kernel) (by decide +kernel), _, rfl, c, r, l, fs, ns, t, rfl, hC, G, hB, ht, fun H' kp => ⟨fun p n hd hB' => q H' _ kp (by rw [hd]; rfl) (by rw [hd]; exact hB'), fun hd hB' => ⟨true, W.eb, fun _ a ha => ?_, fun z => nomatch z⟩, fun hd hB' => ⟨true, W.en, fun _ a ha => ?_, fun z => nomatch z⟩⟩⟩
      · exact ⟨_, rfl, cBad K, true, false, rfl, rfl, rfl, W.bad, fun H2 r2 l2 s2 h1 h2 => q H2 _ (kp.trans (Keep.of s2)) (by rw [hd]; exact ⟨r2, l2, rfl, h1, h2⟩) (by rw [hd]; exact hB'.same s2)⟩
      · exact ⟨_, rfl, cNo K, false, true, rfl, rfl, rfl, W.nob, fun H2 r2 l2 s2 h1 h2 => q H2 _ (kp.trans (Keep.of s2)) (by rw [hd]; exact ⟨r2, l2, rfl, h1, h2⟩) (by rw [hd]; exact hB'.same s2)⟩
end
end Bale
set_option Elab.async false
set_option linter.all false
set_option maxRecDepth 100000
set_option maxHeartbeats 4000000
/-! The law reads on to the end. -/
namespace Bale
open PySem PySem.Spec PyProof.Rows L2
abbrev sRead : Stmt := top 53
def datOf : Ans → PyData
  | .thing p _ => .int (p : Int)
  | .bad => .tuple [.str "refused", .list [.bool true, .bool false]]
  | .short => .tuple [.str "refused", .list [.bool false, .bool true]]
theorem AnsIs.dat {K : PySem.W.Frag} {H : Hp} {x : V} {a : Ans} (h : AnsIs H x a) : Dp K H x (datOf a) := by
  cases a with
  | thing p n =>
    have h : x = nV p := h
    rw [h]
    exact .int _
  | bad =>
    obtain ⟨r, l, rfl, h1, h2⟩ := h
    exact .tup (SqT.of h1) (.cons (.str _) (.cons (.lst (SqL.of h2) (.cons (.bl _) (.cons (.bl _) .nil))) .nil))
  | short =>
    obtain ⟨r, l, rfl, h1, h2⟩ := h
    exact .tup (SqT.of h1) (.cons (.str _) (.cons (.lst (SqL.of h2) (.cons (.bl _) (.cons (.bl _) .nil))) .nil))
theorem dat_ok (a : Ans) : SeqAt.shaped (datOf a) = true := by
  cases a with
  | thing p n => rfl
  | bad => decide +kernel
  | short => decide +kernel
theorem dat_eq (a : Ans) : PyData.eqv (datOf a) (datOf a) = true := by
  cases a with
  | thing p n =>
    show ((p : Int) == (p : Int)) = true
    exact beq_self_eq_true _
  | bad => decide +kernel
  | short => decide +kernel
theorem AnsIs.keep {K : PySem.W.Frag} {H H' : Hp} {x : V} {a : Ans} {r l : Addr} {ns : List Nat} {t : Nat} (h : AnsIs H x a) (hB : BRAt K H r l ns t) (kp : Keep r H H') : AnsIs H' x a := by
  obtain ⟨⟨dx, hr⟩, _⟩ := hB
  cases a with
  | thing p n => exact h
  | bad =>
    obtain ⟨y, z, e, h1, h2⟩ := h
    exact ⟨y, z, e, kp _ _ h1 (ne_of h1 hr (by intro q; cases q)), kp _ _ h2 (ne_of h2 hr (by intro q; cases q))⟩
  | short =>
    obtain ⟨y, z, e, h1, h2⟩ := h
    exact ⟨y, z, e, kp _ _ h1 (ne_of h1 hr (by intro q; cases q)), kp _ _ h2 (ne_of h2 hr (by intro q; cases q))⟩
theorem CRAt.keep {K : PySem.W.Frag} {H H' : Hp} {c r l : Addr} {fs : Codes} {ns : List Nat} {t : Nat} (h : CRAt K H c fs) (hB : BRAt K H r l ns t) (kp : Keep r H H') : CRAt K H' c fs := by
  obtain ⟨dk, db, n, m, hI⟩ := h
  obtain ⟨⟨dx, hr⟩, _⟩ := hB
  exact ⟨dk, db, n, m, hI.keep hr kp⟩
theorem CRAt.same {K : PySem.W.Frag} {H H' : Hp} {c : Addr} {fs : Codes} (h : CRAt K H c fs) (s : Same H H') : CRAt K H' c fs := by
  obtain ⟨dk, db, n, m, hI⟩ := h
  exact ⟨dk, db, n, m, hI.same s⟩
def isEnd : Ans → Bool
  | .thing _ _ => false
  | _ => true
theorem AnsIs.ty {K : PySem.W.Frag} {H : Hp} {x : V} {a : Ans} (h : AnsIs H x a) : ∃ ty, TyX K H x ty ∧ PySem.W.kitOne K ty (.type "bool") = some false ∧ PySem.W.kitOne K ty (.type "tuple") = some (isEnd a) := by
  cases a with
  | thing p n =>
    have h : x = nV p := h
    rw [h]
    exact ⟨_, .base (.int _), kit_ty (by decide +kernel), (show PySem.W.kitOne K (.type "int") (.type "tuple") = some false from kit_ty (by decide +kernel))⟩
  | bad =>
    obtain ⟨r, l, rfl, h1, h2⟩ := h
    exact ⟨_, .base (.tup h1), kit_ty (by decide +kernel), kit_ty (by decide +kernel)⟩
  | short =>
    obtain ⟨r, l, rfl, h1, h2⟩ := h
    exact ⟨_, .base (.tup h1), kit_ty (by decide +kernel), kit_ty (by decide +kernel)⟩
def spRead (K : PySem.W.Frag) : Sp := fun vs H Q _ => ∃ (c r b l : Addr) (fs : Codes) (ns : List Nat) (t : Nat), vs = [.ref c, .ref r, .ref b, .str (tx (bytesBits ns)), nV t] ∧ CRAt K H c fs ∧ GoodF fs ∧ BRAt K H r l ns t ∧ t ≤ 8 * ns.length ∧ ns.length ≤ 10000 ∧ H b = some (.lst (fs.map txt)) ∧
  ∀ (H' : Hp) (p : Nat), Keep r H H' → BRAt K H' r l ns p → p ≤ 8 * ns.length → Q (nV p) H'
section
variable {P : Program} {w : World} {K : PySem.W.Frag} {mg : Str → Option Value} {base : Heap}
abbrev nmRead : List Str := ["_law_codes_here", "_law_reader", "_law_texts_here", "_law_bits_here", "_law_at", "_law_turn", "_law_found", "_law_place", "_law_told"]
theorem scRead : FnScope nmRead ["_law_codes_here", "_law_reader", "_law_texts_here", "_law_bits_here", "_law_at"] (defScope sRead) := ⟨rfl, rfl, rfl, by decide +kernel, rfl, by decide +kernel, by decide +kernel⟩
theorem ok_read {f : Addr} {fd : FuncData} (F : FnP K "_law_read" "_law_read" sRead f fd) (T : Tx mg) (cD : Cal P w K mg base 1 "_law_due" spDue) (cA : Cal P w K mg base 5 "_law_asked" (spAsked K)) (cL : Met P w K mg base 1 (cBR K) "left" (spLeft K)) (cP : Met P w K mg base 1 (cBR K) "place" (spPlace K)) :
    FnOk P w K mg base CX0 6 f fd ["_law_codes_here", "_law_reader", "_law_texts_here", "_law_bits_here", "_law_at"] (spRead K) := by
  refine fnp_ok F scRead (fun vs H Q E h => ?_) (fun cdv A outer s H vs Q E hr h => ?_)
  · obtain ⟨c, r, b, l, fs, ns, t, rfl, _⟩ := h
    rfl
  · obtain ⟨c, r, b, l, fs, ns, t, rfl, hC, G, hB, ht, hn, hb, q⟩ := h
    have hu := hr.units
    refine ⟨_, pss_cons (ps_for PassesOwn.never rfl (pi_range1 rfl T.range (pa_cons (pe_op n_add (pe_callB call_len_str (by rfl) T.len boot_len (pa_cons (pv 3) pa_nil)) (pe_n 2)) pa_nil)) (pg_name (i := 5) scRead.nd rfl (.inl rfl))
        (pss_cons (ps_asg (pe_f cD hr (by decide) (by rfl) (pa_cons (pv 2) (pa_cons (pv 3) (pa_cons (pv 4) pa_nil)))) (pg_tup rfl (pgs_cons (pg_name (i := 6) scRead.nd rfl (.inl rfl)) (pgs_cons (pg_name (i := 7) scRead.nd rfl (.inl rfl)) pgs_nil))))
        (pss_cons (ps_set (i := 8) scRead.nd rfl (.inl rfl) (pe_f cA hr (by decide) (by rfl) (pa_cons (pv 0) (pa_cons (pv 1) pa_nil))))
        (pss_cons (ps_if (PW.pt (pw_or (pt_cmpR (op_neD hu) (pv 8) (pv 6) (nomark _)) (pw_or (pt_val (pe_callB call_isi (by rfl) T.isi boot_isinstance (pa_cons (pv 8) (pa_cons (pe_bltn (v := .ty "bool") (by rfl) T.bool boot_bool rfl) pa_nil))))
            (pw_or (pt_cmpR n_ne (pe_m0 cL hr (by decide) (pv 1)) (pe_op n_sub (pe_callB call_len_str (by rfl) T.len boot_len (pa_cons (pv 3) pa_nil)) (pv 7)) (nomark _)) (pw_or1 (pt_cmpR n_ne (pe_m0 cP hr (by decide) (pv 1)) (pv 7) (nomark _)))))))
          (pss_one (ps_ret pe_non)) pss_nil)
        (pss_cons (ps_if (pt_val (pe_callB call_isi (by rfl) T.isi boot_isinstance (pa_cons (pv 6) (pa_cons (pe_bltn (v := .ty "tuple") (by rfl) T.tuple boot_tuple rfl) pa_nil))))
          (pss_cons (ps_if (PW.pt (pw_or (pt_cmpR (op_neD hu) (pe_f cA hr (by decide) (by rfl) (pa_cons (pv 0) (pa_cons (pv 1) pa_nil))) (pv 6) (nomark _)) (pw_or1 (pt_cmpR n_ne (pe_m0 cP hr (by decide) (pv 1)) (pv 7) (nomark _))))) (pss_one (ps_ret pe_non)) pss_nil)
          (pss_one (ps_ret (pv 7)))) pss_nil)
        (pss_one (ps_set (i := 4) scRead.nd rfl (.inl rfl) (pv 7))))))))
      (pss_one (ps_ret pe_non)), ?_⟩
    have hL : (bytesBits ns).length = 8 * ns.length := bytesBits_length ns
    obtain ⟨⟨dr, hr0⟩, _⟩ := id hB
    have hsz : (tx (bytesBits ns)).length ≤ sizeLine := by
      rw [tx_len, hL]
      exact Nat.le_trans (by omega : 8 * ns.length ≤ 100000) (by decide)
    have nbr : b ≠ r := ne_of hb hr0 (by intro z; cases z)
    have no1 : ∀ t : Nat, (brF l t).lookup (("left" : Str)) = none := fun t => br_no _ _ (by decide +kernel) (by decide +kernel)
    have no2 : ∀ t : Nat, (brF l t).lookup (("place" : Str)) = none := fun t => br_no _ _ (by decide +kernel) (by decide +kernel)
    refine ⟨_, rfl, tx (bytesBits ns), rfl, hsz, ?_⟩
    rw [tx_len]
    refine ⟨(bytesBits ns).length, 2, rfl, rfl, (((bytesBits ns).length + 2 : Nat) : Int), rfl, by omega, by omega,
      for_range (lo := 0) (n := (bytesBits ns).length + 2) (fun i σ H' => ∃ (p : Nat) (v5 v6 v7 v8 : Option V), σ = [some (.ref c), some (.ref r), some (.ref b), some (.str (tx (bytesBits ns))), some (nV p), v5, v6, v7, v8] ∧ Keep r H H' ∧ BRAt K H' r l ns p ∧ t + i ≤ p ∧ p ≤ 8 * ns.length)
        ⟨t, none, none, none, none, rfl, Keep.refl r H, hB, Nat.le_refl _, ht⟩ ?_ ?_⟩
    · rintro i σ H0 hi ⟨p, v5, v6, v7, v8, rfl, kp0, hB0, hti, hp⟩
      have hC0 := hC.keep hB kp0
      have hb0 := kp0 _ _ hb nbr
      refine ⟨_, rfl, _, rfl, _, rfl, b, fs, bytesBits ns, p, rfl, hb0, G, by omega, by omega, fun H1 q1 x1 s1 hA1 hq1 => ?_⟩
      have hC1 := hC0.same s1
      have hB1 := hB0.same s1
      have kp1 := kp0.trans (Keep.of s1)
      refine ⟨q1, _, rfl, SqT.of hq1, rfl, _, _, rfl, _, _, rfl, rfl, ?_⟩
      refine ⟨_, rfl, _, rfl, c, r, l, fs, ns, p, rfl, hC1, G, hB1, hp, fun H2 x2 kp2 hA2 hB2 => ?_⟩
      have hA1' := hA1.keep hB1 kp2
      obtain ⟨d, hd⟩ : ∃ d, due fs [] ((bytesBits ns).drop p) = d := ⟨_, rfl⟩
      rw [hd] at hA2 hB2 hA1'
      rw [hd]
      have kp3 := kp1.trans kp2
      obtain ⟨⟨d2, hr2⟩, _⟩ := id hB2
      obtain ⟨ty2, g1, g2, _⟩ := hA2.ty (K := K)
      obtain ⟨ty1, g3, _, g4⟩ := hA1'.ty (K := K)
      have hend : endOf p d ≤ 8 * ns.length := by
        cases d with
        | thing p' n =>
          have := (due_thing hd).2.2
          rw [List.length_drop, hL] at this
          show p + n ≤ _
          have h0 : ([] : List Bool).length = 0 := rfl
          omega
        | bad => exact hp
        | short => exact hp
      refine ⟨_, rfl, _, rfl, datOf d, datOf d, hA2.dat, hA1'.dat, dat_ok d, dat_ok d, _, rfl, ?_⟩
      rw [dat_eq]
      refine iteF ?_
      refine ⟨_, rfl, _, _, ty2, _, false, rfl, .ty _, g1, g2, false, rfl, iteF ?_⟩
      refine ⟨_, rfl, r, d2, _, rfl, hr2, no1 _, r, l, ns, endOf p d, rfl, hB2, hend, _, rfl, tx (bytesBits ns), rfl, hsz, _, rfl, (tx (bytesBits ns)).length, endOf p d, rfl, rfl, (by rw [tx_len, hL]; exact hend), 8 * ns.length - endOf p d, (tx (bytesBits ns)).length - endOf p d, rfl, rfl, _, rfl, ifN (by rw [tx_len, hL]) ?_⟩
      refine ⟨_, rfl, r, d2, _, rfl, hr2, no2 _, r, l, ns, endOf p d, rfl, hB2, _, rfl, endOf p d, endOf p d, rfl, rfl, _, rfl, ifN rfl ?_⟩
      refine ⟨_, rfl, _, _, ty1, _, isEnd d, rfl, .ty _, g3, g4, isEnd d, rfl, ?_⟩
      cases d with
      | thing p' n =>
        refine iteF ?_
        have h1 := (due_thing hd).2.1
        have h0 : ([] : List Bool).length = 0 := rfl
        refine ⟨_, rfl, p + n, _, _, _, _, rfl, kp3, hB2, ?_, hend⟩
        omega
      | bad =>
        refine iteT ?_
        refine ⟨_, rfl, _, rfl, c, r, l, fs, ns, p, rfl, hC1.keep hB1 kp2, G, hB2, hp, fun H4 x4 kp4 hA4 hB4 => ?_⟩
        rw [hd] at hA4 hB4
        obtain ⟨⟨d4, hr4⟩, _⟩ := id hB4
        refine ⟨_, rfl, datOf .bad, datOf .bad, hA4.dat, (hA1'.keep hB2 kp4).dat, dat_ok _, dat_ok _, _, rfl, ?_⟩
        rw [dat_eq]
        refine iteF ?_
        refine ⟨_, rfl, r, d4, _, rfl, hr4, no2 _, r, l, ns, p, rfl, hB4, _, rfl, p, p, rfl, rfl, _, rfl, ifN rfl ?_⟩
        exact ⟨_, rfl, q H4 p (kp3.trans kp4) hB4 hp⟩
      | short =>
        refine iteT ?_
        refine ⟨_, rfl, _, rfl, c, r, l, fs, ns, p, rfl, hC1.keep hB1 kp2, G, hB2, hp, fun H4 x4 kp4 hA4 hB4 => ?_⟩
        rw [hd] at hA4 hB4
        obtain ⟨⟨d4, hr4⟩, _⟩ := id hB4
        refine ⟨_, rfl, datOf .short, datOf .short, hA4.dat, (hA1'.keep hB2 kp4).dat, dat_ok _, dat_ok _, _, rfl, ?_⟩
        rw [dat_eq]
        refine iteF ?_
        refine ⟨_, rfl, r, d4, _, rfl, hr4, no2 _, r, l, ns, p, rfl, hB4, _, rfl, p, p, rfl, rfl, _, rfl, ifN rfl ?_⟩
        exact ⟨_, rfl, q H4 p (kp3.trans kp4) hB4 hp⟩
    · rintro σ H0 ⟨p, v5, v6, v7, v8, rfl, kp0, hB0, hti, hp⟩
      omega
end
end Bale
set_option Elab.async false
set_option linter.all false
set_option maxRecDepth 100000
set_option maxHeartbeats 8000000
/-! The law. -/
namespace Bale
open PySem PySem.Spec PyProof.Rows L2
abbrev sLaw : Stmt := top 54
def spLaw (K : PySem.W.Frag) : Sp := fun vs H Q _ => ∃ (a : Addr) (ns : List Int), vs = [.ref a] ∧ SqL K H a (ns.map V.int) ∧ LamX.Tabs (tT K) H ∧ ∀ H', Q (.bl true) H'
structure Cals (P : Program) (w : World) (K : PySem.W.Frag) (mg : Str → Option Value) (base : Heap) : Prop where
  cell : Cal P w K mg base 1 "_law_cell_at" (spCellA K)
  lens : Cal P w K mg base 2 "_law_lengths" (spLens K)
  texts : Cal P w K mg base 2 "_law_texts" (spTexts K)
  bits : Cal P w K mg base 2 "_law_bits" (spBits K)
  row : Cal P w K mg base 4 "_law_row" spRowL
  due : Cal P w K mg base 1 "_law_due" spDue
  asked : Cal P w K mg base 5 "_law_asked" (spAsked K)
  read : Cal P w K mg base 6 "_law_read" (spRead K)
  cr : Mak P w K mg base 4 "CodeReader" (cCR K) (spCRi K)
  br : Mak P w K mg base 4 "BitReader" (cBR K) (spBRi K)
  place : Met P w K mg base 1 (cBR K) "place" (spPlace K)
  go : Met P w K mg base 2 (cBR K) "go" (spGo K)
  take : Met P w K mg base 3 (cBR K) "take" (spTake K)
theorem seq_ext {K : PySem.W.Frag} {H H' : Hp} {a : Addr} {xs : List V} (e : LamX.ExtN H H') (h : SqL K H a xs) : SqL K H' a xs := by
  rcases h with (h | ⟨o, h⟩) | h
  · exact .inl (.inl (e _ _ h fun ps z => by cases z))
  · exact .inl (.inr ⟨o, e _ _ h fun ps z => by cases z⟩)
  · exact .inr h
theorem CRAt.ext {K : PySem.W.Frag} {H H' : Hp} {c : Addr} {fs : Codes} (h : CRAt K H c fs) (e : LamX.ExtN H H') : CRAt K H' c fs := by
  obtain ⟨dk, db, n, m, ⟨dx, h1⟩, ⟨kv, e1, q1⟩, ⟨bv, e2, q2⟩⟩ := h
  exact ⟨dk, db, n, m, ⟨dx, e _ _ h1 fun ps z => by cases z⟩, ⟨kv, e _ _ e1 (fun ps z => by cases z), q1⟩, ⟨bv, e _ _ e2 (fun ps z => by cases z), q2⟩⟩
theorem CRAt.put {K : PySem.W.Frag} {H : Hp} {c d : Addr} {fs : Codes} {ys : List V} {o : HO} (h : CRAt K H c fs) (hd : H d = some (.lst ys)) : CRAt K (upd H d o) c fs := by
  obtain ⟨dk, db, n, m, ⟨dx, h1⟩, ⟨kv, e1, q1⟩, ⟨bv, e2, q2⟩⟩ := h
  exact ⟨dk, db, n, m, ⟨dx, (upd_ne (ne_of h1 hd (by intro z; cases z))).trans h1⟩, ⟨kv, (upd_ne (ne_of e1 hd (by intro z; cases z))).trans e1, q1⟩, ⟨bv, (upd_ne (ne_of e2 hd (by intro z; cases z))).trans e2, q2⟩⟩
theorem BRAt.put {K : PySem.W.Frag} {H : Hp} {r l d : Addr} {ns : List Nat} {t : Nat} {ys : List V} {o : HO} (h : BRAt K H r l ns t) (hd : H d = some (.lst ys)) (n : l ≠ d) : BRAt K (upd H d o) r l ns t := by
  obtain ⟨⟨dx, h1⟩, h2, h3⟩ := h
  exact ⟨⟨dx, (upd_ne (ne_of h1 hd (by intro z; cases z))).trans h1⟩, (upd_ne n).trans h2, h3⟩
theorem BRAt.keep {K : PySem.W.Frag} {H H' : Hp} {r l q k : Addr} {ns ns2 : List Nat} {t u : Nat} (h : BRAt K H r l ns t) (h2 : BRAt K H q k ns2 u) (n : r ≠ q) (kp : Keep q H H') : BRAt K H' r l ns t := by
  obtain ⟨⟨dx, e1⟩, e2, e3⟩ := h
  obtain ⟨⟨dy, e4⟩, _⟩ := h2
  exact ⟨⟨dx, kp _ _ e1 n⟩, kp _ _ e2 (ne_of e2 e4 (by intro z; cases z)), e3⟩
theorem lst_keep {K : PySem.W.Frag} {H H' : Hp} {a q k : Addr} {xs : List V} {ns : List Nat} {u : Nat} (h : H a = some (.lst xs)) (h2 : BRAt K H q k ns u) (kp : Keep q H H') : H' a = some (.lst xs) := by
  obtain ⟨⟨dy, e4⟩, _⟩ := h2
  exact kp _ _ h (ne_of h e4 (by intro z; cases z))
/-- what stands while the readers read -/
structure LS (K : PySem.W.Frag) (H : Hp) (lc lr lt c0 c1 r0 r1 q0 q1 b0 b1 : Addr) (f0 f1 : Codes) (by_ : List Nat) (t0 t1 : Nat) : Prop where
  lc : H lc = some (.lst [.ref c0, .ref c1])
  lr : H lr = some (.lst [.ref r0, .ref r1])
  lt : H lt = some (.lst [.ref b0, .ref b1])
  C0 : CRAt K H c0 f0
  C1 : CRAt K H c1 f1
  B0 : BRAt K H r0 q0 by_ t0
  B1 : BRAt K H r1 q1 by_ t1
  T0 : H b0 = some (.lst (f0.map txt))
  T1 : H b1 = some (.lst (f1.map txt))
  ne : r0 ≠ r1
section
variable {K : PySem.W.Frag} {H H' : Hp} {lc lr lt c0 c1 r0 r1 q0 q1 b0 b1 : Addr} {f0 f1 : Codes} {by_ : List Nat} {t0 t1 u : Nat}
theorem LS.same (F : LS K H lc lr lt c0 c1 r0 r1 q0 q1 b0 b1 f0 f1 by_ t0 t1) (s : Same H H') : LS K H' lc lr lt c0 c1 r0 r1 q0 q1 b0 b1 f0 f1 by_ t0 t1 :=
  ⟨s _ _ F.lc, s _ _ F.lr, s _ _ F.lt, F.C0.same s, F.C1.same s, F.B0.same s, F.B1.same s, s _ _ F.T0, s _ _ F.T1, F.ne⟩
theorem LS.mv0 (F : LS K H lc lr lt c0 c1 r0 r1 q0 q1 b0 b1 f0 f1 by_ t0 t1) (kp : Keep r0 H H') (hB : BRAt K H' r0 q0 by_ u) : LS K H' lc lr lt c0 c1 r0 r1 q0 q1 b0 b1 f0 f1 by_ u t1 :=
  ⟨lst_keep F.lc F.B0 kp, lst_keep F.lr F.B0 kp, lst_keep F.lt F.B0 kp, F.C0.keep F.B0 kp, F.C1.keep F.B0 kp, hB, F.B1.keep F.B0 F.ne.symm kp, lst_keep F.T0 F.B0 kp, lst_keep F.T1 F.B0 kp, F.ne⟩
theorem LS.mv1 (F : LS K H lc lr lt c0 c1 r0 r1 q0 q1 b0 b1 f0 f1 by_ t0 t1) (kp : Keep r1 H H') (hB : BRAt K H' r1 q1 by_ u) : LS K H' lc lr lt c0 c1 r0 r1 q0 q1 b0 b1 f0 f1 by_ t0 u :=
  ⟨lst_keep F.lc F.B1 kp, lst_keep F.lr F.B1 kp, lst_keep F.lt F.B1 kp, F.C0.keep F.B1 kp, F.C1.keep F.B1 kp, F.B0.keep F.B1 F.ne kp, hB, lst_keep F.T0 F.B1 kp, lst_keep F.T1 F.B1 kp, F.ne⟩
end
theorem zero_text : (("0" : Str)) = tS [48] := by decide +kernel
theorem rep_tx (k : Nat) : tS (List.replicate k 48) = tx (List.replicate k false) := by
  unfold tx
  rw [List.map_replicate]
  rfl
theorem good_of {ls : List Nat} (L : Lens ls) : Good ls (canon ls) := good_canon (order_sorted ls) L.le L.k
theorem coded {ls : List Nat} (L : Lens ls) : ∃ (p : Nat) (x : Nat × Nat), (canon ls)[p]? = some (some x) := by
  obtain ⟨l, hm, h0⟩ := L.some
  obtain ⟨p, hp, e⟩ := List.mem_iff_getElem.mp hm
  have el : lenAt ls p = l := by
    have := lenAt_get hp
    rw [List.getElem?_eq_getElem hp, e] at this
    exact (Option.some.inj this).symm
  obtain ⟨c, h⟩ := (good_of L).all p (by rw [el]; exact Nat.ne_of_gt h0)
  exact ⟨p, _, h⟩
section
variable {P : Program} {w : World} {K : PySem.W.Frag} {mg : Str → Option Value} {base : Heap}
abbrev nmLaw : List Str := ["_law_script", "_law_lengths_here", "_law_k", "_law_many", "_law_handed", "_law_codes_here", "_law_row_here", "_law_texts_here", "_law_bits_here", "_law_ahead", "_law_whole", "_law_readers", "_law_at", "_law_turn", "_law_found"]
theorem scLaw : FnScope nmLaw ["_law_script"] (defScope sLaw) := ⟨rfl, rfl, rfl, by decide +kernel, rfl, by decide +kernel, by decide +kernel⟩
theorem ok_law {f : Addr} {fd : FuncData} (F : FnP K "law" "law" sLaw f fd) (T : Tx mg) (C : Cals P w K mg base) : FnOk P w K mg base CX0 7 f fd ["_law_script"] (spLaw K) := by
  refine fnp_ok F scLaw (fun vs H Q E h => ?_) (fun cdv A outer s H vs Q E hr h => ?_)
  · obtain ⟨a, ns, rfl, _⟩ := h
    rfl
  · obtain ⟨a, ns, rfl, hS, hT, q⟩ := h
    have hu := hr.units
    refine ⟨_, pss_cons (ps_set (i := 1) scLaw.nd rfl (.inl rfl) (pe_lst pa_nil))
      (pss_cons (ps_for PassesOwn.never rfl (pi_range1 (by rfl) T.range (pa_cons pe_int pa_nil)) (pg_name (i := 2) scLaw.nd rfl (.inl rfl))
        (pss_cons (ps_set (i := 3) scLaw.nd rfl (.inl rfl) (pe_op n_add (pe_n 1) (pe_op m_mod (pe_f C.cell hr (by decide) (by rfl) (pa_cons (pv 0) (pa_cons (pv 2) pa_nil))) (pe_n 14))))
        (pss_cons (ps_if (pt_cmpR n_eq (pe_op m_mod (pe_op op_fdiv (pe_f C.cell hr (by decide) (by rfl) (pa_cons (pv 0) (pa_cons (pv 2) pa_nil))) (pe_n 168)) (pe_n 8)) (pe_n 1) (nomark _))
          (pss_one (ps_set (i := 3) scLaw.nd rfl (.inl rfl) (pe_op n_add (pe_n 15) (pe_op m_mod (pe_op op_fdiv (pe_f C.cell hr (by decide) (by rfl) (pa_cons (pv 0) (pa_cons (pv 2) pa_nil))) (pe_n 1344)) (pe_n 286))))) pss_nil)
        (pss_one (ps_expr (pe_bm PySem.F.plainAttrs_list PySem.F.slot_list_append PySem.F.type_list_append mt_append (pv 1) (pa_cons (pe_f C.lens hr (by decide) (by rfl) (pa_cons (pv 0) (pa_cons (pe_op n_add (pe_n 3) (pe_op n_mul (pe_n 20) (pv 2))) (pa_cons (pv 3)
          (pa_cons (pe_op n_add (pe_n 1) (pe_op m_mod (pe_op op_fdiv (pe_f C.cell hr (by decide) (by rfl) (pa_cons (pv 0) (pa_cons (pv 2) pa_nil))) (pe_n 14)) (pe_n 12))) pa_nil))))) pa_nil)))))))
      (pss_cons (ps_set (i := 4) scLaw.nd rfl (.inl rfl) (pe_lst (pa_cons (pe_callTy call_list_of (by rfl) T.list boot_list (pa_cons (pe_ix n_ix (pv 1) (pe_n 0) (fun _ _ => rfl)) pa_nil)) (pa_cons (pe_callTy call_list_of (by rfl) T.list boot_list (pa_cons (pe_ix n_ix (pv 1) (pe_n 1) (fun _ _ => rfl)) pa_nil)) pa_nil))))
      (pss_cons (ps_set (i := 5) scLaw.nd rfl (.inl rfl) (pe_lst (pa_cons (pe_new C.cr hr (by decide) (by rfl) (pa_cons (pe_ix n_ix (pv 4) (pe_n 0) (fun _ _ => rfl)) pa_nil)) (pa_cons (pe_new C.cr hr (by decide) (by rfl) (pa_cons (pe_ix n_ix (pv 4) (pe_n 1) (fun _ _ => rfl)) pa_nil)) pa_nil))))
      (pss_cons (ps_for PassesOwn.never rfl (pi_list (pv 4)) (pg_name (i := 6) scLaw.nd rfl (.inl rfl)) (pss_one (ps_expr (pe_bm0 PySem.F.plainAttrs_list PySem.F.slot_list_clear PySem.F.type_list_clear mt_clear (pv 6)))))
      (pss_cons (ps_set (i := 7) scLaw.nd rfl (.inl rfl) (pe_lst (pa_cons (pe_f C.texts hr (by decide) (by rfl) (pa_cons (pe_ix n_ix (pv 1) (pe_n 0) (fun _ _ => rfl)) pa_nil)) (pa_cons (pe_f C.texts hr (by decide) (by rfl) (pa_cons (pe_ix n_ix (pv 1) (pe_n 1) (fun _ _ => rfl)) pa_nil)) pa_nil))))
      (pss_cons (ps_asg (pe_f C.bits hr (by decide) (by rfl) (pa_cons (pv 0) (pa_cons (pe_ix n_ix (pv 7) (pe_n 0) (fun _ _ => rfl)) pa_nil))) (pg_tup rfl (pgs_cons (pg_name (i := 8) scLaw.nd rfl (.inl rfl)) (pgs_cons (pg_name (i := 9) scLaw.nd rfl (.inl rfl)) pgs_nil))))
      (pss_cons (ps_set (i := 6) scLaw.nd rfl (.inl rfl) (pe_f C.row hr (by decide) (by rfl) (pa_cons (pv 8) pa_nil)))
      (pss_cons (ps_set (i := 10) scLaw.nd rfl (.inl rfl) (pe_op op_add_str (pv 8) (pe_op n_rep pe_str (pe_op n_sub (pe_op n_mul (pe_n 8) (pe_callB n_len (by rfl) T.len boot_len (pa_cons (pv 6) pa_nil))) (pe_callB call_len_str (by rfl) T.len boot_len (pa_cons (pv 8) pa_nil))))))
      (pss_cons (ps_set (i := 11) scLaw.nd rfl (.inl rfl) (pe_lst (pa_cons (pe_new C.br hr (by decide) (by rfl) (pa_cons (pv 6) pa_nil)) (pa_cons (pe_new C.br hr (by decide) (by rfl) (pa_cons (pv 6) pa_nil)) pa_nil))))
      (pss_cons (ps_expr (pe_bm0 PySem.F.plainAttrs_list PySem.F.slot_list_clear PySem.F.type_list_clear mt_clear (pv 6)))
      (pss_cons (ps_expr (pe_m C.take hr (by decide) (pe_ix n_ix (pv 11) (pe_n 0) (fun _ _ => rfl)) (pa_cons (pv 9) pa_nil)))
      (pss_cons (ps_set (i := 12) scLaw.nd rfl (.inl rfl) (pe_n 0))
      (pss_cons (ps_for PassesOwn.never rfl (pi_range1 (by rfl) T.range (pa_cons pe_int pa_nil)) (pg_name (i := 13) scLaw.nd rfl (.inl rfl))
        (pss_cons (ps_asg (pe_f C.due hr (by decide) (by rfl) (pa_cons (pe_ix n_ix (pv 7) (pe_n 1) (fun _ _ => rfl)) (pa_cons (pv 10) (pa_cons (pv 12) pa_nil)))) (pg_tup rfl (pgs_cons (pg_name (i := 14) scLaw.nd rfl (.inl rfl)) (pgs_cons (pg_name (i := 12) scLaw.nd rfl (.inl rfl)) pgs_nil))))
        (pss_one (ps_if (PW.pt (pw_or (pt_cmpR (op_neD hu) (pe_f C.asked hr (by decide) (by rfl) (pa_cons (pe_ix n_ix (pv 5) (pe_n 1) (fun _ _ => rfl)) (pa_cons (pe_ix n_ix (pv 11) (pe_n 1) (fun _ _ => rfl)) pa_nil))) (pv 14) (nomark _))
            (pw_or1 (pt_cmpR n_ne (pe_m0 C.place hr (by decide) (pe_ix n_ix (pv 11) (pe_n 1) (fun _ _ => rfl))) (pv 12) (nomark _))))) (pss_one (ps_ret pe_bl)) pss_nil))))
      (pss_cons (ps_if (pt_cmpR op_isN (pe_f C.read hr (by decide) (by rfl) (pa_cons (pe_ix n_ix (pv 5) (pe_n 0) (fun _ _ => rfl)) (pa_cons (pe_ix n_ix (pv 11) (pe_n 0) (fun _ _ => rfl)) (pa_cons (pe_ix n_ix (pv 7) (pe_n 0) (fun _ _ => rfl)) (pa_cons (pv 10) (pa_cons (pv 9) pa_nil)))))) pe_non (nomark _)) (pss_one (ps_ret pe_bl)) pss_nil)
      (pss_cons (ps_expr (pe_m C.go hr (by decide) (pe_ix n_ix (pv 11) (pe_n 0) (fun _ _ => rfl)) (pa_cons (pe_n 0) pa_nil)))
      (pss_cons (ps_if (pt_cmpR op_isN (pe_f C.read hr (by decide) (by rfl) (pa_cons (pe_ix n_ix (pv 5) (pe_n 1) (fun _ _ => rfl)) (pa_cons (pe_ix n_ix (pv 11) (pe_n 0) (fun _ _ => rfl)) (pa_cons (pe_ix n_ix (pv 7) (pe_n 1) (fun _ _ => rfl)) (pa_cons (pv 10) (pa_cons (pe_n 0) pa_nil)))))) pe_non (nomark _)) (pss_one (ps_ret pe_bl)) pss_nil)
      (pss_cons (ps_expr (pe_m C.go hr (by decide) (pe_ix n_ix (pv 11) (pe_n 1) (fun _ _ => rfl)) (pa_cons (pv 9) pa_nil)))
      (pss_one (ps_ret (pe_cmpR op_notN (pe_f C.read hr (by decide) (by rfl) (pa_cons (pe_ix n_ix (pv 5) (pe_n 0) (fun _ _ => rfl)) (pa_cons (pe_ix n_ix (pv 11) (pe_n 1) (fun _ _ => rfl)) (pa_cons (pe_ix n_ix (pv 7) (pe_n 0) (fun _ _ => rfl)) (pa_cons (pv 10) (pa_cons (pv 9) pa_nil)))))) pe_non (nomark _))))))))))))))))))))), ?_⟩
    have two : 2 ≤ sizeLine := by decide
    refine ⟨Nat.zero_le _, fun l0 hl0 => ?_⟩
    -- the lengths
    refine ⟨2, rfl, by decide, by decide, for_range (lo := 0) (n := 2) (fun i σ H' => ∃ (xs : List V) (v2 v3 : Option V), σ = [some (.ref a), some (.ref l0), v2, v3, none, none, none, none, none, none, none, none, none, none, none] ∧ Same H H' ∧ H' l0 = some (.lst xs) ∧ xs.length = i ∧ ∀ x ∈ xs, ∃ (b : Addr) (ls : List Nat), x = .ref b ∧ H' b = some (.lst (ls.map nV)) ∧ Lens ls ∧ b ≠ l0)
      ⟨[], none, none, rfl, (Same.refl H).new hl0, upd_same, rfl, fun x hx => absurd hx List.not_mem_nil⟩ ?_ ?_⟩
    · rintro i σ H' hi ⟨xs, v2, v3, rfl, s1, hl1, hlen, hxs⟩
      have ei : V.int (0 + (i : Int)) = nV i := congrArg V.int (Int.zero_add _)
      rw [ei]
      have hsz : xs.length < sizeLine := by
        rw [hlen]
        exact Nat.lt_of_lt_of_le hi two
      have fin : ∀ (H2 : Hp) (p : Addr) (ls : List Nat) (v3 : Option V), Same H' H2 → H' p = none → H2 p = some (.lst (ls.map nV)) → Lens ls → ∃ (l : Addr) (xs1 : List V) (y : V), V.ref l0 = .ref l ∧ [V.ref p] = [y] ∧ H2 l = some (.lst xs1) ∧ xs1.length < sizeLine ∧
          ∃ (ys : List V) (v2 v3' : Option V), [some (.ref a), some (.ref l0), some (nV i), v3, none, none, none, none, none, none, none, none, none, none, none] = [some (.ref a), some (.ref l0), v2, v3', none, none, none, none, none, none, none, none, none, none, none] ∧ Same H (upd H2 l (.lst (xs1 ++ [y]))) ∧ upd H2 l (.lst (xs1 ++ [y])) l0 = some (.lst ys) ∧ ys.length = i + 1 ∧ ∀ x ∈ ys, ∃ (b : Addr) (ls : List Nat), x = .ref b ∧ upd H2 l (.lst (xs1 ++ [y])) b = some (.lst (ls.map nV)) ∧ Lens ls ∧ b ≠ l0 := by
        intro H2 p ls v3 s2 hp0 hp L
        have npl : p ≠ l0 := (ne_of_none hl1 hp0).symm
        refine ⟨l0, xs, .ref p, rfl, rfl, s2 _ _ hl1, hsz, xs ++ [.ref p], _, _, rfl, (s1.trans s2).put hl0, upd_same, by rw [List.length_append, hlen]; rfl, fun x hx => ?_⟩
        rcases List.mem_append.mp hx with h | h
        · obtain ⟨b, ls', e1, e2, e3, e4⟩ := hxs x h
          exact ⟨b, ls', e1, (upd_ne e4).trans (s2 _ _ e2), e3, e4⟩
        · exact ⟨p, ls, List.mem_singleton.mp h, (upd_ne npl).trans hp, L, npl⟩
      refine ⟨_, rfl, _, rfl, a, ns, i, rfl, s1.seq hS, fun z1 => ⟨z1, 14, rfl, rfl, (by show (0 : Nat) < 14; decide), fun m1 hm1 => ⟨1, m1, rfl, rfl, ?_⟩⟩⟩
      refine ⟨_, rfl, _, rfl, a, ns, i, rfl, s1.seq hS, fun z2 => ⟨z2, 168, rfl, rfl, ⟨by decide, by decide⟩, z2 / 168, 8, rfl, rfl, (by show (0 : Nat) < 8; decide), fun m2 hm2 => ⟨m2, 1, rfl, rfl, _, rfl, ?_⟩⟩⟩
      refine ite2 (fun c => ?_) (fun c => ?_)
      · refine ⟨_, rfl, _, rfl, a, ns, i, rfl, s1.seq hS, fun z4 => ⟨z4, 1344, rfl, rfl, ⟨by decide, by decide⟩, z4 / 1344, 286, rfl, rfl, (by show (0 : Nat) < 286; decide), fun m4 hm4 => ⟨15, m4, rfl, rfl, ?_⟩⟩⟩
        exact ⟨_, rfl, .inl ⟨rfl, _, SqL.of hl1⟩, _, rfl, _, rfl, 20, i, rfl, rfl, .inl (by decide), 3, 20 * i, rfl, rfl, _, rfl, _, rfl, _, rfl, a, ns, i, rfl, s1.seq hS, fun z3 => ⟨z3, 14, rfl, rfl, ⟨by decide, by decide⟩, z3 / 14, 12, rfl, rfl, (by show (0 : Nat) < 12; decide), fun m3 hm3 => ⟨1, m3, rfl, rfl, a, ns, 3 + 20 * i, 15 + m4, 1 + m3, rfl, s1.seq hS, by omega, by omega, by omega, by omega, fun H2 p ls s2 hp0 hp L => fin H2 p ls _ s2 hp0 hp L⟩⟩⟩
      · exact ⟨_, rfl, .inl ⟨rfl, _, SqL.of hl1⟩, _, rfl, _, rfl, 20, i, rfl, rfl, .inl (by decide), 3, 20 * i, rfl, rfl, _, rfl, _, rfl, _, rfl, a, ns, i, rfl, s1.seq hS, fun z3 => ⟨z3, 14, rfl, rfl, ⟨by decide, by decide⟩, z3 / 14, 12, rfl, rfl, (by show (0 : Nat) < 12; decide), fun m3 hm3 => ⟨1, m3, rfl, rfl, a, ns, 3 + 20 * i, 1 + m1, 1 + m3, rfl, s1.seq hS, by omega, by omega, by omega, by omega, fun H2 p ls s2 hp0 hp L => fin H2 p ls _ s2 hp0 hp L⟩⟩⟩
    rintro σ H1 ⟨xs, v2, v3, rfl, s1, hl1, hlen, hxs⟩
    obtain ⟨x0, x1, rfl⟩ : ∃ x0 x1, xs = [x0, x1] := by
      match xs, hlen with
      | [x0, x1], _ => exact ⟨_, _, rfl⟩
    obtain ⟨a0, ls0, rfl, ha0, L0, _⟩ := hxs x0 (by simp)
    obtain ⟨a1, ls1, rfl, ha1, L1, _⟩ := hxs x1 (by simp)
    clear hxs hlen
    have hT1 := tab_same hT s1
    have hS1 := s1.seq hS
    -- the lists that are handed in
    refine ⟨_, rfl, l0, _, 0, .ref a0, rfl, rfl, SqL.of hl1, rfl, a0, _, rfl, .inl (SqL.of ha0), fun p0 hp0 => ?_⟩
    have sa : Same H1 (upd H1 p0 (.lst (ls0.map nV))) := (Same.refl H1).new hp0
    refine ⟨_, rfl, l0, _, 1, .ref a1, rfl, rfl, SqL.of (sa _ _ hl1), rfl, a1, _, rfl, .inl (SqL.of (sa _ _ ha1)), fun p1 hp1 => ⟨two, fun h hh => ?_⟩⟩
    have n01 : p0 ≠ p1 := ne_of_none upd_same hp1
    have nh1 : p1 ≠ h := ne_of_none upd_same hh
    have nh0 : p0 ≠ h := ne_of_none ((upd_ne n01).trans upd_same) hh
    have hp10 : H1 p1 = Option.none := by
      rw [upd_ne n01.symm] at hp1
      exact hp1
    have s2 := (sa.new (o := .lst (ls1.map nV)) hp1).new (o := .lst [.ref p0, .ref p1]) hh
    have hh2 : upd (upd (upd H1 p0 (.lst (ls0.map nV))) p1 (.lst (ls1.map nV))) h (.lst [.ref p0, .ref p1]) h = some (.lst [.ref p0, .ref p1]) := upd_same
    have hp02 : upd (upd (upd H1 p0 (.lst (ls0.map nV))) p1 (.lst (ls1.map nV))) h (.lst [.ref p0, .ref p1]) p0 = some (.lst (ls0.map nV)) := (upd_ne nh0).trans ((upd_ne n01).trans upd_same)
    have hp12 : upd (upd (upd H1 p0 (.lst (ls0.map nV))) p1 (.lst (ls1.map nV))) h (.lst [.ref p0, .ref p1]) p1 = some (.lst (ls1.map nV)) := (upd_ne nh1).trans upd_same
    generalize upd (upd (upd H1 p0 (.lst (ls0.map nV))) p1 (.lst (ls1.map nV))) h (.lst [.ref p0, .ref p1]) = H2 at s2 hh2 hp02 hp12 ⊢
    clear hh
    have G0 := good_of L0
    have G1 := good_of L1
    -- the readers of codes
    refine ⟨_, rfl, h, _, 0, .ref p0, rfl, rfl, SqL.of hh2, rfl, fun c0 dx0 hc0 hdx0 hne0 => ?_⟩
    have sm0 : Same H2 (upd (upd H2 dx0 (.own c0)) c0 (.ins (cCR K) dx0 [])) := ((Same.refl H2).new hdx0).new (by rw [upd_ne hne0.symm]; exact hc0)
    refine ⟨c0, dx0, p0, ls0, rfl, upd_same, sm0 _ _ hp02, L0, G0, tab_same (tab_same hT1 s2) sm0, fun H3 hC03 hX3 hT3 => ⟨rfl, ?_⟩⟩
    have eN3 : LamX.ExtN H2 H3 := fun b o e nt => hX3 _ _ (sm0 _ _ e) (ne_of_none e hc0) nt
    have hh3 : H3 h = some (.lst [.ref p0, .ref p1]) := eN3 _ _ hh2 fun ps z => by cases z
    have hp03 : H3 p0 = some (.lst (ls0.map nV)) := eN3 _ _ hp02 fun ps z => by cases z
    have hp13 : H3 p1 = some (.lst (ls1.map nV)) := eN3 _ _ hp12 fun ps z => by cases z
    refine ⟨_, rfl, h, _, 1, .ref p1, rfl, rfl, SqL.of hh3, rfl, fun c1 dx1 hc1 hdx1 hne1 => ?_⟩
    have sm1 : Same H3 (upd (upd H3 dx1 (.own c1)) c1 (.ins (cCR K) dx1 [])) := ((Same.refl H3).new hdx1).new (by rw [upd_ne hne1.symm]; exact hc1)
    refine ⟨c1, dx1, p1, ls1, rfl, upd_same, sm1 _ _ hp13, L1, G1, tab_same hT3 sm1, fun H4 hC14 hX4 hT4 => ⟨rfl, two, fun lc hlc => ?_⟩⟩
    have eN4 : LamX.ExtN H3 H4 := fun b o e nt => hX4 _ _ (sm1 _ _ e) (ne_of_none e hc1) nt
    have s5 : Same H4 (upd H4 lc (.lst [.ref c0, .ref c1])) := (Same.refl H4).new hlc
    have eN5 : LamX.ExtN H1 (upd H4 lc (.lst [.ref c0, .ref c1])) := fun b o e nt => s5 _ _ (eN4 _ _ (eN3 _ _ (s2 _ _ e) nt) nt)
    have hh4 : H4 h = some (.lst [.ref p0, .ref p1]) := eN4 _ _ hh3 fun ps z => by cases z
    have hp04 : H4 p0 = some (.lst (ls0.map nV)) := eN4 _ _ hp03 fun ps z => by cases z
    have hp14 : H4 p1 = some (.lst (ls1.map nV)) := eN4 _ _ hp13 fun ps z => by cases z
    have nc0 : lc ≠ p0 := (ne_of_none hp04 hlc).symm
    have nc1 : lc ≠ p1 := (ne_of_none hp14 hlc).symm
    have hC05 := (hC03.ext eN4).same s5
    have hC15 := hC14.same s5
    have hlc5 : upd H4 lc (.lst [.ref c0, .ref c1]) lc = some (.lst [.ref c0, .ref c1]) := upd_same
    have hh5 := s5 _ _ hh4
    have hp05 := s5 _ _ hp04
    have hp15 := s5 _ _ hp14
    generalize upd H4 lc (.lst [.ref c0, .ref c1]) = H5 at eN5 hC05 hC15 hlc5 hh5 hp05 hp15 ⊢
    -- what was handed in is emptied
    refine ⟨_, rfl, h, rfl, ⟨_, SqL.of hh5⟩, for_list (K := K) (a := h) (xs := [.ref p0, .ref p1]) (fun i σ H' => ∃ v6 : Option V, σ = [some (.ref a), some (.ref l0), v2, v3, some (.ref h), some (.ref lc), v6, none, none, none, none, none, none, none, none] ∧ LamX.ExtN H1 H' ∧ H' h = some (.lst [.ref p0, .ref p1]) ∧ H' lc = some (.lst [.ref c0, .ref c1]) ∧ CRAt K H' c0 (canon ls0) ∧ CRAt K H' c1 (canon ls1) ∧ (∃ ys, H' p0 = some (.lst ys)) ∧ ∃ ys, H' p1 = some (.lst ys))
      ⟨none, rfl, eN5, hh5, hlc5, hC05, hC15, ⟨_, hp05⟩, ⟨_, hp15⟩⟩ (fun i σ H' _ ⟨_, _, _, e, _⟩ => SqL.of e) ?_ ?_⟩
    · rintro i y σ H' hi ⟨v6, rfl, eN', hh', hlc', hC0', hC1', ⟨y0, hy0⟩, ⟨y1, hy1⟩⟩
      have hy : y = .ref p0 ∨ y = .ref p1 := by
        have := List.mem_of_getElem? hi
        simpa using this
      rcases hy with rfl | rfl
      · exact ⟨_, rfl, .inl ⟨rfl, _, SqL.of hy0⟩, p0, y0, rfl, rfl, hy0, _, rfl, ext_put eN' hp0, (upd_ne nh0.symm).trans hh', (upd_ne nc0).trans hlc', hC0'.put hy0, hC1'.put hy0, ⟨_, upd_same⟩, ⟨_, (upd_ne n01.symm).trans hy1⟩⟩
      · exact ⟨_, rfl, .inl ⟨rfl, _, SqL.of hy1⟩, p1, y1, rfl, rfl, hy1, _, rfl, ext_put eN' hp10, (upd_ne nh1.symm).trans hh', (upd_ne nc1).trans hlc', hC0'.put hy1, hC1'.put hy1, ⟨_, (upd_ne n01).trans hy0⟩, ⟨_, upd_same⟩⟩
    rintro σ H6 ⟨v6, rfl, eN6, _, hlc6, hC06, hC16, _, _⟩
    have hl6 : H6 l0 = some (.lst [.ref a0, .ref a1]) := eN6 _ _ hl1 fun ps z => by cases z
    have ha06 : H6 a0 = some (.lst (ls0.map nV)) := eN6 _ _ ha0 fun ps z => by cases z
    have ha16 : H6 a1 = some (.lst (ls1.map nV)) := eN6 _ _ ha1 fun ps z => by cases z
    have hS6 := seq_ext eN6 hS1
    -- the texts
    refine ⟨_, rfl, l0, _, 0, .ref a0, rfl, rfl, SqL.of hl6, rfl, a0, ls0, rfl, SqL.of ha06, L0.n300, G0, fun H7 b0 s7 hb0n hb0 => ?_⟩
    refine ⟨_, rfl, l0, _, 1, .ref a1, rfl, rfl, SqL.of (s7 _ _ hl6), rfl, a1, ls1, rfl, SqL.of (s7 _ _ ha16), L1.n300, G1, fun H8 b1 s8 hb1n hb1 => ⟨two, fun lt hlt => ?_⟩⟩
    have s9 : Same H8 (upd H8 lt (.lst [.ref b0, .ref b1])) := (Same.refl H8).new hlt
    have s69 := (s7.trans s8).trans s9
    have hlt9 : upd H8 lt (.lst [.ref b0, .ref b1]) lt = some (.lst [.ref b0, .ref b1]) := upd_same
    have hb09 := s9 _ _ (s8 _ _ hb0)
    have hb19 := s9 _ _ hb1
    generalize upd H8 lt (.lst [.ref b0, .ref b1]) = H9 at s9 s69 hlt9 hb09 hb19 ⊢
    obtain ⟨pp, xx, hpx⟩ := coded L0
    -- the bits
    refine ⟨_, rfl, _, rfl, lt, _, 0, .ref b0, rfl, rfl, SqL.of hlt9, rfl, a, ns, b0, canon ls0, pp, xx, rfl, s69.seq hS6, hb09, G0.f L0.n300, hpx, fun H10 rr bs n s10 hrr hn hn3 hbl => ⟨rr, _, rfl, SqT.of hrr, rfl, _, _, rfl, _, _, rfl, rfl, ?_⟩⟩
    -- the row
    refine ⟨_, rfl, bs, rfl, hbl, fun H11 pr bytes s11 hpr0 hpr hby hle hle2 hbits => ?_⟩
    have s61 := (s69.trans s10).trans s11
    have hszb : (tx bs).length ≤ sizeLine := by
      rw [tx_len]
      exact Nat.le_trans hbl (by decide)
    have hlb : (tx bs).length ≤ 8 * bytes.length := by
      rw [tx_len]
      exact hle
    refine ⟨_, rfl, _, rfl, pr, bytes, rfl, SqL.of hpr, 8, bytes.length, rfl, rfl, .inl (by decide), _, rfl, tx bs, rfl, hszb, 8 * bytes.length, (tx bs).length, rfl, rfl, hlb, 48, 8 * bytes.length - (tx bs).length, congrArg V.str zero_text, rfl, by omega, tx bs, tS (List.replicate (8 * bytes.length - (tx bs).length) 48), rfl, rfl, ?_, ?_⟩
    · rw [rep_tx, tx_len, tx_len, List.length_replicate]
      exact Nat.le_trans (by omega : bs.length + (8 * bytes.length - bs.length) ≤ 100000) (by decide)
    have ew : tx bs ++ tS (List.replicate (8 * bytes.length - (tx bs).length) 48) = tx (bytesBits bytes) := by
      rw [rep_tx, tx_cat, tx_len, hbits]
    rw [ew]
    have hlen : bytes.length ≤ 10000 := by omega
    -- the readers
    refine ⟨_, rfl, fun r0 dy0 hr0 hdy0 hny0 => ?_⟩
    have sn0 : Same H11 (upd (upd H11 dy0 (.own r0)) r0 (.ins (cBR K) dy0 [])) := ((Same.refl H11).new hdy0).new (by rw [upd_ne hny0.symm]; exact hr0)
    refine ⟨r0, dy0, pr, bytes, rfl, upd_same, sn0 _ _ hpr, hby, by omega, fun H12 q0 hB0 hq0 kp0 => ⟨rfl, ?_⟩⟩
    have s12 : Same H11 H12 := fun b o e => kp0 _ _ (sn0 _ _ e) (ne_of_none e hr0)
    have npq0 : q0 ≠ pr := (ne_of_none (sn0 _ _ hpr) hq0).symm
    refine ⟨_, rfl, fun r1 dy1 hr1 hdy1 hny1 => ?_⟩
    have sn1 : Same H12 (upd (upd H12 dy1 (.own r1)) r1 (.ins (cBR K) dy1 [])) := ((Same.refl H12).new hdy1).new (by rw [upd_ne hny1.symm]; exact hr1)
    have hpr12 := s12 _ _ hpr
    refine ⟨r1, dy1, pr, bytes, rfl, upd_same, sn1 _ _ hpr12, hby, by omega, fun H13 q1 hB1 hq1 kp1 => ⟨rfl, two, fun lr hlr => ?_⟩⟩
    have s13 : Same H12 H13 := fun b o e => kp1 _ _ (sn1 _ _ e) (ne_of_none e hr1)
    have npq1 : q1 ≠ pr := (ne_of_none (sn1 _ _ hpr12) hq1).symm
    have n01r : r0 ≠ r1 := by
      obtain ⟨⟨dd, e⟩, _⟩ := hB0
      exact ne_of_none e hr1
    have s14 : Same H13 (upd H13 lr (.lst [.ref r0, .ref r1])) := (Same.refl H13).new hlr
    have hpr13 := s13 _ _ hpr12
    have nlr : lr ≠ pr := (ne_of_none hpr13 hlr).symm
    have hpr14 := s14 _ _ hpr13
    have s6e := ((s61.trans s12).trans s13).trans s14
    have nlc : lc ≠ pr := ne_of_none (s10 _ _ (s69 _ _ hlc6)) hpr0
    have nlt : lt ≠ pr := ne_of_none (s10 _ _ hlt9) hpr0
    have nb0 : b0 ≠ pr := ne_of_none (s10 _ _ hb09) hpr0
    have nb1 : b1 ≠ pr := ne_of_none (s10 _ _ hb19) hpr0
    have s9e := (((s10.trans s11).trans s12).trans s13).trans s14
    refine ⟨_, rfl, .inl ⟨rfl, _, SqL.of hpr14⟩, pr, _, rfl, rfl, hpr14, ?_⟩
    have F0 : LS K (upd (upd H13 lr (.lst [.ref r0, .ref r1])) pr (.lst [])) lc lr lt c0 c1 r0 r1 q0 q1 b0 b1 (canon ls0) (canon ls1) bytes 0 0 :=
      ⟨(upd_ne nlc).trans (s6e _ _ hlc6), (upd_ne nlr).trans upd_same, (upd_ne nlt).trans (s9e _ _ hlt9), (hC06.same s6e).put hpr14, (hC16.same s6e).put hpr14, ((hB0.same s13).same s14).put hpr14 npq0, (hB1.same s14).put hpr14 npq1, (upd_ne nb0).trans (s9e _ _ hb09), (upd_ne nb1).trans (s9e _ _ hb19), n01r⟩
    generalize upd (upd H13 lr (.lst [.ref r0, .ref r1])) pr (.lst []) = H15 at F0 ⊢
    have G0f := G0.f L0.n300
    have G1f := G1.f L1.n300
    have hLb : (bytesBits bytes).length = 8 * bytes.length := bytesBits_length bytes
    clear s6e s9e s61 s69 s10 s11 s12 s13 s14 s7 s8 s9
    have no1 : ∀ (l : Addr) (t : Nat), (brF l t).lookup (("take" : Str)) = none := fun l t => br_no _ _ (by decide +kernel) (by decide +kernel)
    have no2 : ∀ (l : Addr) (t : Nat), (brF l t).lookup (("place" : Str)) = none := fun l t => br_no _ _ (by decide +kernel) (by decide +kernel)
    have no3 : ∀ (l : Addr) (t : Nat), (brF l t).lookup (("go" : Str)) = none := fun l t => br_no _ _ (by decide +kernel) (by decide +kernel)
    -- the bits that were put ahead
    obtain ⟨⟨d15, e15⟩, _⟩ := id F0.B0
    refine ⟨_, rfl, lr, _, 0, .ref r0, rfl, rfl, SqL.of F0.lr, rfl, r0, d15, _, rfl, e15, no1 _ _, _, rfl, r0, q0, bytes, 0, n, rfl, F0.B0, hn3, by omega, fun H16 m hB16 kp16 _ => ?_⟩
    rw [Nat.zero_add] at hB16
    have F1 := F0.mv0 kp16 hB16
    have hnL : n ≤ 8 * bytes.length := Nat.le_trans hn hle
    -- four things by the other reader
    refine ⟨4, rfl, by decide, by decide, for_range (lo := 0) (n := 4) (fun i σ H' => ∃ (p : Nat) (v13 v14 : Option V), σ = [some (.ref a), some (.ref l0), v2, v3, some (.ref h), some (.ref lc), some (.ref pr), some (.ref lt), some (.str (tx bs)), some (nV n), some (.str (tx (bytesBits bytes))), some (.ref lr), some (nV p), v13, v14] ∧ LS K H' lc lr lt c0 c1 r0 r1 q0 q1 b0 b1 (canon ls0) (canon ls1) bytes n p ∧ p ≤ 8 * bytes.length)
      ⟨0, none, none, rfl, F1, Nat.zero_le _⟩ ?_ ?_⟩
    · rintro i σ Ha hi ⟨p, v13, v14, rfl, Fa, hp⟩
      refine ⟨_, rfl, lt, _, 1, .ref b1, rfl, rfl, SqL.of Fa.lt, rfl, _, rfl, _, rfl, b1, canon ls1, bytesBits bytes, p, rfl, Fa.T1, G1f, by omega, by omega, fun Hb qb xb sb hAb hqb => ⟨qb, _, rfl, SqT.of hqb, rfl, _, _, rfl, _, _, rfl, rfl, ?_⟩⟩
      have Fb := Fa.same sb
      refine ⟨_, rfl, lc, _, 1, .ref c1, rfl, rfl, SqL.of Fb.lc, rfl, _, rfl, lr, _, 1, .ref r1, rfl, rfl, SqL.of Fb.lr, rfl, c1, r1, q1, canon ls1, bytes, p, rfl, Fb.C1, G1f, Fb.B1, hp, fun Hc xc kpc hAc hBc => ?_⟩
      have hAb' := hAb.keep Fb.B1 kpc
      have Fc := Fb.mv1 kpc hBc
      obtain ⟨d, hd⟩ : ∃ d, due (canon ls1) [] ((bytesBits bytes).drop p) = d := ⟨_, rfl⟩
      rw [hd] at hAc hBc hAb' Fc
      rw [hd]
      obtain ⟨⟨dc, ec⟩, _⟩ := id hBc
      have hend : endOf p d ≤ 8 * bytes.length := by
        cases d with
        | thing p' n =>
          have := (due_thing hd).2.2
          rw [List.length_drop, hLb] at this
          show p + n ≤ _
          have h0 : ([] : List Bool).length = 0 := rfl
          omega
        | bad => exact hp
        | short => exact hp
      refine ⟨_, rfl, datOf d, datOf d, hAc.dat, hAb'.dat, dat_ok d, dat_ok d, _, rfl, ?_⟩
      rw [dat_eq]
      refine iteF ?_
      refine ⟨_, rfl, lr, _, 1, .ref r1, rfl, rfl, SqL.of Fc.lr, rfl, r1, dc, _, rfl, ec, no2 _ _, r1, q1, bytes, endOf p d, rfl, hBc, _, rfl, endOf p d, endOf p d, rfl, rfl, _, rfl, ifN rfl ?_⟩
      exact ⟨endOf p d, _, _, rfl, Fc, hend⟩
    rintro σ Ha ⟨p, v13, v14, rfl, Fa, hp⟩
    -- the first reader reads on
    refine ⟨_, rfl, lc, _, 0, .ref c0, rfl, rfl, SqL.of Fa.lc, rfl, _, rfl, lr, _, 0, .ref r0, rfl, rfl, SqL.of Fa.lr, rfl, _, rfl, lt, _, 0, .ref b0, rfl, rfl, SqL.of Fa.lt, rfl, _, rfl, _, rfl, c0, r0, b0, q0, canon ls0, bytes, n, rfl, Fa.C0, G0f, Fa.B0, hnL, hlen, Fa.T0, fun Hb pb kpb hBb hpb => ⟨rfl, _, rfl, ifF (c := nV pb = .non) (fun e => nomatch e) ?_⟩⟩
    have Fb := Fa.mv0 kpb hBb
    obtain ⟨⟨db, eb⟩, _⟩ := id Fb.B0
    refine ⟨_, rfl, lr, _, 0, .ref r0, rfl, rfl, SqL.of Fb.lr, rfl, r0, db, _, rfl, eb, no3 _ _, r0, q0, bytes, pb, 0, rfl, Fb.B0, Nat.zero_le _, fun Hc hBc kpc => ?_⟩
    have Fc := Fb.mv0 kpc hBc
    refine ⟨_, rfl, lc, _, 1, .ref c1, rfl, rfl, SqL.of Fc.lc, rfl, _, rfl, lr, _, 0, .ref r0, rfl, rfl, SqL.of Fc.lr, rfl, _, rfl, lt, _, 1, .ref b1, rfl, rfl, SqL.of Fc.lt, rfl, _, rfl, c1, r0, b1, q0, canon ls1, bytes, 0, rfl, Fc.C1, G1f, Fc.B0, Nat.zero_le _, hlen, Fc.T1, fun Hd pd kpd hBd hpd => ⟨rfl, _, rfl, ifF (c := nV pd = .non) (fun e => nomatch e) ?_⟩⟩
    have Fd := Fc.mv0 kpd hBd
    obtain ⟨⟨dd, ed⟩, _⟩ := id Fd.B1
    refine ⟨_, rfl, lr, _, 1, .ref r1, rfl, rfl, SqL.of Fd.lr, rfl, r1, dd, _, rfl, ed, no3 _ _, _, rfl, r1, q1, bytes, p, n, rfl, Fd.B1, hnL, fun He hBe kpe => ?_⟩
    have Fe := Fd.mv1 kpe hBe
    refine ⟨_, rfl, lc, _, 0, .ref c0, rfl, rfl, SqL.of Fe.lc, rfl, _, rfl, lr, _, 1, .ref r1, rfl, rfl, SqL.of Fe.lr, rfl, _, rfl, lt, _, 0, .ref b0, rfl, rfl, SqL.of Fe.lt, rfl, _, rfl, _, rfl, c0, r1, b0, q1, canon ls0, bytes, n, rfl, Fe.C0, G0f, Fe.B1, hnL, hlen, Fe.T0, fun Hf pf kpf hBf hpf => ⟨rfl, ?_⟩⟩
    exact qv (congrArg V.bl (by decide : (!false) = true)) (q Hf)
end
end Bale
set_option Elab.async false
set_option linter.all false
set_option maxRecDepth 100000
set_option maxHeartbeats 0
/-! The head: what the top leaves. -/
namespace Bale
open PySem PySem.Spec PyProof.Rows L2
def dd (x : Str) (st : Stmt) : He.DefD := ⟨(x, none), x, x, defArgs st, defBody st, defScope st, [], []⟩
def dm (C m q : Str) (st : Stmt) : He.DefD := ⟨(C, some m), m, q, defArgs st, defBody st, defScope st, [], []⟩
def hfn : List He.DefD := [dd "is_number" sIsNum, dd "need_size" sNeedSize, dd "is_byte" sIsByte, dd "is_between" sBetween, dd "need_lengths" sNeedLens, dd "codes_of" sCodesOf, dd "is_row" sIsRow, dd "need_row" sNeedRow,
  dm "CodeReader" "__init__" "CodeReader.__init__" sCRi, dm "CodeReader" "thing" "CodeReader.thing" sThing, dm "BitRow" "__init__" "BitRow.__init__" sBWi, dm "BitRow" "put" "BitRow.put" sPut, dm "BitRow" "row" "BitRow.row" sRow,
  dm "BitReader" "__init__" "BitReader.__init__" sBRi, dm "BitReader" "left" "BitReader.left" sLeft, dm "BitReader" "place" "BitReader.place" sPlace, dm "BitReader" "go" "BitReader.go" sGo, dm "BitReader" "take" "BitReader.take" sTake,
  dd "_law_cell_at" sCell, dd "_law_mixed" sMixed, dd "_law_lengths" sLens, dd "_law_codes" sCodesL, dd "_law_word" sWord, dd "_law_asked" sAsked, dd "_law_due" sDue, dd "_law_texts" sTexts, dd "_law_bits" sBits, dd "_law_row" sRowL, dd "_law_read" sRead, dd "law" sLaw]
def glos : List Str := ["is_number", "need_size", "is_byte", "is_between", "need_lengths", "codes_of", "is_row", "need_row", "CodeReader", "BitRow", "BitReader", "_law_cell_at", "_law_mixed", "_law_lengths", "_law_codes", "_law_word", "_law_asked", "_law_due", "_law_texts", "_law_bits", "_law_row", "_law_read", "law"]
def glos2 : List Str := ["BadCode", "NoBits", "PressError", "BadBits", "BadBody", "BadCheck", "BadLengths", "BadHead", "BadShares", "BadLetters", "BadMark", "BadPieces", "BadRow", "BadTable", "BadTail", "Behind", "Cut", "NoRange", "Over"]
def frees : List Str := ["isinstance", "len", "int", "bool", "list", "tuple", "str", "sorted", "range", "enumerate", "all", "divmod", "ValueError"]
def nums : List (Str × Int) := [("MOST_THINGS", 300), ("MOST_LENGTH", 12), ("BYTE", 8), ("MOST_BYTE", 255), ("MOST_SIZE", 24)]
def clss : List Str := ["CodeReader", "BitRow", "BitReader"]
def noats : List (Str × Str) := [("CodeReader", "known"), ("CodeReader", "begun"), ("BitRow", "full"), ("BitRow", "part"), ("BitRow", "filled"), ("BitReader", "source"), ("BitReader", "taken")]
def meths : List (Str × Str) := [("CodeReader", "thing"), ("BitRow", "put"), ("BitRow", "row"), ("BitReader", "left"), ("BitReader", "place"), ("BitReader", "go"), ("BitReader", "take")]
def excs : List Str := ["BadCode", "NoBits"]
def hfa : List He.Fa := (glos ++ glos2).map .glo ++ (frees.map .free ++ (nums.map (fun q => .int q.1 q.2) ++ (clss.map .cls ++ (noats.map (fun q => .noat q.1 q.2) ++ (meths.map (fun q => .meth q.1 q.2) ++ (clss.map .mkr ++ (excs.map .exc ++ excs.map fun x => .exm x "PressError" true)))))))
def is01 (K : PySem.W.Frag) (D : Str) (c : Value) (b : Bool) : Bool := decide (PySem.W.kitOne K (.ref (He.ga K D)) c = some b)
def wdB (K : PySem.W.Frag) (D : Str) (b1 b2 : Bool) : Bool :=
  He.eqO (PySem.W.findIn K (.ref (He.ga K D)) "__getattribute__") (some (some (.builtin "BaseException.__getattribute__"))) && (He.eqO (PySem.W.findIn K (.ref (He.ga K D)) "__getattr__") (some none) && (decide (PySem.W.subIn K (.ref (He.ga K D)) (.type "BaseException") = some true) && (PySem.W.hasDictIn K (He.ga K D) &&
  (He.eqO (PySem.W.findIn K (.ref (He.ga K D)) "__class__") (some (some (.builtin "object.__class__"))) && (He.eqO (PySem.W.specialIn K (.builtin "object.__class__") "__get__") (some (some (.builtin "getset_descriptor.__get__"))) && (decide (PySem.W.takesIn K (.builtin "object.__class__") = some true) && (decide (PySem.W.mroIn K (He.ga K D) (.type "object") = some true) &&
  ((others.all fun x => is01 K D (.ref (He.ga K x)) false) && (is01 K D (.type "ValueError") true && (is01 K D (.ref (cBad K)) b1 && is01 K D (.ref (cNo K)) b2))))))))))
def hex (K : PySem.W.Frag) : Bool := wdB K "BadCode" true false && wdB K "NoBits" false true
abbrev hRow : PySem.W.OpenRow := PySem.W.OpenLaw.row PySem.Challenge.rw_balepress_k10_codes_read
abbrev hHk : PySem.W.Hook := He.hookX 5 hfa hfn [] [dC] hex
def hOb (s : PySem.W.SharedT) : He.AlX := He.obsX 5 hfa hfn [] [dC] hex (HandSHeadRun.getT s)
theorem hOb_eq (s : PySem.W.SharedT) : hOb s = hHk.obs s.abs := He.obsX_eq (HandSHeadRun.getT_eq s)
def hnames : List Str := (["_wall", "PressError", "BadRow", "BadBits", "NoBits", "BadShares", "BadLengths", "BadCode", "BadTable", "BadPieces", "BadBody", "BadHead", "BadCheck", "BadMark", "BadTail", "Cut", "Behind", "Over", "NoRange", "BadLetters"] : List Str) ++
  ((["MOST_THINGS", "MOST_LENGTH", "is_between", "need_lengths", "codes_of", "CodeReader", "MOST_BYTE", "is_byte", "is_row", "need_row", "BYTE", "MOST_SIZE", "is_number", "need_size", "BitRow", "BitReader"] : List Str) ++
  (["_law_cell_at", "_law_mixed", "_law_is_number", "_law_lengths", "_law_codes", "_law_word", "_law_asked", "_law_due", "_law_texts", "_law_bits", "_law_row", "_law_read"] : List Str))
theorem hRun (w : World) : HandSHeadRun.RunEq hRow (PySem.W.view hRow.prog [54]) hHk hOb 6000 hnames w := by
  intro os
  kernel_rfl
end Bale
set_option Elab.async false
set_option linter.all false
set_option maxRecDepth 100000
set_option maxHeartbeats 0
/-! The head's facts put to use; the end. -/
namespace Bale
open PySem PySem.Spec PyProof.Rows L2
section
variable {P : Program} {w : World} {K : PySem.W.Frag} {mg : Str → Option Value} {base h : Heap}
theorem calOf {x q : Str} {st : Stmt} {fd : FuncData} {ps : List Str} {k : Nat} {sp : Sp} (F : FnP K x q st (He.ga K x) fd) (hm : mg x = some (.ref (He.ga K x))) (ok : FnOk P w K mg base CX0 k (He.ga K x) fd ps sp) (b : Binds K fd ps []) : Cal P w K mg base k x sp := ⟨⟨_, fd, ps, ok, hm, F.kp, b⟩⟩
theorem def1 (d : He.SaysD hfa hfn K) (i : Nat) {x : Str} {st : Stmt} (h : hfn[i]? = some (dd x st)) : ∃ fd, FnP K x x st (He.ga K x) fd := d.def_ i h
theorem def2 (d : He.SaysD hfa hfn K) (i : Nat) {C m q : Str} {st : Stmt} (h : hfn[i]? = some (dm C m q st)) : ∃ fd, FnP K m q st (He.ma K (He.ga K C) m) fd := d.def_ i h
theorem bd1 {x q : Str} {st : Stmt} {f : Addr} {fd : FuncData} {a : Str} (F : FnP K x q st f fd)
    (h : ∀ (kV doc pm : Value) (an : Option Addr) (cdv ct v : Value), bindArgs (PySem.W.fnOf x q (defArgs st) (defBody st) (defScope st) .none kV doc pm an cdv ct) ⟨[v], []⟩ = pure [(a, v)]) : Binds K fd [a] [] :=
  FunD.bindsN F fun kV doc pm an cdv ct us hl => match us, hl with
    | [v], _ => h kV doc pm an cdv ct v
theorem bd2 {x q : Str} {st : Stmt} {f : Addr} {fd : FuncData} {a b : Str} (F : FnP K x q st f fd)
    (h : ∀ (kV doc pm : Value) (an : Option Addr) (cdv ct v1 v2 : Value), bindArgs (PySem.W.fnOf x q (defArgs st) (defBody st) (defScope st) .none kV doc pm an cdv ct) ⟨[v1, v2], []⟩ = pure [(a, v1), (b, v2)]) : Binds K fd [a, b] [] :=
  FunD.bindsN F fun kV doc pm an cdv ct us hl => match us, hl with
    | [v1, v2], _ => h kV doc pm an cdv ct v1 v2
theorem bd3 {x q : Str} {st : Stmt} {f : Addr} {fd : FuncData} {a b c : Str} (F : FnP K x q st f fd)
    (h : ∀ (kV doc pm : Value) (an : Option Addr) (cdv ct v1 v2 v3 : Value), bindArgs (PySem.W.fnOf x q (defArgs st) (defBody st) (defScope st) .none kV doc pm an cdv ct) ⟨[v1, v2, v3], []⟩ = pure [(a, v1), (b, v2), (c, v3)]) : Binds K fd [a, b, c] [] :=
  FunD.bindsN F fun kV doc pm an cdv ct us hl => match us, hl with
    | [v1, v2, v3], _ => h kV doc pm an cdv ct v1 v2 v3
theorem bd4 {x q : Str} {st : Stmt} {f : Addr} {fd : FuncData} {a b c d : Str} (F : FnP K x q st f fd)
    (h : ∀ (kV doc pm : Value) (an : Option Addr) (cdv ct v1 v2 v3 v4 : Value), bindArgs (PySem.W.fnOf x q (defArgs st) (defBody st) (defScope st) .none kV doc pm an cdv ct) ⟨[v1, v2, v3, v4], []⟩ = pure [(a, v1), (b, v2), (c, v3), (d, v4)]) : Binds K fd [a, b, c, d] [] :=
  FunD.bindsN F fun kV doc pm an cdv ct us hl => match us, hl with
    | [v1, v2, v3, v4], _ => h kV doc pm an cdv ct v1 v2 v3 v4
theorem bd5 {x q : Str} {st : Stmt} {f : Addr} {fd : FuncData} {a b c d e : Str} (F : FnP K x q st f fd)
    (h : ∀ (kV doc pm : Value) (an : Option Addr) (cdv ct v1 v2 v3 v4 v5 : Value), bindArgs (PySem.W.fnOf x q (defArgs st) (defBody st) (defScope st) .none kV doc pm an cdv ct) ⟨[v1, v2, v3, v4, v5], []⟩ = pure [(a, v1), (b, v2), (c, v3), (d, v4), (e, v5)]) : Binds K fd [a, b, c, d, e] [] :=
  FunD.bindsN F fun kV doc pm an cdv ct us hl => match us, hl with
    | [v1, v2, v3, v4, v5], _ => h kV doc pm an cdv ct v1 v2 v3 v4 v5
theorem is01_ok {D : Str} {c : Value} {b : Bool} (q : is01 K D c b = true) : PySem.W.kitOne K (.ref (He.ga K D)) c = some b := of_decide_eq_true q
theorem wd_of {D : Str} {b1 b2 : Bool} (q : wdB K D b1 b2 = true) : WD K (He.ga K D) b1 b2 := by
  obtain ⟨q1, q⟩ := He.ba q
  obtain ⟨q2, q⟩ := He.ba q
  obtain ⟨q3, q⟩ := He.ba q
  obtain ⟨q4, q⟩ := He.ba q
  obtain ⟨q5, q⟩ := He.ba q
  obtain ⟨q6, q⟩ := He.ba q
  obtain ⟨q7, q⟩ := He.ba q
  obtain ⟨q8, q⟩ := He.ba q
  obtain ⟨q9, q⟩ := He.ba q
  obtain ⟨q10, q⟩ := He.ba q
  obtain ⟨q11, q12⟩ := He.ba q
  exact ⟨⟨He.eqO_ok q1, He.eqO_ok q2, of_decide_eq_true q3, q4, He.eqO_ok q5, He.eqO_ok q6, of_decide_eq_true q7, of_decide_eq_true q8⟩, fun x hx => is01_ok (List.all_eq_true.mp q9 x hx), is01_ok q10, is01_ok q11, is01_ok q12⟩
theorem ex1_of {x : Str} (c : (He.Fa.exc x).ok K = true) : EX1 K (He.ga K x) := by
  obtain ⟨c1, c2, c3, c4⟩ := He.exc_ok c
  exact ⟨c1, c2, c3, c4⟩
/-- all that the facts say -/
structure Facts (K : PySem.W.Frag) (mg : Str → Option Value) : Prop where
  g1 : ∀ x ∈ glos, mg x = some (.ref (He.ga K x))
  g2 : ∀ x ∈ glos2, mg x = some (.ref (He.ga K x))
  fr : ∀ x ∈ frees, mg x = none
  nu : ∀ q ∈ nums, ∃ t, mg q.1 = some (.int q.2 t)
  cl : ∀ x ∈ clss, Cls K (He.ga K x)
  na : ∀ q ∈ noats, NoAttr K (He.ga K q.1) q.2
  me : ∀ q ∈ meths, Meth K (He.ga K q.1) q.2 (He.ma K (He.ga K q.1) q.2)
  mr : ∀ x ∈ clss, Mk K (He.ga K x) (He.ma K (He.ga K x) "__init__")
  ex : ∀ x ∈ excs, EX1 K (He.ga K x)
  em : ∀ x ∈ excs, PySem.W.exmOne K (.ref (He.ga K x)) (.ref (cPE K)) = some true
  wb : WD K (cBad K) true false
  wn : WD K (cNo K) false true
theorem facts_of (X : K.In h) (G : h.Ns mainGlobals mg) (d : He.SaysD hfa hfn K) (m : hex K = true) : Facts K mg := by
  have r1 : ∀ {f : He.Fa}, f ∈ frees.map He.Fa.free ++ (nums.map (fun q => He.Fa.int q.1 q.2) ++ (clss.map .cls ++ (noats.map (fun q => .noat q.1 q.2) ++ (meths.map (fun q => .meth q.1 q.2) ++ (clss.map .mkr ++ (excs.map .exc ++ excs.map fun x => .exm x "PressError" true)))))) → f ∈ hfa := fun z => List.mem_append_right _ z
  have r2 : ∀ {f : He.Fa}, f ∈ nums.map (fun q => He.Fa.int q.1 q.2) ++ (clss.map .cls ++ (noats.map (fun q => .noat q.1 q.2) ++ (meths.map (fun q => .meth q.1 q.2) ++ (clss.map .mkr ++ (excs.map .exc ++ excs.map fun x => .exm x "PressError" true))))) → f ∈ hfa := fun z => r1 (List.mem_append_right _ z)
  have r3 : ∀ {f : He.Fa}, f ∈ clss.map He.Fa.cls ++ (noats.map (fun q => .noat q.1 q.2) ++ (meths.map (fun q => .meth q.1 q.2) ++ (clss.map .mkr ++ (excs.map .exc ++ excs.map fun x => .exm x "PressError" true)))) → f ∈ hfa := fun z => r2 (List.mem_append_right _ z)
  have r4 : ∀ {f : He.Fa}, f ∈ noats.map (fun q => He.Fa.noat q.1 q.2) ++ (meths.map (fun q => .meth q.1 q.2) ++ (clss.map .mkr ++ (excs.map .exc ++ excs.map fun x => .exm x "PressError" true))) → f ∈ hfa := fun z => r3 (List.mem_append_right _ z)
  have r5 : ∀ {f : He.Fa}, f ∈ meths.map (fun q => He.Fa.meth q.1 q.2) ++ (clss.map .mkr ++ (excs.map .exc ++ excs.map fun x => .exm x "PressError" true)) → f ∈ hfa := fun z => r4 (List.mem_append_right _ z)
  have r6 : ∀ {f : He.Fa}, f ∈ clss.map He.Fa.mkr ++ (excs.map .exc ++ excs.map fun x => .exm x "PressError" true) → f ∈ hfa := fun z => r5 (List.mem_append_right _ z)
  have r7 : ∀ {f : He.Fa}, f ∈ excs.map He.Fa.exc ++ (excs.map fun x => .exm x "PressError" true) → f ∈ hfa := fun z => r6 (List.mem_append_right _ z)
  have r0 : ∀ {f : He.Fa}, f ∈ (glos ++ glos2).map He.Fa.glo → f ∈ hfa := fun z => List.mem_append_left _ z
  obtain ⟨m1, m2⟩ := He.ba m
  refine ⟨fun x hx => He.glo_ok X G (d.facts (r0 (List.mem_map_of_mem (List.mem_append_left _ hx)))), fun x hx => He.glo_ok X G (d.facts (r0 (List.mem_map_of_mem (List.mem_append_right _ hx)))), fun x hx => He.free_ok X G (d.facts (r1 (List.mem_append_left _ (List.mem_map_of_mem hx)))),
    fun q hq => ?_, fun x hx => He.cls_ok (d.facts (r3 (List.mem_append_left _ (List.mem_map_of_mem hx)))), fun q hq => ?_, fun q hq => ?_, fun x hx => He.mkr_ok (d.facts (r6 (List.mem_append_left _ (List.mem_map_of_mem hx)))),
    fun x hx => ex1_of (d.facts (r7 (List.mem_append_left _ (List.mem_map_of_mem hx)))), fun x hx => ?_, wd_of m1, wd_of m2⟩
  · exact He.int_ok X G (d.facts (r2 (List.mem_append_left _ (List.mem_map_of_mem (f := fun q : Str × Int => He.Fa.int q.1 q.2) hq))))
  · exact He.noat_ok (d.facts (r4 (List.mem_append_left _ (List.mem_map_of_mem (f := fun q : Str × Str => He.Fa.noat q.1 q.2) hq))))
  · exact He.meth_ok (d.facts (r5 (List.mem_append_left _ (List.mem_map_of_mem (f := fun q : Str × Str => He.Fa.meth q.1 q.2) hq))))
  · exact He.exm_ok (d.facts (r7 (List.mem_append_right _ (List.mem_map_of_mem (f := fun x : Str => He.Fa.exm x "PressError" true) hx))))
theorem Facts.tx (F : Facts K mg) : Tx mg :=
  ⟨F.fr "isinstance" (by decide +kernel), F.fr "len" (by decide +kernel), F.fr "int" (by decide +kernel), F.fr "bool" (by decide +kernel), F.fr "list" (by decide +kernel), F.fr "tuple" (by decide +kernel), F.fr "str" (by decide +kernel), F.fr "sorted" (by decide +kernel), F.fr "range" (by decide +kernel), F.fr "enumerate" (by decide +kernel), F.fr "all" (by decide +kernel), F.fr "divmod" (by decide +kernel),
    F.nu ("MOST_THINGS", 300) (by decide +kernel), F.nu ("MOST_LENGTH", 12) (by decide +kernel), F.nu ("BYTE", 8) (by decide +kernel), F.nu ("MOST_BYTE", 255) (by decide +kernel), F.nu ("MOST_SIZE", 24) (by decide +kernel)⟩
theorem Facts.bwt (F : Facts K mg) : BWT K := ⟨F.cl "BitRow" (by decide +kernel), F.na ("BitRow", "full") (by decide +kernel), F.na ("BitRow", "part") (by decide +kernel), F.na ("BitRow", "filled") (by decide +kernel)⟩
theorem Facts.brt (F : Facts K mg) : BRT K := ⟨F.cl "BitReader" (by decide +kernel), F.na ("BitReader", "source") (by decide +kernel), F.na ("BitReader", "taken") (by decide +kernel)⟩
theorem Facts.crt (F : Facts K mg) : CRT K := ⟨F.cl "CodeReader" (by decide +kernel), F.na ("CodeReader", "known") (by decide +kernel), F.na ("CodeReader", "begun") (by decide +kernel)⟩
theorem Facts.te (F : Facts K mg) : TE8 K mg := ⟨fun x hx => F.g2 x ((by decide +kernel : ∀ x ∈ others, x ∈ glos2) x hx), F.g2 "BadCode" (by decide +kernel), F.g2 "NoBits" (by decide +kernel), F.fr "ValueError" (by decide +kernel)⟩
theorem Facts.twd (F : Facts K mg) : TWD K mg := ⟨F.g2 "PressError" (by decide +kernel), F.wb, F.wn, F.em "BadCode" (by decide +kernel), F.em "NoBits" (by decide +kernel)⟩
theorem law_fn (d : He.SaysD hfa hfn K) (F : Facts K mg) (TB : LamX.TabB base mg (He.codeOf K dC) (tP K)) : ∃ fd, FnP K "law" "law" sLaw (He.ga K "law") fd ∧ FnOk P w K mg base CX0 7 (He.ga K "law") fd ["_law_script"] (spLaw K) := by
  have T := F.tx
  have BW := F.bwt
  have BR := F.brt
  have CR := F.crt
  have TE := F.te
  have TW := F.twd
  have g : ∀ x ∈ glos, mg x = some (.ref (He.ga K x)) := F.g1
  obtain ⟨e0, F0⟩ := def1 d 0 (x := "is_number") (st := sIsNum) rfl
  obtain ⟨e1, F1⟩ := def1 d 1 (x := "need_size") (st := sNeedSize) rfl
  obtain ⟨e2, F2⟩ := def1 d 2 (x := "is_byte") (st := sIsByte) rfl
  obtain ⟨e3, F3⟩ := def1 d 3 (x := "is_between") (st := sBetween) rfl
  obtain ⟨e4, F4⟩ := def1 d 4 (x := "need_lengths") (st := sNeedLens) rfl
  obtain ⟨e5, F5⟩ := def1 d 5 (x := "codes_of") (st := sCodesOf) rfl
  obtain ⟨e6, F6⟩ := def1 d 6 (x := "is_row") (st := sIsRow) rfl
  obtain ⟨e7, F7⟩ := def1 d 7 (x := "need_row") (st := sNeedRow) rfl
  obtain ⟨e8, F8⟩ := def2 d 8 (C := "CodeReader") (m := "__init__") (q := "CodeReader.__init__") (st := sCRi) rfl
  obtain ⟨e9, F9⟩ := def2 d 9 (C := "CodeReader") (m := "thing") (q := "CodeReader.thing") (st := sThing) rfl
  obtain ⟨e10, F10⟩ := def2 d 10 (C := "BitRow") (m := "__init__") (q := "BitRow.__init__") (st := sBWi) rfl
  obtain ⟨e11, F11⟩ := def2 d 11 (C := "BitRow") (m := "put") (q := "BitRow.put") (st := sPut) rfl
  obtain ⟨e12, F12⟩ := def2 d 12 (C := "BitRow") (m := "row") (q := "BitRow.row") (st := sRow) rfl
  obtain ⟨e13, F13⟩ := def2 d 13 (C := "BitReader") (m := "__init__") (q := "BitReader.__init__") (st := sBRi) rfl
  obtain ⟨e14, F14⟩ := def2 d 14 (C := "BitReader") (m := "left") (q := "BitReader.left") (st := sLeft) rfl
  obtain ⟨e15, F15⟩ := def2 d 15 (C := "BitReader") (m := "place") (q := "BitReader.place") (st := sPlace) rfl
  obtain ⟨e16, F16⟩ := def2 d 16 (C := "BitReader") (m := "go") (q := "BitReader.go") (st := sGo) rfl
  obtain ⟨e17, F17⟩ := def2 d 17 (C := "BitReader") (m := "take") (q := "BitReader.take") (st := sTake) rfl
  obtain ⟨e18, F18⟩ := def1 d 18 (x := "_law_cell_at") (st := sCell) rfl
  obtain ⟨e19, F19⟩ := def1 d 19 (x := "_law_mixed") (st := sMixed) rfl
  obtain ⟨e20, F20⟩ := def1 d 20 (x := "_law_lengths") (st := sLens) rfl
  obtain ⟨e21, F21⟩ := def1 d 21 (x := "_law_codes") (st := sCodesL) rfl
  obtain ⟨e22, F22⟩ := def1 d 22 (x := "_law_word") (st := sWord) rfl
  obtain ⟨e23, F23⟩ := def1 d 23 (x := "_law_asked") (st := sAsked) rfl
  obtain ⟨e24, F24⟩ := def1 d 24 (x := "_law_due") (st := sDue) rfl
  obtain ⟨e25, F25⟩ := def1 d 25 (x := "_law_texts") (st := sTexts) rfl
  obtain ⟨e26, F26⟩ := def1 d 26 (x := "_law_bits") (st := sBits) rfl
  obtain ⟨e27, F27⟩ := def1 d 27 (x := "_law_row") (st := sRowL) rfl
  obtain ⟨e28, F28⟩ := def1 d 28 (x := "_law_read") (st := sRead) rfl
  obtain ⟨e29, F29⟩ := def1 d 29 (x := "law") (st := sLaw) rfl
  have c0 : Cal P w K mg base 1 "is_number" spIsNum := calOf F0 (g _ (by decide +kernel)) (ok_isnum F0 T) (bd1 F0 fun _ _ _ _ _ _ _ => rfl)
  have c1 : Cal P w K mg base 2 "need_size" spNeedSize := calOf F1 (g _ (by decide +kernel)) (ok_needsize F1 T c0) (bd1 F1 fun _ _ _ _ _ _ _ => rfl)
  have c2 : Cal P w K mg base 1 "is_byte" spIsByte := calOf F2 (g _ (by decide +kernel)) (ok_isbyte F2 T) (bd1 F2 fun _ _ _ _ _ _ _ => rfl)
  have c3 : Cal P w K mg base 1 "is_between" spBetween := calOf F3 (g _ (by decide +kernel)) (ok_between F3 T) (bd3 F3 fun _ _ _ _ _ _ _ _ _ => rfl)
  have c4 : Cal P w K mg base 2 "need_lengths" spNeedLens := calOf F4 (g _ (by decide +kernel)) (ok_needlens F4 T c3) (bd1 F4 fun _ _ _ _ _ _ _ => rfl)
  have c5 : Cal P w K mg base 3 "codes_of" (spCodesOf K) := calOf F5 (g _ (by decide +kernel)) (ok_codesof F5 T TB c4) (bd1 F5 fun _ _ _ _ _ _ _ => rfl)
  have c6 : Cal P w K mg base 2 "is_row" spIsRow := calOf F6 (g _ (by decide +kernel)) (ok_isrow F6 T c2) (bd1 F6 fun _ _ _ _ _ _ _ => rfl)
  have c7 : Cal P w K mg base 3 "need_row" spNeedRow := calOf F7 (g _ (by decide +kernel)) (ok_needrow F7 T c6) (bd1 F7 fun _ _ _ _ _ _ _ => rfl)
  have c8 : Mak P w K mg base 4 "CodeReader" (cCR K) (spCRi K) := ⟨⟨_, _, _, F.mr "CodeReader" (by decide +kernel), ok_cri F8 CR T c5, g _ (by decide +kernel), bd2 F8 fun _ _ _ _ _ _ _ _ => rfl⟩⟩
  have c10 : Mak P w K mg base 1 "BitRow" (cBW K) (spBWi K) := ⟨⟨_, _, _, F.mr "BitRow" (by decide +kernel), ok_bwi F10 BW, g _ (by decide +kernel), bd1 F10 fun _ _ _ _ _ _ _ => rfl⟩⟩
  have c11 : Met P w K mg base 3 (cBW K) "put" (spPut K) := ⟨⟨_, _, _, F.cl "BitRow" (by decide +kernel), F.me ("BitRow", "put") (by decide +kernel), ok_put F11 BW T c0 c1, bd3 F11 fun _ _ _ _ _ _ _ _ _ => rfl⟩⟩
  have c12 : Met P w K mg base 1 (cBW K) "row" (spRow K) := ⟨⟨_, _, _, F.cl "BitRow" (by decide +kernel), F.me ("BitRow", "row") (by decide +kernel), ok_row F12 BW T, bd1 F12 fun _ _ _ _ _ _ _ => rfl⟩⟩
  have c13 : Mak P w K mg base 4 "BitReader" (cBR K) (spBRi K) := ⟨⟨_, _, _, F.mr "BitReader" (by decide +kernel), ok_bri F13 BR c7, g _ (by decide +kernel), bd2 F13 fun _ _ _ _ _ _ _ _ => rfl⟩⟩
  have c14 : Met P w K mg base 1 (cBR K) "left" (spLeft K) := ⟨⟨_, _, _, F.cl "BitReader" (by decide +kernel), F.me ("BitReader", "left") (by decide +kernel), ok_left F14 BR T, bd1 F14 fun _ _ _ _ _ _ _ => rfl⟩⟩
  have c15 : Met P w K mg base 1 (cBR K) "place" (spPlace K) := ⟨⟨_, _, _, F.cl "BitReader" (by decide +kernel), F.me ("BitReader", "place") (by decide +kernel), ok_place F15 BR, bd1 F15 fun _ _ _ _ _ _ _ => rfl⟩⟩
  have c16 : Met P w K mg base 2 (cBR K) "go" (spGo K) := ⟨⟨_, _, _, F.cl "BitReader" (by decide +kernel), F.me ("BitReader", "go") (by decide +kernel), ok_go F16 BR T c0, bd2 F16 fun _ _ _ _ _ _ _ _ => rfl⟩⟩
  have c17 : Met P w K mg base 3 (cBR K) "take" (spTake K) := ⟨⟨_, _, _, F.cl "BitReader" (by decide +kernel), F.me ("BitReader", "take") (by decide +kernel), ok_take F17 BR T c1 c14, bd2 F17 fun _ _ _ _ _ _ _ _ => rfl⟩⟩
  have c9 : MetX P w K mg base 4 (cCR K) "thing" (spThing K) := ⟨⟨_, _, _, F.cl "CodeReader" (by decide +kernel), F.me ("CodeReader", "thing") (by decide +kernel), ok_thing F9 CR TE (F.ex "BadCode" (by decide +kernel)) (F.ex "NoBits" (by decide +kernel)) c14 c15 c16 c17, bd2 F9 fun _ _ _ _ _ _ _ _ => rfl⟩⟩
  have c18 : Cal P w K mg base 1 "_law_cell_at" (spCellA K) := calOf F18 (g _ (by decide +kernel)) (ok_cell F18 T) (bd2 F18 fun _ _ _ _ _ _ _ _ => rfl)
  have c19 : Cal P w K mg base 1 "_law_mixed" spMixed := calOf F19 (g _ (by decide +kernel)) (ok_mixed F19) (bd2 F19 fun _ _ _ _ _ _ _ _ => rfl)
  have c20 : Cal P w K mg base 2 "_law_lengths" (spLens K) := calOf F20 (g _ (by decide +kernel)) (ok_lens F20 T c18 c19) (bd4 F20 fun _ _ _ _ _ _ _ _ _ _ => rfl)
  have c21 : Cal P w K mg base 1 "_law_codes" (spCodesL K) := calOf F21 (g _ (by decide +kernel)) (ok_codesL F21 T) (bd1 F21 fun _ _ _ _ _ _ _ => rfl)
  have c22 : CalW P w K mg base 1 "_law_word" (spWord K) := ⟨⟨_, _, _, ok_word F22 T TE, g _ (by decide +kernel), F22.kp, bd1 F22 fun _ _ _ _ _ _ _ => rfl⟩⟩
  have c23 : Cal P w K mg base 5 "_law_asked" (spAsked K) := calOf F23 (g _ (by decide +kernel)) (ok_asked F23 TW c9 c22) (bd2 F23 fun _ _ _ _ _ _ _ _ => rfl)
  have c24 : Cal P w K mg base 1 "_law_due" spDue := calOf F24 (g _ (by decide +kernel)) (ok_due F24 T) (bd3 F24 fun _ _ _ _ _ _ _ _ _ => rfl)
  have c25 : Cal P w K mg base 2 "_law_texts" (spTexts K) := calOf F25 (g _ (by decide +kernel)) (ok_texts F25 T c21) (bd1 F25 fun _ _ _ _ _ _ _ => rfl)
  have c26 : Cal P w K mg base 2 "_law_bits" (spBits K) := calOf F26 (g _ (by decide +kernel)) (ok_bits F26 T c18 c19) (bd2 F26 fun _ _ _ _ _ _ _ _ => rfl)
  have c27 : Cal P w K mg base 4 "_law_row" spRowL := calOf F27 (g _ (by decide +kernel)) (ok_rowL F27 T BW c10 c11 c12) (bd1 F27 fun _ _ _ _ _ _ _ => rfl)
  have c28 : Cal P w K mg base 6 "_law_read" (spRead K) := calOf F28 (g _ (by decide +kernel)) (ok_read F28 T c24 c23 c14 c15) (bd5 F28 fun _ _ _ _ _ _ _ _ _ _ _ => rfl)
  exact ⟨_, F29, ok_law F29 T ⟨c18, c20, c25, c26, c27, c24, c23, c28, c8, c13, c15, c16, c17⟩⟩
theorem facts (X : K.In h) (G : h.Ns mainGlobals mg) {fa : Addr} (hfa : mg ("law" : Str) = some (.ref fa)) (c : He.SaysX Bale.hfa hfn [] [dC] hex w h K) : LamX.LawAtS PySem.Challenge.rw_balepress_k10_codes_read w K CX0 7 63 "_law_script" mg fa h := by
  have d : He.SaysD Bale.hfa hfn K := c.t.d
  have F := facts_of X G d c.more
  have e := hfa.symm.trans (F.g1 "law" (by decide +kernel))
  cases e
  obtain ⟨e29, F29⟩ := def1 d 29 (x := "law") (st := sLaw) rfl
  have b := FunD.bindsA (ps := ["_law_script"]) F29 fun _ _ _ _ _ _ us hl => match us, hl with | [_], _ => rfl
  refine ⟨e29, [He.cT K dC], spLaw K, fun p hp => ?_, fun p hp => ?_, fun p hp => ?_, fun s v => b s [v] rfl, fun H a ns hl _ hT hS => ⟨a, ns, rfl, hS, fun p hp => ?_, fun _ => rfl⟩, fun base X2 G2 hTB => ?_⟩
  · rw [List.mem_singleton.mp hp]
    exact c.empty dC (List.mem_singleton.mpr rfl)
  · rw [List.mem_singleton.mp hp]
    exact c.out dC (List.mem_singleton.mpr rfl)
  · rw [List.mem_singleton.mp hp]
    exact PySem.W.codeHd_of_K X (c.hd dC (List.mem_singleton.mpr rfl))
  · rw [List.mem_singleton.mp hp]
    exact LamX.TabS.nil (hT _ (List.mem_singleton.mpr rfl))
  · obtain ⟨fd, F29', ok⟩ := law_fn (P := PySem.Challenge.rw_balepress_k10_codes_read.prog) (w := w) d F (hTB _ (List.mem_singleton.mpr rfl))
    have ee : e29 = fd := by
      obtain ⟨_, _, _, _, _, _, _, _, _, _, h1, l1, _⟩ := F29.ex
      obtain ⟨_, _, _, _, _, _, _, _, _, _, h2, l2, _⟩ := F29'.ex
      have l1 : K.lookup (He.ga K "law") = _ := l1
      rw [l1] at l2
      have l3 := Option.some.inj l2
      injection l3 with _ _ l4 _
      injection l4
    rw [ee]
    exact ok
end
end Bale
open PySem PySem.W PySem.Calls PyProof.Rows
theorem PySem.Challenge.cw_balepress_k10_codes_read_holds : PySem.Challenge.rw_balepress_k10_codes_read.Holds := by
  w_on; o_law
  refine HandSHeadRun.head_any (r := Bale.hRow) (q := view Bale.hRow.prog [54]) (H := Bale.hHk) (ob := Bale.hOb) (M := 6000) (loose := Bale.hnames) (d := HandSHeadRun.topDef Bale.hRow.prog 54) (kwd := []) Bale.hOb_eq
    (by kernel_rfl) (fun s => by kernel_rfl) Bale.hRun (by kernel_rfl) (by kernel_rfl) (by kernel_rfl) (by rfl) (by first | assumption | decide +kernel) (by decide +kernel) ⟨rfl, rfl, rfl, rfl, rfl, by decide +kernel⟩ ?hw ?hc
  case hw => w_witness2
  case hc =>
    refine LamX.walk_ofTsE (l := PySem.Challenge.rw_balepress_k10_codes_read) (n := 63) (k := 7) (x := "_law_script") (CX := fun _ => L2.CX0) rfl (by decide) (by kernel_rfl) ⟨rfl, by decide, by decide⟩ ?F (fun _ _ _ _ _ z => z)
    intro w mg fa h Y G hmg0
    obtain ⟨K, KX, c⟩ := Y
    have hmg : mg ("law" : PySem.Str) = some (.ref fa) := by
      have e : (HandSHeadRun.topDef Bale.hRow.prog 54).name = ("law" : PySem.Str) := by kernel_rfl
      rw [← e]
      exact hmg0
    exact ⟨K, KX, Bale.facts KX G hmg c⟩
