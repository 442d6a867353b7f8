import PyProof.Rows.All
import Wide.All
import OpenK.AllK
import Wide.FinOn
import HandS.ForMost
import HandS.Walk
import HandS.Zip
import HandS.Style
import HandS.TupAny
import HandS.Property
import HandS.IsInst
import HandS.WideBits
import HandS.Strs
import HandS.Defaults
import KE.GoesEnum
import KE.KStateDown
import HandS.Base
import HandS.Call
import HandS.Ends
import HandS.More
import HandS.Words
import HandS.WordsExc
import HandS.Head0
import HandS.Head1
import HandS.Head2
import HandS.HeadEnd
import HandS.HeadHook1
import HandS.HeadHook2
import PySem.Challenge.RW_raisedwreck_k12_whole_order
set_option Elab.async false
set_option linter.all false
set_option maxRecDepth 100000
set_option maxHeartbeats 0
/-! the plain law, part 1: sketches and disks -/
namespace RwM

abbrev Sk := List Nat
abbrev Dk := List Nat
inductive Src where
  | set (v : Nat)
  | copy (c : Nat)
structure Deed where
  id : Nat
  guard : List (Nat × Nat)
  changes : List (Nat × Src)

inductive A2 {α β : Type} (R : α → β → Prop) : List α → List β → Prop
  | nil : A2 R [] []
  | cons {a b as bs} : R a b → A2 R as bs → A2 R (a :: as) (b :: bs)

namespace A2
variable {α β γ : Type} {R S : α → β → Prop} {xs xs' : List α} {ys ys' : List β}
theorem length : ∀ {xs : List α} {ys : List β}, A2 R xs ys → xs.length = ys.length
  | _, _, .nil => rfl
  | _, _, .cons _ t => by rw [List.length_cons, List.length_cons, length t]
theorem imp (f : ∀ a b, R a b → S a b) : ∀ {xs : List α} {ys : List β}, A2 R xs ys → A2 S xs ys
  | _, _, .nil => .nil
  | _, _, .cons h t => .cons (f _ _ h) (imp f t)
theorem append : ∀ {xs xs' : List α} {ys ys' : List β}, A2 R xs ys → A2 R xs' ys' → A2 R (xs ++ xs') (ys ++ ys')
  | _, _, _, _, .nil, s => s
  | _, _, _, _, .cons h t, s => .cons h (append t s)
theorem snoc {a : α} {b : β} (h : A2 R xs ys) (r : R a b) : A2 R (xs ++ [a]) (ys ++ [b]) := h.append (.cons r .nil)
theorem get : ∀ {xs : List α} {ys : List β} {i : Nat} {a : α} {b : β}, A2 R xs ys → xs[i]? = some a → ys[i]? = some b → R a b
  | _, _, _, _, _, .nil, h, _ => by simp at h
  | _, _, 0, _, _, .cons r _, h, k => by
    simp at h k
    subst h k
    exact r
  | _, _, i + 1, _, _, .cons _ t, h, k => get (i := i) t (by simpa using h) (by simpa using k)
theorem get_l : ∀ {xs : List α} {ys : List β} {i : Nat} {a : α}, A2 R xs ys → xs[i]? = some a → ∃ b, ys[i]? = some b ∧ R a b
  | _, _, _, _, .nil, h => by simp at h
  | _, _, 0, _, .cons r _, h => by
    simp at h
    subst h
    exact ⟨_, rfl, r⟩
  | _, _, i + 1, _, .cons _ t, h => by
    obtain ⟨b, h1, h2⟩ := get_l (i := i) t (by simpa using h)
    exact ⟨b, by simpa using h1, h2⟩
theorem get_r : ∀ {xs : List α} {ys : List β} {i : Nat} {b : β}, A2 R xs ys → ys[i]? = some b → ∃ a, xs[i]? = some a ∧ R a b
  | _, _, _, _, .nil, h => by simp at h
  | _, _, 0, _, .cons r _, h => by
    simp at h
    subst h
    exact ⟨_, rfl, r⟩
  | _, _, i + 1, _, .cons _ t, h => by
    obtain ⟨b, h1, h2⟩ := get_r (i := i) t (by simpa using h)
    exact ⟨b, by simpa using h1, h2⟩
theorem take : ∀ {xs : List α} {ys : List β} (n : Nat), A2 R xs ys → A2 R (xs.take n) (ys.take n)
  | _, _, 0, _ => .nil
  | _, _, _ + 1, .nil => .nil
  | _, _, n + 1, .cons r t => .cons r (take n t)
theorem drop : ∀ {xs : List α} {ys : List β} (n : Nat), A2 R xs ys → A2 R (xs.drop n) (ys.drop n)
  | _, _, 0, r => r
  | _, _, _ + 1, .nil => .nil
  | _, _, n + 1, .cons _ t => drop n t
theorem set {a : α} {b : β} (r : R a b) : ∀ {xs : List α} {ys : List β} (n : Nat), A2 R xs ys → A2 R (xs.set n a) (ys.set n b)
  | _, _, _, .nil => .nil
  | _, _, 0, .cons _ t => .cons r t
  | _, _, n + 1, .cons h t => .cons h (set r n t)
theorem map_r {f : γ → β} : ∀ {xs : List α} {zs : List γ}, A2 (fun a c => R a (f c)) xs zs → A2 R xs (zs.map f)
  | _, _, .nil => .nil
  | _, _, .cons h t => .cons h (map_r t)
theorem of_map_r {f : γ → β} : ∀ {xs : List α} {zs : List γ}, A2 R xs (zs.map f) → A2 (fun a c => R a (f c)) xs zs
  | [], [], _ => .nil
  | [], _ :: _, h => by cases h
  | _ :: _, [], h => by cases h
  | _ :: _, _ :: _, h => by
    cases h with
    | cons h t => exact .cons h (of_map_r t)
theorem mem_l : ∀ {xs : List α} {ys : List β} {a : α}, A2 R xs ys → a ∈ xs → ∃ b, b ∈ ys ∧ R a b
  | _, _, _, .nil, h => by cases h
  | _, _, _, .cons (b := b) r t, h => by
    rcases List.mem_cons.mp h with rfl | h
    · exact ⟨b, List.mem_cons_self, r⟩
    · obtain ⟨b, h1, h2⟩ := mem_l t h
      exact ⟨b, List.mem_cons_of_mem _ h1, h2⟩
end A2

/-! ### sets of values, sketches, disks -/
def inS : Sk → Dk → Bool
  | m :: s, v :: d => m.testBit v && inS s d
  | _, _ => true
def has (p : List Sk) (d : Dk) : Bool := p.any fun s => inS s d
def meetL (a b : Sk) : Sk := List.zipWith (fun x y => x &&& y) a b
def meet (a b : Sk) : Option Sk := if 0 ∈ meetL a b then none else some (meetL a b)
def splitGo : List Nat → Sk → Sk → List Sk
  | pre, x :: a, y :: b => (if x ^^^ y = 0 then [] else [pre ++ (x ^^^ y) :: a]) ++ splitGo (pre ++ [y]) a b
  | _, _, _ => []
def split (a b : Sk) : List Sk := match meet a b with
  | none => [a]
  | some m => splitGo [] a m
def without (a : Sk) (p : List Sk) : List Sk := p.foldl (fun ps s => ps.flatMap fun o => split o s) [a]
def incl : Sk → Sk → Bool
  | x :: a, y :: b => (x &&& y == x) && incl a b
  | _, _ => true
def lateParts (s : Sk) (early late : List Sk) : List Sk := late.flatMap fun o => match meet s o with
  | none => []
  | some m => without m early
def vSk (sizes : List Nat) (s : Sk) : Prop := A2 (fun n m => 1 ≤ m ∧ m < 2 ^ n) sizes s
def vDk (sizes : List Nat) (d : Dk) : Prop := A2 (fun n v => v < n) sizes d

theorem inS_iff : ∀ {s d : List Nat}, s.length = d.length → (inS s d = true ↔ ∀ i, i < d.length → (s.getD i 0).testBit (d.getD i 0) = true)
  | [], [], _ => by simp [inS]
  | [], _ :: _, h => by simp at h
  | _ :: _, [], h => by simp at h
  | m :: s, v :: d, h => by
    have ih := inS_iff (s := s) (d := d) (by simpa using h)
    simp only [inS, Bool.and_eq_true, ih]
    constructor
    · rintro ⟨h1, h2⟩ i hi
      cases i with
      | zero => simpa using h1
      | succ i => simpa using h2 i (by simpa using hi)
    · intro h
      refine ⟨by simpa using h 0 (by simp), fun i hi => ?_⟩
      simpa using h (i + 1) (by simpa using hi)
theorem inS_append : ∀ {s d s' d' : List Nat}, s.length = d.length → inS (s ++ s') (d ++ d') = (inS s d && inS s' d')
  | [], [], _, _, _ => by simp [inS]
  | [], _ :: _, _, _, h => by simp at h
  | _ :: _, [], _, _, h => by simp at h
  | m :: s, v :: d, s', d', h => by
    have ih := inS_append (s := s) (d := d) (s' := s') (d' := d') (by simpa using h)
    simp only [List.cons_append, inS, ih, Bool.and_assoc]
theorem inS_zero : ∀ {s d : List Nat}, s.length = d.length → 0 ∈ s → inS s d = false
  | [], _, _, h => by simp at h
  | _ :: _, [], h, _ => by simp at h
  | m :: s, v :: d, hl, h => by
    rcases List.mem_cons.mp h with e | h
    · subst e
      simp [inS]
    · simp only [inS, inS_zero (s := s) (d := d) (by simpa using hl) h, Bool.and_false]
theorem inS_meetL : ∀ {a b d : List Nat}, a.length = d.length → b.length = d.length → inS (meetL a b) d = (inS a d && inS b d)
  | [], [], [], _, _ => by simp [meetL, inS]
  | [], _ :: _, [], _, h => by simp at h
  | [], _, _ :: _, h, _ => by simp at h
  | _ :: _, _, [], h, _ => by simp at h
  | _ :: _, [], _ :: _, _, h => by simp at h
  | x :: a, y :: b, v :: d, h1, h2 => by
    have ih := inS_meetL (a := a) (b := b) (d := d) (by simpa using h1) (by simpa using h2)
    simp only [meetL] at ih
    simp only [meetL, List.zipWith_cons_cons, inS, ih, Nat.testBit_and]
    cases x.testBit v <;> cases y.testBit v <;> cases inS a d <;> cases inS b d <;> rfl
theorem meetL_len {a b : Sk} (h : a.length = b.length) : (meetL a b).length = a.length := by simp [meetL, h]
theorem meet_len {a b m : Sk} (h : a.length = b.length) (e : meet a b = some m) : m.length = a.length := by
  unfold meet at e
  split at e
  · cases e
  · cases e
    exact meetL_len h
theorem meet_some {a b m : Sk} (e : meet a b = some m) : m = meetL a b ∧ 0 ∉ meetL a b := by
  unfold meet at e
  split at e
  · cases e
  · rename_i h
    cases e
    exact ⟨rfl, h⟩
theorem inS_meet {a b m : Sk} {d : Dk} (h1 : a.length = d.length) (h2 : b.length = d.length) (e : meet a b = some m) : inS m d = (inS a d && inS b d) := by
  rw [(meet_some e).1]
  exact inS_meetL h1 h2
theorem meet_none {a b : Sk} {d : Dk} (h1 : a.length = d.length) (h2 : b.length = d.length) (e : meet a b = none) : (inS a d && inS b d) = false := by
  unfold meet at e
  split at e
  · rename_i h
    rw [← inS_meetL h1 h2]
    refine inS_zero ?_ h
    rw [meetL_len (h1.trans h2.symm), h1]
  · cases e

theorem xor_and (x z : Nat) (v : Nat) : (x ^^^ (x &&& z)).testBit v = (x.testBit v && !z.testBit v) := by
  rw [Nat.testBit_xor, Nat.testBit_and]
  cases x.testBit v <;> cases z.testBit v <;> rfl
theorem splitGo_in : ∀ {a b : Sk} {d : Dk} {pre dpre : List Nat}, pre.length = dpre.length → a.length = d.length → b.length = d.length →
    ((splitGo pre a (meetL a b)).any fun p => inS p (dpre ++ d)) = (inS pre dpre && (inS a d && !inS b d))
  | [], [], [], pre, dpre, _, _, _ => by simp [splitGo, meetL, inS]
  | [], _ :: _, [], _, _, _, _, h => by simp at h
  | [], _, _ :: _, _, _, _, h, _ => by simp at h
  | _ :: _, _, [], _, _, _, h, _ => by simp at h
  | _ :: _, [], _ :: _, _, _, _, _, h => by simp at h
  | x :: a, y :: b, v :: d, pre, dpre, h0, h1, h2 => by
    have ih := splitGo_in (a := a) (b := b) (d := d) (pre := pre ++ [x &&& y]) (dpre := dpre ++ [v]) (by simp [h0]) (by simpa using h1) (by simpa using h2)
    have e : meetL (x :: a) (y :: b) = (x &&& y) :: meetL a b := rfl
    rw [e]
    have e2 : dpre ++ v :: d = (dpre ++ [v]) ++ d := by simp
    simp only [splitGo, List.any_append]
    rw [e2, ih, inS_append h0, ← e2]
    have e3 : (List.any (if x ^^^ (x &&& y) = 0 then [] else [pre ++ (x ^^^ (x &&& y)) :: a]) fun p => inS p (dpre ++ v :: d)) = (inS pre dpre && ((x.testBit v && !y.testBit v) && inS a d)) := by
      by_cases hz : x ^^^ (x &&& y) = 0
      · rw [if_pos hz]
        have q := xor_and x y v
        rw [hz] at q
        simp at q
        simp only [List.any_nil]
        cases h : x.testBit v
        · simp
        · rw [q h]
          simp
      · rw [if_neg hz]
        simp only [List.any_cons, List.any_nil, Bool.or_false]
        rw [inS_append h0]
        simp only [inS, xor_and]
    rw [e3]
    simp only [inS, Nat.testBit_and, Bool.and_true]
    cases x.testBit v <;> cases y.testBit v <;> cases inS a d <;> cases inS b d <;> cases inS pre dpre <;> rfl
theorem split_in {a b : Sk} {d : Dk} (h1 : a.length = d.length) (h2 : b.length = d.length) : has (split a b) d = (inS a d && !inS b d) := by
  unfold split has
  cases e : meet a b with
  | none =>
    have q := meet_none h1 h2 e
    simp only [List.any_cons, List.any_nil, Bool.or_false]
    cases h : inS a d
    · simp
    · rw [h] at q
      simp at q
      simp [q]
  | some m =>
    have q := splitGo_in (a := a) (b := b) (d := d) (pre := []) (dpre := []) rfl h1 h2
    rw [(meet_some e).1]
    simpa [inS] using q
theorem splitGo_len : ∀ {a b : Sk} {pre p : List Nat}, p ∈ splitGo pre a b → p.length = pre.length + a.length
  | [], _, _, _, h => by simp [splitGo] at h
  | _ :: _, [], _, _, h => by simp [splitGo] at h
  | x :: a, y :: b, pre, p, h => by
    simp only [splitGo, List.mem_append] at h
    rcases h with h | h
    · split at h
      · cases h
      · rw [List.mem_singleton] at h
        rw [h]
        simp
    · have := splitGo_len h
      simp at this ⊢
      omega
theorem split_len {a b p : Sk} (h : p ∈ split a b) : p.length = a.length := by
  unfold split at h
  split at h
  · rw [List.mem_singleton] at h
    rw [h]
  · have := splitGo_len h
    simpa using this
theorem flat_len {ps : List Sk} {s : Sk} {n : Nat} (h : ∀ p ∈ ps, p.length = n) : ∀ p ∈ ps.flatMap (fun o => split o s), p.length = n := fun p hp => by
  obtain ⟨o, ho, hq⟩ := List.mem_flatMap.mp hp
  rw [split_len hq, h o ho]
theorem flat_in {d : Dk} {s : Sk} (hs : s.length = d.length) : ∀ {ps : List Sk}, (∀ p ∈ ps, p.length = d.length) → has (ps.flatMap fun o => split o s) d = (has ps d && !inS s d)
  | [], _ => by simp [has]
  | p :: ps, h => by
    have ih := flat_in hs (ps := ps) fun q hq => h q (List.mem_cons_of_mem _ hq)
    have q := split_in (h p List.mem_cons_self) hs
    unfold has at ih q ⊢
    rw [List.flatMap_cons, List.any_append, ih, q, List.any_cons]
    cases inS p d <;> cases inS s d <;> simp
theorem without_go {d : Dk} : ∀ {p : List Sk} {ps : List Sk}, (∀ q ∈ ps, q.length = d.length) → (∀ q ∈ p, q.length = d.length) →
    has (p.foldl (fun ps s => ps.flatMap fun o => split o s) ps) d = (has ps d && !has p d)
  | [], ps, _, _ => by simp [has]
  | s :: p, ps, h1, h2 => by
    have hs := h2 s List.mem_cons_self
    rw [List.foldl_cons, without_go (p := p) (flat_len h1) fun q hq => h2 q (List.mem_cons_of_mem _ hq), flat_in hs h1]
    have e : has (s :: p) d = (inS s d || has p d) := by simp [has]
    rw [e]
    cases has ps d <;> cases inS s d <;> cases has p d <;> rfl
/-- what is left of a sketch without a piece: exactly its disks without the piece -/
theorem without_in {a : Sk} {p : List Sk} {d : Dk} (h1 : a.length = d.length) (h2 : ∀ q ∈ p, q.length = d.length) : has (without a p) d = (inS a d && !has p d) := by
  unfold without
  rw [without_go (fun q hq => by rw [List.mem_singleton] at hq; rw [hq, h1]) h2]
  simp [has]
theorem has_iff {p : List Sk} {d : Dk} : has p d = true ↔ ∃ s, s ∈ p ∧ inS s d = true := by simp [has]

/-! ### validity -/
theorem vSk_len {sizes : List Nat} {s : Sk} (h : vSk sizes s) : s.length = sizes.length := h.length.symm
theorem vDk_len {sizes : List Nat} {s : Sk} (h : vDk sizes s) : s.length = sizes.length := h.length.symm
theorem vSk_pos {sizes : List Nat} : ∀ {s : Sk}, vSk sizes s → 0 ∉ s
  | _, .nil => by simp
  | _, .cons (b := b) h t => by
    simp only [List.mem_cons, not_or]
    exact ⟨by omega, vSk_pos t⟩
theorem and_le_l (x y : Nat) : x &&& y ≤ x := Nat.and_le_left
theorem vSk_meetL : ∀ {sizes a b : List Nat}, vSk sizes a → b.length = a.length → 0 ∉ meetL a b → vSk sizes (meetL a b)
  | _, _, [], .nil, _, _ => .nil
  | _, _, _ :: _, .nil, h, _ => by simp at h
  | _, _, [], .cons _ _, h, _ => by simp at h
  | _, _, y :: b, .cons (b := x) (bs := xs) h t, hl, h0 => by
    have e : meetL (x :: xs) (y :: b) = (x &&& y) :: meetL xs b := rfl
    rw [e] at h0 ⊢
    simp only [List.mem_cons, not_or] at h0
    have q : x &&& y ≤ x := Nat.and_le_left
    exact .cons ⟨by omega, by omega⟩ (vSk_meetL t (by simpa using hl) h0.2)
theorem vSk_meet {sizes a b m : List Nat} (ha : vSk sizes a) (hb : b.length = a.length) (e : meet a b = some m) : vSk sizes m := by
  obtain ⟨e1, h0⟩ := meet_some e
  rw [e1]
  exact vSk_meetL ha hb h0
theorem xor_lt {x y n : Nat} (hx : x < 2 ^ n) (hy : y < 2 ^ n) : x ^^^ y < 2 ^ n := Nat.xor_lt_two_pow hx hy
theorem vSk_splitGo : ∀ {sp sizes a b : List Nat} {pre : List Nat}, vSk sp pre → vSk sizes a → vSk sizes b → ∀ p ∈ splitGo pre a b, vSk (sp ++ sizes) p
  | _, _, _, _, _, _, .nil, .nil => by simp [splitGo]
  | sp, _, _, _, pre, hp, .cons (a := n) (b := x) (as := sz) (bs := a) h1 t1, .cons (b := y) (bs := b) h2 t2 => by
    intro p hm
    simp only [splitGo, List.mem_append] at hm
    rcases hm with hm | hm
    · split at hm
      · cases hm
      · rename_i hz
        rw [List.mem_singleton] at hm
        rw [hm]
        refine A2.append hp (.cons ⟨by omega, xor_lt h1.2 h2.2⟩ t1)
    · have q := vSk_splitGo (sp := sp ++ [n]) (pre := pre ++ [y]) (A2.snoc hp h2) t1 t2 p hm
      simpa using q
theorem vSk_split {sizes a b : List Nat} (ha : vSk sizes a) (hb : b.length = a.length) : ∀ p ∈ split a b, vSk sizes p := by
  intro p hp
  unfold split at hp
  split at hp
  · rw [List.mem_singleton] at hp
    rw [hp]
    exact ha
  · rename_i m e
    have q := vSk_splitGo (sp := []) (pre := []) .nil ha (vSk_meet ha hb e) p hp
    simpa using q
theorem vSk_withoutGo {sizes : List Nat} : ∀ {p ps : List Sk}, (∀ q ∈ ps, vSk sizes q) → (∀ q ∈ p, q.length = sizes.length) → ∀ q ∈ p.foldl (fun ps s => ps.flatMap fun o => split o s) ps, vSk sizes q
  | [], ps, h, _ => h
  | s :: p, ps, h, h2 => by
    rw [List.foldl_cons]
    refine vSk_withoutGo (p := p) (fun q hq => ?_) fun q hq => h2 q (List.mem_cons_of_mem _ hq)
    obtain ⟨o, ho, hq⟩ := List.mem_flatMap.mp hq
    exact vSk_split (h o ho) (by rw [h2 s List.mem_cons_self, vSk_len (h o ho)]) q hq
theorem vSk_without {sizes a : List Nat} {p : List Sk} (ha : vSk sizes a) (hp : ∀ q ∈ p, q.length = sizes.length) : ∀ q ∈ without a p, vSk sizes q :=
  vSk_withoutGo (fun q hq => by rw [List.mem_singleton] at hq; rw [hq]; exact ha) hp
theorem vSk_late {sizes s : List Nat} {early late : List Sk} (hs : vSk sizes s) (he : ∀ q ∈ early, q.length = sizes.length) (hl : ∀ q ∈ late, q.length = sizes.length) : ∀ q ∈ lateParts s early late, vSk sizes q := by
  intro q hq
  obtain ⟨o, ho, hq⟩ := List.mem_flatMap.mp hq
  cases e : meet s o with
  | none => simp [e] at hq
  | some m =>
    simp only [e] at hq
    exact vSk_without (vSk_meet hs (by rw [hl o ho, vSk_len hs]) e) he q hq
theorem late_in {s : Sk} {early late : List Sk} {d : Dk} (hs : s.length = d.length) (he : ∀ q ∈ early, q.length = d.length) (hl : ∀ q ∈ late, q.length = d.length) :
    has (lateParts s early late) d = (inS s d && (has late d && !has early d)) := by
  unfold lateParts
  induction late with
  | nil => simp [has]
  | cons o late ih =>
    have ih := ih fun q hq => hl q (List.mem_cons_of_mem _ hq)
    have ho := hl o List.mem_cons_self
    rw [List.flatMap_cons]
    have e1 : has (o :: late) d = (inS o d || has late d) := by simp [has]
    have e2 : ∀ x y : List Sk, has (x ++ y) d = (has x d || has y d) := fun x y => by simp [has]
    rw [e2, ih, e1]
    cases e : meet s o with
    | none =>
      have q := meet_none hs ho e
      simp only [has, List.any_nil, Bool.false_or]
      cases h1 : inS s d <;> cases h2 : inS o d <;> simp_all
    | some m =>
      have q := inS_meet hs ho e
      have lm : m.length = d.length := by rw [meet_len (hs.trans ho.symm) e, hs]
      simp only
      rw [without_in lm he, q]
      cases inS s d <;> cases inS o d <;> cases has late d <;> cases has early d <;> rfl
theorem incl_in : ∀ {a b d : List Nat}, a.length = d.length → b.length = d.length → incl a b = true → inS a d = true → inS b d = true
  | [], [], [], _, _, _, _ => by simp [inS]
  | [], _ :: _, [], _, h, _, _ => by simp at h
  | [], _, _ :: _, h, _, _, _ => by simp at h
  | _ :: _, _, [], h, _, _, _ => by simp at h
  | _ :: _, [], _ :: _, _, h, _, _ => by simp at h
  | x :: a, y :: b, v :: d, h1, h2, hi, hs => by
    simp only [incl, Bool.and_eq_true, beq_iff_eq] at hi
    simp only [inS, Bool.and_eq_true] at hs ⊢
    refine ⟨?_, incl_in (by simpa using h1) (by simpa using h2) hi.2 hs.2⟩
    have q := hs.1
    rw [← hi.1, Nat.testBit_and, Bool.and_eq_true] at q
    exact q.2
end RwM
/-! the plain law, part 2: deeds, going back -/
namespace RwM

structure Mach where
  sizes : List Nat
  deeds : List Deed
  first : Sk

def val (d : Dk) : Src → Nat
  | .set v => v
  | .copy o => d.getD o 0
def can (deed : Deed) (d : Dk) : Bool := deed.guard.all fun p => p.2.testBit (d.getD p.1 0)
def after (deed : Deed) (d : Dk) : Dk := deed.changes.foldl (fun vs c => vs.set c.1 (val d c.2)) d
def setFull (sizes : List Nat) (ch : List (Nat × Src)) (m : Sk) : Sk := ch.foldl (fun m c => m.set c.1 (2 ^ sizes.getD c.1 0 - 1)) m
def srcGo (s : Sk) : List (Nat × Src) → Sk → Option Sk
  | [], m => some m
  | (c, .set v) :: r, m => if (s.getD c 0).testBit v = true then srcGo s r m else none
  | (c, .copy o) :: r, m => srcGo s r (m.set o (m.getD o 0 &&& s.getD c 0))
def guardGo (g : List (Nat × Nat)) (m : Sk) : Sk := g.foldl (fun m c => m.set c.1 (m.getD c.1 0 &&& c.2)) m
def before (sizes : List Nat) (s : Sk) (deed : Deed) : Option Sk := match srcGo s deed.changes (setFull sizes deed.changes s) with
  | none => none
  | some m => if 0 ∈ guardGo deed.guard m then none else some (guardGo deed.guard m)

/-- a source that fits the cell c -/
def srcOk (sizes : List Nat) (c : Nat) : Src → Prop
  | .set v => v < sizes.getD c 0
  | .copy o => o < sizes.length ∧ sizes.getD o 0 ≤ sizes.getD c 0
structure DeedOk (sizes : List Nat) (deed : Deed) : Prop where
  guard : ∀ p ∈ deed.guard, p.1 < sizes.length ∧ 1 ≤ p.2 ∧ p.2 < 2 ^ sizes.getD p.1 0
  guardUp : deed.guard.Pairwise fun p q => p.1 < q.1
  chg : ∀ p ∈ deed.changes, p.1 < sizes.length ∧ srcOk sizes p.1 p.2
  chgUp : deed.changes.Pairwise fun p q => p.1 < q.1
structure MachOk (M : Mach) : Prop where
  few : 1 ≤ M.sizes.length ∧ M.sizes.length ≤ 4
  size : ∀ n ∈ M.sizes, 1 ≤ n ∧ n ≤ 3
  deed : ∀ d ∈ M.deeds, DeedOk M.sizes d
  fewD : M.deeds.length ≤ 7
  first : vSk M.sizes M.first

theorem getD_set (l : List Nat) (i j x d : Nat) : (l.set i x).getD j d = if i = j ∧ i < l.length then x else l.getD j d := by
  simp only [List.getD_eq_getElem?_getD, List.getElem?_set]
  by_cases h : i = j
  · subst h
    by_cases h2 : i < l.length
    · simp [h2]
    · simp [h2]
  · simp [h]

/-- pointwise: every value of the disk is in its set -/
def Inn (s d : List Nat) : Prop := ∀ i, i < d.length → (s.getD i 0).testBit (d.getD i 0) = true
theorem inn_iff {s d : List Nat} (h : s.length = d.length) : inS s d = true ↔ Inn s d := inS_iff h

theorem fold_set_len {α : Type} (f : List Nat → α → Nat × Nat) : ∀ (l : List α) (m : List Nat), (l.foldl (fun m c => m.set (f m c).1 (f m c).2) m).length = m.length
  | [], _ => rfl
  | c :: l, m => by
    rw [List.foldl_cons, fold_set_len f l, List.length_set]
theorem setFull_len (sizes : List Nat) (ch : List (Nat × Src)) (m : Sk) : (setFull sizes ch m).length = m.length := fold_set_len (fun (_ : List Nat) (c : Nat × Src) => (c.1, 2 ^ sizes.getD c.1 0 - 1)) ch m
theorem guardGo_len (g : List (Nat × Nat)) (m : Sk) : (guardGo g m).length = m.length := fold_set_len (fun (m : List Nat) (c : Nat × Nat) => (c.1, m.getD c.1 0 &&& c.2)) g m
theorem after_len (deed : Deed) (d : Dk) : (after deed d).length = d.length := fold_set_len (fun (_ : List Nat) (c : Nat × Src) => (c.1, val d c.2)) deed.changes d
theorem srcGo_len {s : Sk} : ∀ {r : List (Nat × Src)} {m m' : Sk}, srcGo s r m = some m' → m'.length = m.length
  | [], _, _, h => by cases h; rfl
  | (c, .set v) :: r, m, m', h => by
    simp only [srcGo] at h
    split at h
    · exact srcGo_len h
    · cases h
  | (c, .copy o) :: r, m, m', h => by
    have := srcGo_len (r := r) h
    simpa using this

theorem full_bit {n v : Nat} (h : v < n) : (2 ^ n - 1).testBit v = true := by
  rw [Nat.testBit_two_pow_sub_one]
  simpa using h
/-- cells that the changes name are full, the others as they were -/
theorem setFull_get (sizes : List Nat) (i : Nat) : ∀ (ch : List (Nat × Src)) (m : Sk), (∀ p ∈ ch, p.1 < m.length) →
    (setFull sizes ch m).getD i 0 = if i ∈ ch.map (·.1) then 2 ^ sizes.getD i 0 - 1 else m.getD i 0
  | [], m, _ => by simp [setFull]
  | c :: ch, m, h => by
    have ih := setFull_get sizes i ch (m.set c.1 (2 ^ sizes.getD c.1 0 - 1)) (fun p hp => by rw [List.length_set]; exact h p (List.mem_cons_of_mem _ hp))
    have hc := h c List.mem_cons_self
    have e : setFull sizes (c :: ch) m = setFull sizes ch (m.set c.1 (2 ^ sizes.getD c.1 0 - 1)) := rfl
    rw [e, ih, getD_set]
    by_cases h1 : i ∈ ch.map (·.1)
    · rw [if_pos h1, if_pos (by rw [List.map_cons]; exact List.mem_cons_of_mem _ h1)]
    · rw [if_neg h1]
      by_cases h2 : c.1 = i
      · subst h2
        rw [if_pos ⟨rfl, hc⟩, if_pos (by simp)]
      · have h3 : i ∉ (c :: ch).map (·.1) := by
          rw [List.map_cons, List.mem_cons]
          intro q
          rcases q with q | q
          · exact h2 q.symm
          · exact h1 q
        rw [if_neg (fun q => h2 q.1), if_neg h3]
theorem after_get (d : Dk) (i : Nat) : ∀ (ch : List (Nat × Src)) (vs : Dk), (∀ p ∈ ch, p.1 < vs.length) → ch.Pairwise (fun p q => p.1 < q.1) →
    (∀ p ∈ ch, (ch.foldl (fun vs c => vs.set c.1 (val d c.2)) vs).getD p.1 0 = val d p.2) ∧ (i ∉ ch.map (·.1) → (ch.foldl (fun vs c => vs.set c.1 (val d c.2)) vs).getD i 0 = vs.getD i 0)
  | [], vs, _, _ => by simp
  | c :: ch, vs, h, hp => by
    obtain ⟨hp1, hp2⟩ := List.pairwise_cons.mp hp
    have hh : ∀ p ∈ ch, p.1 < (vs.set c.1 (val d c.2)).length := fun p hp => by rw [List.length_set]; exact h p (List.mem_cons_of_mem _ hp)
    obtain ⟨ih1, ih2⟩ := after_get d i ch (vs.set c.1 (val d c.2)) hh hp2
    have ih3 := (after_get d c.1 ch (vs.set c.1 (val d c.2)) hh hp2).2
    rw [List.foldl_cons]
    refine ⟨fun p hm => ?_, fun hn => ?_⟩
    · rcases List.mem_cons.mp hm with rfl | hm
      · have hnot : p.1 ∉ ch.map (·.1) := fun q => by
          obtain ⟨z, hz, e⟩ := List.mem_map.mp q
          have := hp1 z hz
          omega
        rw [ih3 hnot, getD_set, if_pos ⟨rfl, h p List.mem_cons_self⟩]
      · exact ih1 p hm
    · rw [List.map_cons, List.mem_cons] at hn
      rw [ih2 (fun q => hn (.inr q)), getD_set, if_neg (fun q => hn (.inl q.1.symm))]

theorem inn_set {m d : List Nat} {o x : Nat} (hl : m.length = d.length) (ho : o < d.length) : Inn (m.set o (m.getD o 0 &&& x)) d ↔ Inn m d ∧ x.testBit (d.getD o 0) = true := by
  constructor
  · intro h
    have h0 := h o ho
    rw [getD_set, if_pos ⟨rfl, by omega⟩, Nat.testBit_and, Bool.and_eq_true] at h0
    refine ⟨fun i hi => ?_, h0.2⟩
    have hi' := h i hi
    rw [getD_set] at hi'
    by_cases q : o = i
    · subst q
      exact h0.1
    · rwa [if_neg (fun z => q z.1)] at hi'
  · rintro ⟨h1, h2⟩ i hi
    rw [getD_set]
    by_cases q : o = i
    · subst q
      rw [if_pos ⟨rfl, by omega⟩, Nat.testBit_and, h1 o ho, h2]
      rfl
    · rw [if_neg (fun z => q z.1)]
      exact h1 i hi
theorem guardGo_in {d : Dk} : ∀ {g : List (Nat × Nat)} {m : Sk}, m.length = d.length → (∀ p ∈ g, p.1 < d.length) → (Inn (guardGo g m) d ↔ Inn m d ∧ ∀ p ∈ g, p.2.testBit (d.getD p.1 0) = true)
  | [], m, _, _ => by simp [guardGo]
  | c :: g, m, hl, h => by
    have ih := guardGo_in (d := d) (g := g) (m := m.set c.1 (m.getD c.1 0 &&& c.2)) (by rw [List.length_set, hl]) fun p hp => h p (List.mem_cons_of_mem _ hp)
    have e : guardGo (c :: g) m = guardGo g (m.set c.1 (m.getD c.1 0 &&& c.2)) := rfl
    rw [e, ih, inn_set hl (h c List.mem_cons_self), and_assoc]
    simp
theorem srcGo_in {s : Sk} {d : Dk} {sizes : List Nat} : ∀ {r : List (Nat × Src)} {m : Sk}, m.length = d.length → (∀ p ∈ r, srcOk sizes p.1 p.2) → sizes.length = d.length →
    ((∃ m', srcGo s r m = some m' ∧ Inn m' d) ↔ Inn m d ∧ ∀ p ∈ r, (s.getD p.1 0).testBit (val d p.2) = true)
  | [], m, _, _, _ => by simp [srcGo]
  | (c, .set v) :: r, m, hl, h, hs => by
    have ih := srcGo_in (s := s) (d := d) (sizes := sizes) (r := r) (m := m) hl (fun p hp => h p (List.mem_cons_of_mem _ hp)) hs
    have e : (∀ p ∈ (c, Src.set v) :: r, (s.getD p.1 0).testBit (val d p.2) = true) ↔ ((s.getD c 0).testBit v = true ∧ ∀ p ∈ r, (s.getD p.1 0).testBit (val d p.2) = true) := by
      rw [List.forall_mem_cons]
      exact Iff.rfl
    rw [e]
    simp only [srcGo]
    by_cases q : (s.getD c 0).testBit v = true
    · rw [if_pos q, ih]
      exact ⟨fun z => ⟨z.1, q, z.2⟩, fun z => ⟨z.1, z.2.2⟩⟩
    · rw [if_neg q]
      constructor
      · rintro ⟨m', e, _⟩
        cases e
      · rintro ⟨_, z, _⟩
        exact absurd z q
  | (c, .copy o) :: r, m, hl, h, hs => by
    have ih := srcGo_in (s := s) (d := d) (sizes := sizes) (r := r) (m := m.set o (m.getD o 0 &&& s.getD c 0)) (by rw [List.length_set, hl]) (fun p hp => h p (List.mem_cons_of_mem _ hp)) hs
    have ho : o < d.length := by
      have := (h (c, .copy o) List.mem_cons_self).1
      omega
    have e : (∀ p ∈ (c, Src.copy o) :: r, (s.getD p.1 0).testBit (val d p.2) = true) ↔ ((s.getD c 0).testBit (d.getD o 0) = true ∧ ∀ p ∈ r, (s.getD p.1 0).testBit (val d p.2) = true) := by
      rw [List.forall_mem_cons]
      exact Iff.rfl
    rw [e]
    simp only [srcGo]
    rw [ih, inn_set hl ho, and_assoc]

/-- the sketch before a deed holds just the disks on which the deed can be done and leads into the sketch -/
theorem before_in {sizes : List Nat} {s : Sk} {deed : Deed} {d : Dk} (ok : DeedOk sizes deed) (hs : s.length = sizes.length) (hd : vDk sizes d) :
    (∃ m, before sizes s deed = some m ∧ inS m d = true) ↔ (can deed d = true ∧ inS s (after deed d) = true) := by
  have ld : d.length = sizes.length := vDk_len hd
  have hch : ∀ p ∈ deed.changes, p.1 < s.length := fun p hp => by rw [hs]; exact (ok.chg p hp).1
  have lf : (setFull sizes deed.changes s).length = d.length := by rw [setFull_len, hs, ld]
  have e0 : (∃ m, before sizes s deed = some m ∧ inS m d = true) ↔ ∃ m, srcGo s deed.changes (setFull sizes deed.changes s) = some m ∧ Inn (guardGo deed.guard m) d := by
    unfold before
    constructor
    · rintro ⟨m, e, hi⟩
      split at e
      · cases e
      · rename_i m' e'
        refine ⟨m', e', ?_⟩
        split at e
        · cases e
        · cases e
          refine (inn_iff ?_).mp hi
          rw [guardGo_len, srcGo_len e', lf]
    · rintro ⟨m, e, hi⟩
      rw [e]
      have lg : (guardGo deed.guard m).length = d.length := by rw [guardGo_len, srcGo_len e, lf]
      have hn : 0 ∉ guardGo deed.guard m := fun q => by
        have z := inS_zero lg q
        rw [(inn_iff lg).mpr hi] at z
        cases z
      exact ⟨_, if_neg hn, (inn_iff lg).mpr hi⟩
  rw [e0]
  have e1 : (∃ m, srcGo s deed.changes (setFull sizes deed.changes s) = some m ∧ Inn (guardGo deed.guard m) d) ↔
      (∃ m, srcGo s deed.changes (setFull sizes deed.changes s) = some m ∧ Inn m d) ∧ ∀ p ∈ deed.guard, p.2.testBit (d.getD p.1 0) = true := by
    constructor
    · rintro ⟨m, e, hi⟩
      have q := (guardGo_in (by rw [srcGo_len e, lf]) fun p hp => by rw [ld]; exact (ok.guard p hp).1).mp hi
      exact ⟨⟨m, e, q.1⟩, q.2⟩
    · rintro ⟨⟨m, e, hi⟩, h2⟩
      exact ⟨m, e, (guardGo_in (by rw [srcGo_len e, lf]) fun p hp => by rw [ld]; exact (ok.guard p hp).1).mpr ⟨hi, h2⟩⟩
  rw [e1, srcGo_in (sizes := sizes) lf (fun p hp => (ok.chg p hp).2) ld.symm]
  have la : (after deed d).length = d.length := after_len deed d
  have e2 : inS s (after deed d) = true ↔ Inn (setFull sizes deed.changes s) d ∧ ∀ p ∈ deed.changes, (s.getD p.1 0).testBit (val d p.2) = true := by
    rw [inn_iff (by rw [hs, la, ld])]
    have ag := fun i => after_get d i deed.changes d (fun p hp => by rw [ld]; exact (ok.chg p hp).1) ok.chgUp
    constructor
    · intro h
      refine ⟨fun i hi => ?_, fun p hp => ?_⟩
      · rw [setFull_get sizes i deed.changes s hch]
        by_cases q : i ∈ deed.changes.map (·.1)
        · rw [if_pos q]
          refine full_bit ?_
          have hi2 : i < sizes.length := by omega
          obtain ⟨v, hv, hlt⟩ := A2.get_l hd (List.getElem?_eq_getElem hi2)
          rw [List.getD_eq_getElem?_getD, List.getD_eq_getElem?_getD, hv, List.getElem?_eq_getElem hi2]
          exact hlt
        · rw [if_neg q]
          have := h i (by rw [la]; exact hi)
          unfold after at this
          rwa [(ag i).2 q] at this
      · have := h p.1 (by rw [la, ld]; exact (ok.chg p hp).1)
        unfold after at this
        rwa [(ag 0).1 p hp] at this
    · rintro ⟨h1, h2⟩ i hi
      rw [la] at hi
      by_cases q : i ∈ deed.changes.map (·.1)
      · obtain ⟨p, hp, e⟩ := List.mem_map.mp q
        subst e
        unfold after
        rw [(ag 0).1 p hp]
        exact h2 p hp
      · have := h1 i hi
        rw [setFull_get sizes i deed.changes s hch, if_neg q] at this
        unfold after
        rw [(ag i).2 q]
        exact this
  rw [e2]
  unfold can
  rw [List.all_eq_true]
  constructor
  · rintro ⟨⟨a, b⟩, c⟩
    exact ⟨c, a, b⟩
  · rintro ⟨c, a, b⟩
    exact ⟨⟨a, b⟩, c⟩

theorem A2_set_l {α β : Type} {R : α → β → Prop} : ∀ {xs : List α} {ys : List β} {i : Nat} {a : α} {y : β}, A2 R xs ys → xs[i]? = some a → R a y → A2 R xs (ys.set i y)
  | _, _, _, _, _, .nil, h, _ => by simp at h
  | _, _, 0, _, _, .cons _ t, h, r => by
    simp at h
    subst h
    exact .cons r t
  | _, _, i + 1, _, _, .cons h0 t, h, r => .cons h0 (A2_set_l (i := i) t (by simpa using h) r)
theorem getD_some {l : List Nat} {i x : Nat} (h : l[i]? = some x) (d : Nat) : l.getD i d = x := by rw [List.getD_eq_getElem?_getD, h]; rfl
/-- after a deed the disk is a disk -/
theorem vDk_after {sizes : List Nat} {deed : Deed} {d : Dk} (ok : DeedOk sizes deed) (hd : vDk sizes d) : vDk sizes (after deed d) := by
  have go : ∀ (ch : List (Nat × Src)) (vs : Dk), (∀ p ∈ ch, p.1 < sizes.length ∧ srcOk sizes p.1 p.2) → vDk sizes vs → vDk sizes (ch.foldl (fun vs c => vs.set c.1 (val d c.2)) vs) := by
    intro ch
    induction ch with
    | nil => intro vs _ h; exact h
    | cons c ch ih =>
      intro vs h hv
      rw [List.foldl_cons]
      refine ih _ (fun p hp => h p (List.mem_cons_of_mem _ hp)) ?_
      obtain ⟨h1, h2⟩ := h c List.mem_cons_self
      have e := List.getElem?_eq_getElem h1
      refine A2_set_l hv e ?_
      have e3 := getD_some e 0
      obtain ⟨c1, c2⟩ := c
      cases c2 with
      | set v =>
        have q : v < sizes.getD c1 0 := h2
        rw [e3] at q
        exact q
      | copy o =>
        obtain ⟨q1, q2⟩ : o < sizes.length ∧ sizes.getD o 0 ≤ sizes.getD c1 0 := h2
        rw [e3] at q2
        have eo := List.getElem?_eq_getElem q1
        obtain ⟨v, hv1, hv2⟩ := A2.get_l hd eo
        show d.getD o 0 < _
        rw [getD_some hv1]
        rw [getD_some eo] at q2
        exact Nat.lt_of_lt_of_le hv2 q2
  exact go _ _ ok.chg hd

/-- the sketch before a deed is a sketch -/
theorem vSk_before {sizes : List Nat} {s : Sk} {deed : Deed} {m : Sk} (ok : DeedOk sizes deed) (hpos : ∀ n ∈ sizes, 1 ≤ n) (hs : vSk sizes s) (e : before sizes s deed = some m) : vSk sizes m := by
  -- masks below 2 ^ size at each stage; positive at the end
  have lt_of : ∀ {n m : Nat}, m < 2 ^ n → ∀ x, m &&& x < 2 ^ n := fun h x => Nat.lt_of_le_of_lt Nat.and_le_left h
  let B : List Nat → Prop := fun m => A2 (fun n m => m < 2 ^ n) sizes m
  have b0 : B s := A2.imp (fun _ _ h => h.2) hs
  have bset : ∀ {m : List Nat} {i x : Nat}, B m → (i < sizes.length → x < 2 ^ sizes.getD i 0) → B (m.set i x) := by
    intro m i x hm hx
    by_cases hi : i < sizes.length
    · have e := List.getElem?_eq_getElem hi
      have q := hx hi
      rw [getD_some e] at q
      exact A2_set_l hm e q
    · have : m.set i x = m := List.set_eq_of_length_le (by rw [← A2.length hm]; omega)
      rw [this]
      exact hm
  have bget : ∀ {m : List Nat} {i : Nat}, B m → i < sizes.length → m.getD i 0 < 2 ^ sizes.getD i 0 := by
    intro m i hm hi
    have e := List.getElem?_eq_getElem hi
    obtain ⟨v, hv1, hv2⟩ := A2.get_l hm e
    rw [getD_some hv1, getD_some e]
    exact hv2
  have b1 : ∀ (ch : List (Nat × Src)) (m : Sk), B m → B (setFull sizes ch m) := by
    intro ch
    induction ch with
    | nil => intro m h; exact h
    | cons c ch ih =>
      intro m h
      refine ih _ (bset h fun _ => ?_)
      have : 0 < 2 ^ sizes.getD c.1 0 := Nat.two_pow_pos _
      omega
  have b2 : ∀ (r : List (Nat × Src)) (m m' : Sk), B m → srcGo s r m = some m' → B m' := by
    intro r
    induction r with
    | nil => intro m m' h e; cases e; exact h
    | cons c r ih =>
      intro m m' h e
      obtain ⟨c1, c2⟩ := c
      cases c2 with
      | set v =>
        simp only [srcGo] at e
        split at e
        · exact ih m m' h e
        · cases e
      | copy o => exact ih _ m' (bset h fun ho => lt_of (bget h ho) _) e
  have b3 : ∀ (g : List (Nat × Nat)) (m : Sk), B m → B (guardGo g m) := by
    intro g
    induction g with
    | nil => intro m h; exact h
    | cons c g ih =>
      intro m h
      exact ih _ (bset h fun ho => lt_of (bget h ho) _)
  unfold before at e
  split at e
  · cases e
  · rename_i m' e'
    split at e
    · cases e
    · rename_i h0
      cases e
      have hb := b3 deed.guard m' (b2 _ _ _ (b1 _ _ b0) e')
      have gen : ∀ (sz m : List Nat), A2 (fun n m => m < 2 ^ n) sz m → 0 ∉ m → vSk sz m := by
        intro sz m h
        induction h with
        | nil => intro _; exact .nil
        | cons h t ih =>
          intro hn
          simp only [List.mem_cons, not_or] at hn
          exact .cons ⟨by omega, h⟩ (ih hn.2)
      exact gen _ _ hb h0
end RwM
/-! the plain law, part 3: the search, its table, ways -/
namespace RwM

structure SS where
  sk : List Sk
  org : List (Option (Nat × Nat))
  fnd : Option Nat

def pack (s : Sk) : Nat := s.foldl (fun p m => p * 65536 ||| m) 0
def findSk (p : Nat) : List Sk → Nat → Option Nat
  | [], _ => none
  | t :: r, i => if p &&& pack t = p then some i else findSk p r (i + 1)
def found (first : Sk) (st : SS) (s : Sk) : Option Nat := if st.fnd = none ∧ meet s first ≠ none then some st.sk.length else st.fnd
def place (first : Sk) (st : SS) (s : Sk) (o : Option (Nat × Nat)) : Nat × SS := match findSk (pack s) st.sk 0 with
  | some i => (i, st)
  | none => (st.sk.length, ⟨st.sk ++ [s], st.org ++ [o], found first st s⟩)
def placeAll (first : Sk) (o : Option (Nat × Nat)) : SS → List Sk → List Nat × SS
  | st, [] => ([], st)
  | st, p :: ps => ((place first st p o).1 :: (placeAll first o (place first st p o).2 ps).1, (placeAll first o (place first st p o).2 ps).2)
def parts (sizes : List Nat) (s : Sk) (deed : Deed) (piece : List Sk) : List Sk := match before sizes s deed with
  | none => []
  | some b => without b piece
def rowGo (M : Mach) (piece : List Sk) (s : Sk) (number : Nat) : SS → Nat → List Deed → List (List Nat) × SS
  | st, _, [] => ([], st)
  | st, d, deed :: r => ((placeAll M.first (some (d, number)) st (parts M.sizes s deed piece)).1 :: (rowGo M piece s number (placeAll M.first (some (d, number)) st (parts M.sizes s deed piece)).2 (d + 1) r).1,
      (rowGo M piece s number (placeAll M.first (some (d, number)) st (parts M.sizes s deed piece)).2 (d + 1) r).2)

/-! ### packing -/
theorem pk_bit (p m i : Nat) (hm : m < 65536) : (p * 65536 ||| m).testBit i = if i < 16 then m.testBit i else p.testBit (i - 16) := by
  rw [Nat.testBit_or]
  have e : (p * 65536).testBit i = (decide (16 ≤ i) && p.testBit (i - 16)) := by
    have := Nat.testBit_mul_two_pow p i 16
    simpa using this
  rw [e]
  by_cases h : i < 16
  · have h2 : ¬ 16 ≤ i := by omega
    simp [h, h2]
  · have h2 : 16 ≤ i := by omega
    have h3 : m.testBit i = false := Nat.testBit_lt_two_pow (Nat.lt_of_lt_of_le hm (by
      show 2 ^ 16 ≤ 2 ^ i
      exact Nat.pow_le_pow_right (by omega) h2))
    simp [h, h2, h3]
theorem pk_and {p q x y : Nat} (hx : x < 65536) (hy : y < 65536) : ((p * 65536 ||| x) &&& (q * 65536 ||| y) = (p * 65536 ||| x)) ↔ (p &&& q = p ∧ x &&& y = x) := by
  constructor
  · intro h
    constructor
    · apply Nat.eq_of_testBit_eq
      intro i
      have := congrArg (fun z : Nat => z.testBit (i + 16)) h
      simp only [Nat.testBit_and, pk_bit _ _ _ hx, pk_bit _ _ _ hy] at this
      have e : ¬ i + 16 < 16 := by omega
      simp only [if_neg e, Nat.add_sub_cancel] at this
      rw [Nat.testBit_and]
      exact this
    · apply Nat.eq_of_testBit_eq
      intro i
      rw [Nat.testBit_and]
      by_cases hi : i < 16
      · have := congrArg (fun z : Nat => z.testBit i) h
        simp only [Nat.testBit_and, pk_bit _ _ _ hx, pk_bit _ _ _ hy, if_pos hi] at this
        exact this
      · have h3 : x.testBit i = false := Nat.testBit_lt_two_pow (Nat.lt_of_lt_of_le hx (by
          show 2 ^ 16 ≤ 2 ^ i
          exact Nat.pow_le_pow_right (by omega) (by omega)))
        rw [h3]
        rfl
  · rintro ⟨h1, h2⟩
    apply Nat.eq_of_testBit_eq
    intro i
    rw [Nat.testBit_and, pk_bit _ _ _ hx, pk_bit _ _ _ hy]
    by_cases hi : i < 16
    · rw [if_pos hi, if_pos hi, ← Nat.testBit_and, h2]
    · rw [if_neg hi, if_neg hi, ← Nat.testBit_and, h1]
theorem pack_go : ∀ {a b : Sk} {p q : Nat}, a.length = b.length → (∀ x ∈ a, x < 65536) → (∀ x ∈ b, x < 65536) →
    ((a.foldl (fun p m => p * 65536 ||| m) p) &&& (b.foldl (fun p m => p * 65536 ||| m) q) = a.foldl (fun p m => p * 65536 ||| m) p) → (p &&& q = p ∧ incl a b = true)
  | [], [], _, _, _, _, _, h => ⟨by simpa using h, rfl⟩
  | [], _ :: _, _, _, h, _, _, _ => by simp at h
  | _ :: _, [], _, _, h, _, _, _ => by simp at h
  | x :: a, y :: b, p, q, hl, ha, hb, h => by
    rw [List.foldl_cons, List.foldl_cons] at h
    obtain ⟨h1, h2⟩ := pack_go (by simpa using hl) (fun z hz => ha z (List.mem_cons_of_mem _ hz)) (fun z hz => hb z (List.mem_cons_of_mem _ hz)) h
    obtain ⟨h3, h4⟩ := (pk_and (ha x List.mem_cons_self) (hb y List.mem_cons_self)).mp h1
    refine ⟨h3, ?_⟩
    simp [incl, h2, h4]
theorem pack_incl {a b : Sk} (hl : a.length = b.length) (ha : ∀ x ∈ a, x < 65536) (hb : ∀ x ∈ b, x < 65536) (h : pack a &&& pack b = pack a) : incl a b = true := (pack_go hl ha hb h).2
theorem pack_lt_go : ∀ (s : Sk) (p k : Nat), p < 2 ^ k → (∀ x ∈ s, x < 65536) → s.foldl (fun p m => p * 65536 ||| m) p < 2 ^ (k + 16 * s.length)
  | [], p, k, h, _ => by simpa using h
  | x :: s, p, k, h, hx => by
    rw [List.foldl_cons]
    have h0 : p * 65536 ||| x < 2 ^ (k + 16) := by
      refine Nat.or_lt_two_pow ?_ ?_
      · rw [Nat.pow_add]
        omega
      · exact Nat.lt_of_lt_of_le (hx x List.mem_cons_self) (by
          show 2 ^ 16 ≤ _
          exact Nat.pow_le_pow_right (by omega) (by omega))
    have := pack_lt_go s _ (k + 16) h0 fun z hz => hx z (List.mem_cons_of_mem _ hz)
    have e : k + 16 + 16 * s.length = k + 16 * (x :: s).length := by
      rw [List.length_cons]
      omega
    rwa [e] at this
theorem vSk_lt {sizes : List Nat} (h3 : ∀ n ∈ sizes, n ≤ 3) : ∀ {s : Sk}, vSk sizes s → ∀ x ∈ s, x < 8
  | _, .nil => by simp
  | _, .cons (a := n) (b := y) h t => fun x hx => by
    rcases List.mem_cons.mp hx with rfl | hx
    · have q := h3 n List.mem_cons_self
      have : 2 ^ n ≤ 2 ^ 3 := Nat.pow_le_pow_right (by omega) q
      omega
    · exact vSk_lt (fun n hn => h3 n (List.mem_cons_of_mem _ hn)) t x hx
theorem findSk_some {p : Nat} : ∀ {l : List Sk} {i j : Nat}, findSk p l i = some j → i ≤ j ∧ ∃ t, l[j - i]? = some t ∧ p &&& pack t = p
  | [], _, _, h => by simp [findSk] at h
  | t :: r, i, j, h => by
    unfold findSk at h
    split at h
    · rename_i hp
      cases h
      exact ⟨Nat.le_refl _, t, by simp, hp⟩
    · obtain ⟨h1, t', h2, h3⟩ := findSk_some h
      refine ⟨by omega, t', ?_, h3⟩
      have e : j - i = (j - (i + 1)) + 1 := by omega
      rw [e]
      simpa using h2
theorem findSk_none {p : Nat} : ∀ {l : List Sk} {i : Nat}, findSk p l i = none → ∀ t ∈ l, p &&& pack t ≠ p
  | [], _, _ => by simp
  | t :: r, i, h => by
    unfold findSk at h
    split at h
    · cases h
    · rename_i hp
      intro t' ht
      rcases List.mem_cons.mp ht with rfl | ht
      · exact hp
      · exact findSk_none h t' ht

/-! ### the invariant -/
structure SInv (M : Mach) (piece : List Sk) (B : Nat → Sk → Prop) (st : SS) : Prop where
  len : st.org.length = st.sk.length
  val : ∀ s ∈ st.sk, vSk M.sizes s
  nd : st.sk.Nodup
  fnd : ∀ k, st.fnd = some k → ∃ s m, st.sk[k]? = some s ∧ meet s M.first = some m
  nofnd : st.fnd = none → ∀ s ∈ st.sk, meet s M.first = none
  base : ∀ k s, st.sk[k]? = some s → st.org[k]? = some none → B k s
  org : ∀ (k : Nat) (s : Sk) (d j : Nat), st.sk[k]? = some s → st.org[k]? = some (some (d, j)) → j < k ∧ ∃ deed t b, M.deeds[d]? = some deed ∧ st.sk[j]? = some t ∧ before M.sizes t deed = some b ∧ s ∈ without b piece
/-- the start -/
theorem SInv.start (M : Mach) (piece : List Sk) (B : Nat → Sk → Prop) : SInv M piece B ⟨[], [], none⟩ where
  len := rfl
  val := fun _ h => nomatch h
  nd := List.nodup_nil
  fnd := fun _ h => nomatch h
  nofnd := fun _ _ h => nomatch h
  base := fun _ _ h => by simp at h
  org := fun _ _ _ _ h => by simp at h
/-- what may be placed with an origin -/
def OrgOk (M : Mach) (piece : List Sk) (B : Nat → Sk → Prop) (st : SS) (o : Option (Nat × Nat)) (s : Sk) : Prop := match o with
  | none => B st.sk.length s
  | some (d, j) => ∃ deed t b, M.deeds[d]? = some deed ∧ st.sk[j]? = some t ∧ before M.sizes t deed = some b ∧ s ∈ without b piece
def Ext (a b : SS) : Prop := ∃ more, b.sk = a.sk ++ more
theorem Ext.refl (a : SS) : Ext a a := ⟨[], by simp⟩
theorem Ext.trans {a b c : SS} (h : Ext a b) (k : Ext b c) : Ext a c := by
  obtain ⟨m, e⟩ := h
  obtain ⟨n, f⟩ := k
  exact ⟨m ++ n, by rw [f, e, List.append_assoc]⟩
theorem Ext.get {a b : SS} (h : Ext a b) {i : Nat} {s : Sk} (e : a.sk[i]? = some s) : b.sk[i]? = some s := by
  obtain ⟨m, f⟩ := h
  rw [f, List.getElem?_append_left (List.getElem?_eq_some_iff.mp e).1, e]
theorem Ext.le {a b : SS} (h : Ext a b) : a.sk.length ≤ b.sk.length := by
  obtain ⟨m, f⟩ := h
  rw [f, List.length_append]
  omega
theorem lt8 {x : Nat} (h : x < 8) : x < 65536 := by omega
theorem snoc_get {α : Type} {l : List α} {a s : α} {k : Nat} (h : (l ++ [a])[k]? = some s) : (l[k]? = some s) ∨ (k = l.length ∧ s = a) := by
  rw [List.getElem?_append] at h
  split at h
  · exact .inl h
  · rename_i hk
    have hk1 : k - l.length = 0 := by
      cases e : k - l.length with
      | zero => rfl
      | succ n =>
        rw [e] at h
        simp at h
    rw [hk1] at h
    simp at h
    exact .inr ⟨by omega, h.symm⟩
theorem place_ok {M : Mach} {piece : List Sk} {B : Nat → Sk → Prop} {st : SS} {s : Sk} {o : Option (Nat × Nat)} (ok : MachOk M) (I : SInv M piece B st) (hs : vSk M.sizes s) (ho : OrgOk M piece B st o s) :
    SInv M piece B (place M.first st s o).2 ∧ Ext st (place M.first st s o).2 ∧ ∃ t, (place M.first st s o).2.sk[(place M.first st s o).1]? = some t ∧ incl s t = true := by
  have h3 : ∀ n ∈ M.sizes, n ≤ 3 := fun n hn => (ok.size n hn).2
  unfold place
  cases e : findSk (pack s) st.sk 0 with
  | some i =>
    obtain ⟨_, t, h1, h2⟩ := findSk_some e
    refine ⟨I, Ext.refl _, t, h1, ?_⟩
    have ht := I.val t (List.mem_of_getElem? h1)
    exact pack_incl (by rw [vSk_len hs, vSk_len ht]) (fun x hx => lt8 (vSk_lt h3 hs x hx)) (fun x hx => lt8 (vSk_lt h3 ht x hx)) h2
  | none =>
    have hnew : s ∉ st.sk := fun hm => findSk_none e s hm (Nat.and_self _)
    refine ⟨⟨?_, ?_, ?_, ?_, ?_, ?_, ?_⟩, ⟨[s], rfl⟩, s, by simp, ?_⟩
    · simp [I.len]
    · intro t ht
      rcases List.mem_append.mp ht with ht | ht
      · exact I.val t ht
      · rw [List.mem_singleton] at ht
        rw [ht]
        exact hs
    · rw [List.nodup_append]
      refine ⟨I.nd, by simp, ?_⟩
      intro a ha b hb
      rw [List.mem_singleton] at hb
      rw [hb]
      exact fun q => hnew (q ▸ ha)
    · intro k hk
      have hk : found M.first st s = some k := hk
      unfold found at hk
      split at hk
      · rename_i hc
        cases hk
        cases hm : meet s M.first with
        | none => exact absurd hm hc.2
        | some m => exact ⟨s, m, by simp, hm⟩
      · obtain ⟨t, m, h1, h2⟩ := I.fnd k hk
        exact ⟨t, m, by rw [List.getElem?_append_left (List.getElem?_eq_some_iff.mp h1).1, h1], h2⟩
    · intro hk
      have hk : found M.first st s = none := hk
      unfold found at hk
      split at hk
      · cases hk
      · rename_i hc
        intro t ht
        rcases List.mem_append.mp ht with ht | ht
        · exact I.nofnd hk t ht
        · rw [List.mem_singleton] at ht
          rw [ht]
          cases hm : meet s M.first with
          | none => rfl
          | some m => exact absurd ⟨hk, by rw [hm]; exact fun q => nomatch q⟩ hc
    · intro k t h1 h2
      rcases snoc_get h1 with h1 | ⟨hk, ht⟩
      · rcases snoc_get h2 with h2 | ⟨hk2, h2⟩
        · exact I.base k t h1 h2
        · have := (List.getElem?_eq_some_iff.mp h1).1
          rw [I.len] at hk2
          omega
      · rcases snoc_get h2 with h2 | ⟨hk2, h2⟩
        · have := (List.getElem?_eq_some_iff.mp h2).1
          rw [I.len] at this
          omega
        · subst h2 ht
          rw [hk]
          exact ho
    · intro k t d j h1 h2
      rcases snoc_get h1 with h1 | ⟨hk, ht⟩
      · rcases snoc_get h2 with h2 | ⟨hk2, h2⟩
        · obtain ⟨q1, deed, t', b, q2, q3, q4, q5⟩ := I.org k t d j h1 h2
          exact ⟨q1, deed, t', b, q2, by rw [List.getElem?_append_left (List.getElem?_eq_some_iff.mp q3).1, q3], q4, q5⟩
        · have := (List.getElem?_eq_some_iff.mp h1).1
          rw [I.len] at hk2
          omega
      · rcases snoc_get h2 with h2 | ⟨hk2, h2⟩
        · have := (List.getElem?_eq_some_iff.mp h2).1
          rw [I.len] at this
          omega
        · subst h2 ht
          obtain ⟨deed, t', b, q2, q3, q4, q5⟩ := ho
          have hj := (List.getElem?_eq_some_iff.mp q3).1
          exact ⟨by omega, deed, t', b, q2, by rw [List.getElem?_append_left hj, q3], q4, q5⟩
    · have gen : ∀ l : Sk, incl l l = true := by
        intro l
        induction l with
        | nil => rfl
        | cons x l ih => simp [incl, ih]
      exact gen s

/-! ### at most 4096 sketches -/
theorem nodup_bound : ∀ (N : Nat) (l : List Nat), l.Nodup → (∀ x ∈ l, x < N) → l.length ≤ N
  | 0, l, _, h => by
    cases l with
    | nil => simp
    | cons x l => exact absurd (h x List.mem_cons_self) (Nat.not_lt_zero _)
  | N + 1, l, hn, h => by
    have h1 := nodup_bound N (l.erase N) (hn.erase N) fun x hx => by
      have q := (List.Nodup.mem_erase_iff hn).mp hx
      have := h x q.2
      omega
    have h2 : l.length ≤ (l.erase N).length + 1 := by
      rw [List.length_erase]
      split <;> omega
    omega
def enc (B : Nat) : List Nat → Nat
  | [] => 0
  | x :: l => x + B * enc B l
theorem enc_lt (B : Nat) : ∀ l : List Nat, (∀ x ∈ l, x < B) → enc B l < B ^ l.length
  | [], _ => by simp [enc]
  | x :: l, h => by
    have ih := enc_lt B l fun y hy => h y (List.mem_cons_of_mem _ hy)
    have hx := h x List.mem_cons_self
    show x + B * enc B l < B ^ (l.length + 1)
    rw [Nat.pow_succ, Nat.mul_comm]
    have h2 : B * (enc B l + 1) ≤ B * B ^ l.length := Nat.mul_le_mul_left _ ih
    rw [Nat.mul_add, Nat.mul_one] at h2
    rw [Nat.mul_comm (enc B l) B, Nat.mul_comm (B ^ l.length) B]
    omega
theorem enc_inj (B : Nat) : ∀ a b : List Nat, a.length = b.length → (∀ x ∈ a, x < B) → (∀ x ∈ b, x < B) → enc B a = enc B b → a = b
  | [], [], _, _, _, _ => rfl
  | [], _ :: _, h, _, _, _ => by simp at h
  | _ :: _, [], h, _, _, _ => by simp at h
  | x :: a, y :: b, hl, ha, hb, he => by
    have hx := ha x List.mem_cons_self
    have hy := hb y List.mem_cons_self
    have e : x + B * enc B a = y + B * enc B b := he
    have e1 : x = y := by
      have := congrArg (· % B) e
      simp only [Nat.add_mul_mod_self_left, Nat.mod_eq_of_lt hx, Nat.mod_eq_of_lt hy] at this
      exact this
    subst e1
    have e2 : enc B a = enc B b := Nat.eq_of_mul_eq_mul_left (by omega : 0 < B) (by omega)
    rw [enc_inj B a b (by simpa using hl) (fun z hz => ha z (List.mem_cons_of_mem _ hz)) (fun z hz => hb z (List.mem_cons_of_mem _ hz)) e2]
theorem nodup_map_on {f : List Nat → Nat} : ∀ (l : List (List Nat)), l.Nodup → (∀ x ∈ l, ∀ y ∈ l, f x = f y → x = y) → (l.map f).Nodup
  | [], _, _ => by simp
  | x :: l, hn, h => by
    obtain ⟨h1, h2⟩ := List.nodup_cons.mp hn
    rw [List.map_cons, List.nodup_cons]
    refine ⟨fun q => ?_, nodup_map_on l h2 fun a ha b hb => h a (List.mem_cons_of_mem _ ha) b (List.mem_cons_of_mem _ hb)⟩
    obtain ⟨y, hy, e⟩ := List.mem_map.mp q
    rw [h y (List.mem_cons_of_mem _ hy) x List.mem_cons_self e] at hy
    exact h1 hy
theorem many_bound (B n : Nat) (l : List (List Nat)) (hn : l.Nodup) (hl : ∀ x ∈ l, x.length = n) (hB : ∀ x ∈ l, ∀ y ∈ x, y < B) : l.length ≤ B ^ n := by
  have h1 := nodup_map_on (f := enc B) l hn fun x hx y hy e => enc_inj B x y ((hl x hx).trans (hl y hy).symm) (hB x hx) (hB y hy) e
  have h2 := nodup_bound (B ^ n) (l.map (enc B)) h1 fun z hz => by
    obtain ⟨x, hx, e⟩ := List.mem_map.mp hz
    have := enc_lt B x (hB x hx)
    rw [hl x hx] at this
    rw [← e]
    exact this
  rwa [List.length_map] at h2
theorem pow_bound {B n : Nat} (hB : 1 ≤ B) (hn : n ≤ 4) : B ^ n ≤ B ^ 4 := Nat.pow_le_pow_right hB hn
theorem SInv.few {M : Mach} {piece : List Sk} {B : Nat → Sk → Prop} {st : SS} (ok : MachOk M) (I : SInv M piece B st) : st.sk.length ≤ 4096 := by
  have h := many_bound 8 M.sizes.length st.sk I.nd (fun x hx => vSk_len (I.val x hx)) fun x hx => vSk_lt (fun n hn => (ok.size n hn).2) (I.val x hx)
  have := pow_bound (B := 8) (by omega) ok.few.2
  omega
theorem disks_few {M : Mach} (ok : MachOk M) {l : List Dk} (hn : l.Nodup) (hv : ∀ d ∈ l, vDk M.sizes d) : l.length ≤ 256 := by
  have lt : ∀ d, vDk M.sizes d → ∀ y ∈ d, y < 4 := by
    intro d hd y hy
    obtain ⟨i, hi, e⟩ := List.mem_iff_getElem.mp hy
    obtain ⟨n, h1, h2⟩ := A2.get_r hd (List.getElem?_eq_getElem hi)
    have := (ok.size n (List.mem_of_getElem? h1)).2
    rw [e] at h2
    omega
  have h := many_bound 4 M.sizes.length l hn (fun x hx => vDk_len (hv x hx)) fun x hx => lt x (hv x hx)
  have := pow_bound (B := 4) (by omega) ok.few.2
  omega

/-! ### covers, rows, tables -/
def cov (sk : List Sk) (e : List Nat) (ps : List Sk) : Prop := A2 (fun i p => ∃ t, sk[i]? = some t ∧ incl p t = true) e ps
theorem cov.mono {a b : SS} {e : List Nat} {ps : List Sk} (h : cov a.sk e ps) (x : Ext a b) : cov b.sk e ps := A2.imp (fun _ _ ⟨t, h1, h2⟩ => ⟨t, x.get h1, h2⟩) h
theorem placeAll_ok {M : Mach} {piece : List Sk} {B : Nat → Sk → Prop} {o : Option (Nat × Nat)} (ok : MachOk M) : ∀ {ps : List Sk} {st : SS}, SInv M piece B st → (∀ s ∈ ps, vSk M.sizes s) →
    (∀ s ∈ ps, ∀ st', Ext st st' → OrgOk M piece B st' o s) → SInv M piece B (placeAll M.first o st ps).2 ∧ Ext st (placeAll M.first o st ps).2 ∧ cov (placeAll M.first o st ps).2.sk (placeAll M.first o st ps).1 ps
  | [], st, I, _, _ => ⟨I, Ext.refl _, .nil⟩
  | p :: ps, st, I, hv, ho => by
    obtain ⟨h1, h2, t, h3, h4⟩ := place_ok ok I (hv p List.mem_cons_self) (ho p List.mem_cons_self st (Ext.refl _))
    obtain ⟨k1, k2, k3⟩ := placeAll_ok (o := o) ok (ps := ps) h1 (fun s hs => hv s (List.mem_cons_of_mem _ hs)) fun s hs st' e => ho s (List.mem_cons_of_mem _ hs) st' (h2.trans e)
    exact ⟨k1, h2.trans k2, .cons ⟨t, k2.get h3, h4⟩ k3⟩
theorem parts_v {M : Mach} {piece : List Sk} {s : Sk} {deed : Deed} (ok : MachOk M) (hd : deed ∈ M.deeds) (hp : ∀ q ∈ piece, q.length = M.sizes.length) (hs : vSk M.sizes s) : ∀ q ∈ parts M.sizes s deed piece, vSk M.sizes q := by
  unfold parts
  split
  · simp
  · rename_i b e
    exact vSk_without (vSk_before (ok.deed deed hd) (fun n hn => (ok.size n hn).1) hs e) hp
def RowOk (M : Mach) (piece : List Sk) (sk : List Sk) (s : Sk) (ds : List Deed) (row : List (List Nat)) : Prop := A2 (fun e deed => cov sk e (parts M.sizes s deed piece)) row ds
theorem RowOk.mono {M : Mach} {piece : List Sk} {a b : SS} {s : Sk} {ds : List Deed} {row : List (List Nat)} (h : RowOk M piece a.sk s ds row) (x : Ext a b) : RowOk M piece b.sk s ds row := A2.imp (fun _ _ h => cov.mono h x) h
theorem rowGo_ok {M : Mach} {piece : List Sk} {B : Nat → Sk → Prop} {s : Sk} {number : Nat} (ok : MachOk M) (hp : ∀ q ∈ piece, q.length = M.sizes.length) : ∀ {ds : List Deed} {d : Nat} {st : SS}, SInv M piece B st → st.sk[number]? = some s →
    (∀ k deed, ds[k]? = some deed → M.deeds[d + k]? = some deed) →
    SInv M piece B (rowGo M piece s number st d ds).2 ∧ Ext st (rowGo M piece s number st d ds).2 ∧ RowOk M piece (rowGo M piece s number st d ds).2.sk s ds (rowGo M piece s number st d ds).1
  | [], d, st, I, _, _ => ⟨I, Ext.refl _, .nil⟩
  | deed :: ds, d, st, I, hs, hd => by
    have h0 : M.deeds[d]? = some deed := by simpa using hd 0 deed rfl
    have hv := I.val s (List.mem_of_getElem? hs)
    obtain ⟨h1, h2, h3⟩ := placeAll_ok (o := some (d, number)) ok (ps := parts M.sizes s deed piece) I (parts_v ok (List.mem_of_getElem? h0) hp hv) fun q hq st' e => by
      unfold parts at hq
      split at hq
      · cases hq
      · rename_i b e'
        exact ⟨deed, s, b, h0, e.get hs, e', hq⟩
    obtain ⟨k1, k2, k3⟩ := rowGo_ok (s := s) (number := number) ok hp (ds := ds) (d := d + 1) h1 (h2.get hs) fun k deed' hk => by
      have := hd (k + 1) deed' (by simpa using hk)
      have e : d + 1 + k = d + (k + 1) := by omega
      rw [e]
      exact this
    exact ⟨k1, h2.trans k2, .cons (cov.mono h3 k2) k3⟩
/-- the rows so far -/
def TabOk (M : Mach) (piece : List Sk) (sk : List Sk) (table : List (List (List Nat))) : Prop := A2 (fun row s => RowOk M piece sk s M.deeds row) table (sk.take table.length)
theorem TabOk.row {M : Mach} {piece : List Sk} {a b : SS} {table : List (List (List Nat))} {s : Sk} {row : List (List Nat)} (h : TabOk M piece a.sk table) (x : Ext a b) (hs : a.sk[table.length]? = some s) (hr : RowOk M piece b.sk s M.deeds row) :
    TabOk M piece b.sk (table ++ [row]) := by
  unfold TabOk at h ⊢
  have hl := (List.getElem?_eq_some_iff.mp hs).1
  have e : b.sk.take (table ++ [row]).length = a.sk.take table.length ++ [s] := by
    rw [List.length_append, List.length_singleton, List.take_add_one, x.get hs]
    obtain ⟨m, f⟩ := x
    rw [f, List.take_append_of_le_length (by omega)]
    rfl
  rw [e]
  exact A2.snoc (A2.imp (fun _ _ h => RowOk.mono h x) h) hr
def Closed (M : Mach) (piece : List Sk) (sk : List Sk) (table : List (List (List Nat))) : Prop := A2 (fun row s => RowOk M piece sk s M.deeds row) table sk
theorem TabOk.closed {M : Mach} {piece : List Sk} {sk : List Sk} {table : List (List (List Nat))} (h : TabOk M piece sk table) (hl : sk.length ≤ table.length) : Closed M piece sk table := by
  unfold TabOk at h
  rwa [List.take_of_length_le hl] at h
end RwM
/-! the plain law, part 4: ways of disks, what told means, the walk forward -/
namespace RwM

/-- a way of disks from d to e, none of which has the piece -/
inductive Path (M : Mach) (piece : List Sk) : Dk → Dk → Prop
  | refl {d} : has piece d = false → Path M piece d d
  | step {d e deed} : has piece d = false → deed ∈ M.deeds → can deed d = true → Path M piece (after deed d) e → Path M piece d e
theorem Path.first {M : Mach} {piece : List Sk} {d e : Dk} (h : Path M piece d e) : has piece d = false := by
  cases h with
  | refl h => exact h
  | step h _ _ _ => exact h
theorem Path.last {M : Mach} {piece : List Sk} : ∀ {d e : Dk}, Path M piece d e → has piece e = false
  | _, _, .refl h => h
  | _, _, .step _ _ _ p => p.last
theorem Path.valid {M : Mach} {piece : List Sk} (ok : MachOk M) : ∀ {d e : Dk}, Path M piece d e → vDk M.sizes d → vDk M.sizes e
  | _, _, .refl _, v => v
  | _, _, .step _ hd _ p, v => p.valid ok (vDk_after (ok.deed _ hd) v)
theorem Path.snoc {M : Mach} {piece : List Sk} {deed : Deed} : ∀ {d e : Dk}, Path M piece d e → deed ∈ M.deeds → can deed e = true → has piece (after deed e) = false → Path M piece d (after deed e)
  | _, _, .refl h, hd, hc, hn => .step h hd hc (.refl hn)
  | _, _, .step h1 h2 h3 p, hd, hc, hn => .step h1 h2 h3 (p.snoc hd hc hn)
/-- a history into the image that has the late piece at a moment, and not the early one up to it -/
def Bad (M : Mach) (image : Sk) (early late : List Sk) : Prop := ∃ d0 dm de, vDk M.sizes d0 ∧ inS M.first d0 = true ∧ Path M early d0 dm ∧ has late dm = true ∧ Path M [] dm de ∧ inS image de = true

/-! ### a closed list holds every way back -/
theorem closed_back {M : Mach} {piece : List Sk} {sk : List Sk} {table : List (List (List Nat))} (ok : MachOk M) (hp : ∀ q ∈ piece, q.length = M.sizes.length) (hv : ∀ s ∈ sk, vSk M.sizes s) (hc : Closed M piece sk table)
    {d : Dk} {deed : Deed} (hd : vDk M.sizes d) (hm : deed ∈ M.deeds) (hcan : can deed d = true) (hn : has piece d = false) (ht : has sk (after deed d) = true) : has sk d = true := by
  have ld := vDk_len hd
  obtain ⟨t, ht1, ht2⟩ := has_iff.mp ht
  obtain ⟨i, hi, e⟩ := List.mem_iff_getElem.mp ht1
  have hg : sk[i]? = some t := by rw [List.getElem?_eq_getElem hi, e]
  obtain ⟨row, _, hrow⟩ := A2.get_r hc hg
  obtain ⟨k, hk, ek⟩ := List.mem_iff_getElem.mp hm
  have hgk : M.deeds[k]? = some deed := by rw [List.getElem?_eq_getElem hk, ek]
  obtain ⟨en, _, hcov⟩ := A2.get_r hrow hgk
  obtain ⟨b, hb, hbi⟩ := (before_in (ok.deed deed hm) (vSk_len (hv t ht1)) hd).mpr ⟨hcan, ht2⟩
  have vb := vSk_before (ok.deed deed hm) (fun n hn => (ok.size n hn).1) (hv t ht1) hb
  have hw : has (without b piece) d = true := by
    rw [without_in (by rw [vSk_len vb, ld]) (fun q hq => by rw [hp q hq, ld]), hbi, hn]
    rfl
  obtain ⟨p, hp1, hp2⟩ := has_iff.mp hw
  have hparts : p ∈ parts M.sizes t deed piece := by
    unfold parts
    rw [hb]
    exact hp1
  have vp := vSk_without vb hp p hp1
  obtain ⟨j, hj, ej⟩ := List.mem_iff_getElem.mp hparts
  obtain ⟨x, _, u, hu1, hu2⟩ := A2.get_r hcov (by rw [List.getElem?_eq_getElem hj, ej])
  have hum := List.mem_of_getElem? hu1
  exact has_iff.mpr ⟨u, hum, incl_in (by rw [vSk_len vp, ld]) (by rw [vSk_len (hv u hum), ld]) hu2 hp2⟩
theorem closed_way {M : Mach} {piece : List Sk} {sk : List Sk} {table : List (List (List Nat))} (ok : MachOk M) (hp : ∀ q ∈ piece, q.length = M.sizes.length) (hv : ∀ s ∈ sk, vSk M.sizes s) (hc : Closed M piece sk table) :
    ∀ {d e : Dk}, Path M piece d e → vDk M.sizes d → has sk e = true → has sk d = true
  | _, _, .refl _, _, h => h
  | _, _, .step h1 h2 h3 p, v, h => closed_back ok hp hv hc v h2 h3 h1 (closed_way ok hp hv hc p (vDk_after (ok.deed _ h2) v) h)
theorem cov_has {sk : List Sk} {e : List Nat} {ps : List Sk} {d : Dk} {n : Nat} (hv : ∀ s ∈ sk, s.length = n) (hps : ∀ p ∈ ps, p.length = n) (hd : d.length = n) (h : cov sk e ps) (hh : has ps d = true) : has sk d = true := by
  obtain ⟨p, hp1, hp2⟩ := has_iff.mp hh
  obtain ⟨j, hj, ej⟩ := List.mem_iff_getElem.mp hp1
  obtain ⟨x, _, u, hu1, hu2⟩ := A2.get_r h (by rw [List.getElem?_eq_getElem hj, ej])
  have hum := List.mem_of_getElem? hu1
  exact has_iff.mpr ⟨u, hum, incl_in (by rw [hps p hp1, hd]) (by rw [hv u hum, hd]) hu2 hp2⟩
/-- the paper shows that the order is told -/
theorem told_sound {M : Mach} {image : Sk} {early late : List Sk} {reach sk : List Sk} {cover : List Nat} {table steps : List (List (List Nat))} {links : List (List Nat)} (ok : MachOk M) (hi : vSk M.sizes image)
    (he : ∀ q ∈ early, q.length = M.sizes.length) (hl : ∀ q ∈ late, q.length = M.sizes.length) (hr : ∀ s ∈ reach, vSk M.sizes s) (hs : ∀ s ∈ sk, vSk M.sizes s)
    (hcov : cov reach cover [image]) (htab : Closed M [] reach table) (hno : ∀ s ∈ sk, meet s M.first = none) (hlinks : A2 (fun e s => cov sk e (lateParts s early late)) links reach) (hsteps : Closed M early sk steps) : ¬ Bad M image early late := by
  rintro ⟨d0, dm, de, v0, hf, p1, hlate, p2, him⟩
  have vm := p1.valid ok v0
  have ve := p2.valid ok vm
  have h1 : has reach de = true := cov_has (n := M.sizes.length) (fun s h => vSk_len (hr s h)) (fun p hp => by rw [List.mem_singleton] at hp; rw [hp]; exact vSk_len hi) (vDk_len ve) hcov (has_iff.mpr ⟨image, by simp, him⟩)
  have h2 : has reach dm = true := closed_way ok (by simp) hr htab p2 vm h1
  obtain ⟨r, hr1, hr2⟩ := has_iff.mp h2
  obtain ⟨i, hi', e⟩ := List.mem_iff_getElem.mp hr1
  obtain ⟨en, _, hc⟩ := A2.get_r hlinks (by rw [List.getElem?_eq_getElem hi', e])
  have lm := vDk_len vm
  have h3 : has (lateParts r early late) dm = true := by
    rw [late_in (by rw [vSk_len (hr r hr1), lm]) (fun q hq => by rw [he q hq, lm]) (fun q hq => by rw [hl q hq, lm]), hr2, hlate, p1.last]
    rfl
  have h4 : has sk dm = true := cov_has (n := M.sizes.length) (fun s h => vSk_len (hs s h)) (fun p hp => vSk_len (vSk_late (hr r hr1) he hl p hp)) lm hc h3
  have h5 : has sk d0 = true := closed_way ok he hs hsteps p1 v0 h4
  obtain ⟨s, hs1, hs2⟩ := has_iff.mp h5
  have q := meet_none (d := d0) (by rw [vSk_len (hs s hs1), vDk_len v0]) (by rw [vSk_len ok.first, vDk_len v0]) (hno s hs1)
  rw [hs2, hf] at q
  cases q

/-! ### a history off the search -/
inductive Way (st : SS) : Nat → List Nat → Nat → Prop
  | nil {k} : st.org[k]? = some none → Way st k [] k
  | cons {k d j ds s} : st.org[k]? = some (some (d, j)) → Way st j ds s → Way st k (d :: ds) s
theorem way_ex {M : Mach} {piece : List Sk} {B : Nat → Sk → Prop} {st : SS} (I : SInv M piece B st) : ∀ (k : Nat), k < st.sk.length → ∃ ds s, Way st k ds s
  | k, hk => by
    have hk2 : k < st.org.length := by rw [I.len]; exact hk
    have e := List.getElem?_eq_getElem hk2
    cases ho : st.org[k] with
    | none =>
      rw [ho] at e
      exact ⟨[], k, .nil e⟩
    | some p =>
      obtain ⟨d, j⟩ := p
      rw [ho] at e
      obtain ⟨hj, _⟩ := I.org k _ d j (List.getElem?_eq_getElem hk) e
      obtain ⟨ds, s, w⟩ := way_ex I j (by omega)
      exact ⟨d :: ds, s, .cons e w⟩
/-- the deeds ks lead from d to e, no moment has the piece -/
inductive Runs (M : Mach) (piece : List Sk) : Dk → List Nat → Dk → Prop
  | nil {d} : has piece d = false → Runs M piece d [] d
  | cons {d e k ks deed} : has piece d = false → M.deeds[k]? = some deed → can deed d = true → Runs M piece (after deed d) ks e → Runs M piece d (k :: ks) e
theorem Runs.path {M : Mach} {piece : List Sk} : ∀ {d e : Dk} {ks : List Nat}, Runs M piece d ks e → Path M piece d e
  | _, _, _, .nil h => .refl h
  | _, _, _, .cons h1 h2 h3 r => .step h1 (List.mem_of_getElem? h2) h3 r.path
theorem Runs.nopiece {M : Mach} {piece : List Sk} : ∀ {d e : Dk} {ks : List Nat}, Runs M piece d ks e → Runs M [] d ks e
  | _, _, _, .nil _ => .nil rfl
  | _, _, _, .cons _ h2 h3 r => .cons rfl h2 h3 r.nopiece
theorem Runs.append {M : Mach} {piece : List Sk} : ∀ {d e f : Dk} {ks ls : List Nat}, Runs M piece d ks e → Runs M piece e ls f → Runs M piece d (ks ++ ls) f
  | _, _, _, _, _, .nil _, r => r
  | _, _, _, _, _, .cons h1 h2 h3 q, r => .cons h1 h2 h3 (q.append r)
theorem way_runs {M : Mach} {piece : List Sk} {B : Nat → Sk → Prop} {st : SS} (ok : MachOk M) (hp : ∀ q ∈ piece, q.length = M.sizes.length) (I : SInv M piece B st) (hB : ∀ k s d, B k s → vDk M.sizes d → inS s d = true → has piece d = false) :
    ∀ {k s : Nat} {ds : List Nat}, Way st k ds s → ∀ {t : Sk} {d : Dk}, st.sk[k]? = some t → inS t d = true → vDk M.sizes d → ∃ e t', Runs M piece d ds e ∧ st.sk[s]? = some t' ∧ inS t' e = true ∧ vDk M.sizes e ∧ st.org[s]? = some none
  | k, _, _, .nil h, t, d, ht, hi, v => ⟨d, t, .nil (hB k t d (I.base k t ht h) v hi), ht, hi, v, h⟩
  | k, s, _, .cons (d := n) (j := j) h w, t, d, ht, hi, v => by
    obtain ⟨_, deed, t2, b, h1, h2, h3, h4⟩ := I.org k t n j ht h
    have v2 := I.val t2 (List.mem_of_getElem? h2)
    have hm := List.mem_of_getElem? h1
    have vb := vSk_before (ok.deed deed hm) (fun n hn => (ok.size n hn).1) v2 h3
    have ld := vDk_len v
    have hw := without_in (a := b) (p := piece) (d := d) (by rw [vSk_len vb, ld]) (fun q hq => by rw [hp q hq, ld])
    rw [has_iff.mpr ⟨t, h4, hi⟩] at hw
    have hw2 := Bool.and_eq_true_iff.mp hw.symm
    have hnp : has piece d = false := by
      have := hw2.2
      cases q : has piece d with
      | false => rfl
      | true => rw [q] at this; cases this
    obtain ⟨c1, c2⟩ := (before_in (ok.deed deed hm) (vSk_len v2) v).mp ⟨b, h3, hw2.1⟩
    obtain ⟨e, t', r, q1, q2, q3, q4⟩ := way_runs ok hp I hB w h2 c2 (vDk_after (ok.deed deed hm) v)
    exact ⟨e, t', .cons hnp h1 c1 r, q1, q2, q3, q4⟩

/-! ### the least disk of a sketch -/
def values (m : Nat) : List Nat := (List.range (if m = 0 then 0 else m.log2 + 1)).filter fun v => m.testBit v
def leastDisk (s : Sk) : Dk := s.map fun m => (values m).headD 0
theorem values_ne {m : Nat} (h : 1 ≤ m) : ∃ v r, values m = v :: r ∧ m.testBit v = true := by
  have h0 : m ≠ 0 := by omega
  have e : m.testBit m.log2 = true := Nat.testBit_log2 h0
  have hm : m.log2 ∈ values m := by
    unfold values
    rw [if_neg h0, List.mem_filter]
    exact ⟨by simp, e⟩
  cases q : values m with
  | nil =>
    rw [q] at hm
    cases hm
  | cons v r =>
    refine ⟨v, r, rfl, ?_⟩
    have hv : v ∈ values m := by
      rw [q]
      exact List.mem_cons_self
    unfold values at hv
    exact (List.mem_filter.mp hv).2
theorem least_in : ∀ {sizes s : List Nat}, vSk sizes s → vDk sizes (leastDisk s) ∧ inS s (leastDisk s) = true
  | _, _, .nil => ⟨.nil, rfl⟩
  | _, _, .cons (a := n) (b := m) (bs := s) h t => by
    obtain ⟨h1, h2⟩ := least_in t
    obtain ⟨v, r, e, hb⟩ := values_ne h.1
    have e2 : leastDisk (m :: s) = v :: leastDisk s := by
      unfold leastDisk
      rw [List.map_cons, e]
      rfl
    rw [e2]
    refine ⟨.cons ?_ h1, ?_⟩
    · -- the bit v of a number below 2 ^ n
      refine Nat.lt_of_not_le fun q => ?_
      have : m.testBit v = false := Nat.testBit_lt_two_pow (Nat.lt_of_lt_of_le h.2 (Nat.pow_le_pow_right (by omega) q))
      rw [this] at hb
      cases hb
    · simp [inS, hb, h2]

/-! ### walking forward -/
/-- what the law has met so far: order, the first k of them done, of the deeds of the k-th the first j -/
structure BInv (M : Mach) (piece : List Sk) (S : Dk → Prop) (k j : Nat) (order : List Dk) : Prop where
  nd : order.Nodup
  val : ∀ d ∈ order, vDk M.sizes d
  from_ : ∀ d ∈ order, ∃ d0, S d0 ∧ Path M piece d0 d
  start : ∀ d, S d → has piece d = false → d ∈ order
  done : ∀ (i : Nat) (d : Dk), i < k → order[i]? = some d → ∀ deed ∈ M.deeds, can deed d = true → has piece (after deed d) = false → after deed d ∈ order
  part : ∀ (d : Dk), order[k]? = some d → ∀ (i : Nat) (deed : Deed), i < j → M.deeds[i]? = some deed → can deed d = true → has piece (after deed d) = false → after deed d ∈ order
/-- the next deed of the k-th: nothing new -/
theorem BInv.skip {M : Mach} {piece : List Sk} {S : Dk → Prop} {k j : Nat} {order : List Dk} {d : Dk} {deed : Deed} (I : BInv M piece S k j order) (hd : order[k]? = some d) (hj : M.deeds[j]? = some deed)
    (h : can deed d = true → has piece (after deed d) = false → after deed d ∈ order) : BInv M piece S k (j + 1) order := by
  refine ⟨I.nd, I.val, I.from_, I.start, I.done, fun d' hd' i deed' hi hg hc hn => ?_⟩
  by_cases q : i = j
  · subst q
    rw [hj] at hg
    cases hg
    rw [hd] at hd'
    cases hd'
    exact h hc hn
  · exact I.part d' hd' i deed' (by omega) hg hc hn
/-- .. the disk after it is new -/
theorem BInv.more {M : Mach} {piece : List Sk} {S : Dk → Prop} {k j : Nat} {order : List Dk} {d : Dk} {deed : Deed} (ok : MachOk M) (I : BInv M piece S k j order) (hd : order[k]? = some d) (hj : M.deeds[j]? = some deed)
    (hc : can deed d = true) (hn : has piece (after deed d) = false) (hnew : after deed d ∉ order) : BInv M piece S k (j + 1) (order ++ [after deed d]) := by
  have hm := List.mem_of_getElem? hj
  have hdm := List.mem_of_getElem? hd
  have hk := (List.getElem?_eq_some_iff.mp hd).1
  have old : ∀ {i : Nat} {x : Dk}, i ≤ k → (order ++ [after deed d])[i]? = some x → order[i]? = some x := fun {i x} hi hx => by rwa [List.getElem?_append_left (by omega)] at hx
  refine ⟨?_, ?_, ?_, fun x hx hnx => List.mem_append_left _ (I.start x hx hnx), fun i x hi hx deed' hm' hc' hn' => List.mem_append_left _ (I.done i x hi (old (by omega) hx) deed' hm' hc' hn'), ?_⟩
  · rw [List.nodup_append]
    refine ⟨I.nd, by simp, fun a ha b hb => ?_⟩
    rw [List.mem_singleton] at hb
    rw [hb]
    exact fun q => hnew (q ▸ ha)
  · intro x hx
    rcases List.mem_append.mp hx with hx | hx
    · exact I.val x hx
    · rw [List.mem_singleton] at hx
      rw [hx]
      exact vDk_after (ok.deed deed hm) (I.val d hdm)
  · intro x hx
    rcases List.mem_append.mp hx with hx | hx
    · exact I.from_ x hx
    · rw [List.mem_singleton] at hx
      rw [hx]
      obtain ⟨d0, h0, p⟩ := I.from_ d hdm
      exact ⟨d0, h0, p.snoc hm hc hn⟩
  · intro d' hd' i deed' hi hg hc' hn'
    have hd2 := old (Nat.le_refl k) hd'
    rw [hd] at hd2
    cases hd2
    by_cases q : i = j
    · subst q
      rw [hj] at hg
      cases hg
      exact List.mem_append_right _ (by simp)
    · exact List.mem_append_left _ (I.part d hd i deed' (by omega) hg hc' hn')
/-- the k-th is done -/
theorem BInv.next {M : Mach} {piece : List Sk} {S : Dk → Prop} {k : Nat} {order : List Dk} (I : BInv M piece S k M.deeds.length order) : BInv M piece S (k + 1) 0 order := by
  refine ⟨I.nd, I.val, I.from_, I.start, fun i d hi hd deed hm hc hn => ?_, fun _ _ _ _ h => absurd h (Nat.not_lt_zero _)⟩
  by_cases q : i = k
  · subst q
    obtain ⟨n, hn', e⟩ := List.mem_iff_getElem.mp hm
    exact I.part d hd n deed hn' (by rw [List.getElem?_eq_getElem hn', e]) hc hn
  · exact I.done i d (by omega) hd deed hm hc hn
/-- there is no k-th -/
theorem BInv.pass {M : Mach} {piece : List Sk} {S : Dk → Prop} {k : Nat} {order : List Dk} (I : BInv M piece S k 0 order) (hk : order.length ≤ k) : BInv M piece S (k + 1) 0 order :=
  ⟨I.nd, I.val, I.from_, I.start, fun i d hi hd deed hm hc hn => I.done i d (by
    have := (List.getElem?_eq_some_iff.mp hd).1
    omega) hd deed hm hc hn, fun _ _ _ _ h => absurd h (Nat.not_lt_zero _)⟩
/-- all that is met: just the ends of ways from the start -/
theorem BInv.all {M : Mach} {piece : List Sk} {S : Dk → Prop} {k j : Nat} {order : List Dk} (I : BInv M piece S k j order) (hk : order.length ≤ k) (d : Dk) : d ∈ order ↔ ∃ d0, S d0 ∧ Path M piece d0 d := by
  refine ⟨I.from_ d, ?_⟩
  rintro ⟨d0, h0, p⟩
  have go : ∀ {x y : Dk}, Path M piece x y → x ∈ order → y ∈ order := by
    intro x y p
    induction p with
    | refl _ => exact fun h => h
    | step h1 h2 h3 p ih =>
      intro hx
      obtain ⟨i, hi, e⟩ := List.mem_iff_getElem.mp hx
      exact ih (I.done i _ (by omega) (by rw [List.getElem?_eq_getElem hi, e]) _ h2 h3 p.first)
  exact go p (I.start d0 h0 p.first)
/-- the law's two walks, put together -/
theorem bad_iff {M : Mach} {image : Sk} {early late : List Sk} {k j k' j' : Nat} {steps fwd : List Dk} (I : BInv M early (fun d => vDk M.sizes d ∧ inS M.first d = true) k j steps) (hk : steps.length ≤ k)
    (J : BInv M [] (fun d => d ∈ steps.filter (has late)) k' j' fwd) (hk' : fwd.length ≤ k') : (fwd.any (inS image)) = true ↔ Bad M image early late := by
  rw [List.any_eq_true]
  constructor
  · rintro ⟨de, h1, h2⟩
    obtain ⟨dm, hm, p2⟩ := (J.all hk' de).mp h1
    obtain ⟨hm1, hm2⟩ := List.mem_filter.mp hm
    obtain ⟨d0, ⟨v0, hf⟩, p1⟩ := (I.all hk dm).mp hm1
    exact ⟨d0, dm, de, v0, hf, p1, hm2, p2, h2⟩
  · rintro ⟨d0, dm, de, v0, hf, p1, hl, p2, hi⟩
    exact ⟨de, (J.all hk' de).mpr ⟨dm, List.mem_filter.mpr ⟨(I.all hk dm).mpr ⟨d0, ⟨v0, hf⟩, p1⟩, hl⟩, p2⟩, hi⟩
end RwM
/-! rules that the layer lacks -/
namespace RwR
open PySem PySem.Spec PyProof.Rows L2

/-! ### xs[i] op= e, the read -/
def rIxN (K : PySem.W.Frag) : V → V → Hp → VK → Prop := fun o i H Q => ∃ (p : Addr) (xs : List V) (j : Nat) (v : V), o = .ref p ∧ i = .int (j : Int) ∧ SqL K H p xs ∧ xs[j]? = some v ∧ Q v H
theorem get_list {X : Cx} : PGet X (rIxN X.K) := by
  intro pins s σ H o i ov iv Q I ro ri h
  obtain ⟨p, xs, j, v, rfl, rfl, hq, hx, q⟩ := h
  cases ro
  obtain ⟨t, rfl⟩ := ri
  obtain ⟨its, rv, pl, hz⟩ := I.list hq
  obtain ⟨u, hu, ru⟩ := rv.get hx
  have hj : j < its.length := (List.getElem?_eq_some_iff.mp hu).1
  have hl := rv.length
  have h63 := line63
  refine wpAny_getItem_list pl.isList (Int.natCast_nonneg j) (by omega) (x := u) ?_ ⟨v, H, I, ru, q⟩
  rw [Int.toNat_natCast]
  simpa using hu

/-! ### a dict that is walked stays locked from then on -/
def tFrz (td : TE) : TE := fun σ H Q => td σ H fun x H1 => ∃ (d : Addr) (kvs : List (List Key × V)), x = .ref d ∧ H1 d = some (.dT kvs) ∧ ∀ o : Obj, Q x (upd H1 d (.frz o (.dT kvs)))
theorem pe_frz {X : Cx} {e : Expr} {td : TE} (he : PE X e td) : PE X e (tFrz td) := by
  refine ⟨fun pins s σ H Q I h => thn (he.run pins s σ H _ I h) fun u s1 w1 => ?_⟩
  obtain ⟨x, H1, I1, rx, d, kvs, hx, hd, q⟩ := w1
  obtain ⟨od, I2⟩ := I1.lock hd trivial
  exact ⟨x, _, I2, rx, q od⟩

/-! ### zip of a tuple and a list -/
def ItzM (K : PySem.W.Frag) (a b : Addr) : It where
  go := fun i H => ∃ (xs ys : List V) (x y : V), SqT K H a xs ∧ SqL K H b ys ∧ xs[i]? = some x ∧ ys[i]? = some y
  yld := fun i H v H' => ∃ T x y, v = .ref T ∧ H T = none ∧ H' = upd H T (.tup [x, y]) ∧ (∀ xs, SqT K H a xs → xs[i]? = some x) ∧ ∀ ys, SqL K H b ys → ys[i]? = some y
  stop := fun i H => ∃ xs ys : List V, SqT K H a xs ∧ SqL K H b ys ∧ i ≤ xs.length ∧ i ≤ ys.length ∧ (i = xs.length ∨ i = ys.length)
/-- where the five cells of the zip lie -/
structure Zc (z TI TO i1 i2 a b : Addr) : Prop where
  zs : ZipSep2 z TI TO i1 i2 [i1, a] [i2, b]
  i12 : i1 ≠ i2
  ai : a ≠ i1
  bi : b ≠ i2
theorem zc_new {N a b : Addr} (ha : a < N) (hb : b < N) : Zc (N + 4) (N + 2) (N + 3) N (N + 1) a b :=
  ⟨zip_sep2 (N := N) (fp1 := [a]) (fp2 := [b]) (fun c hc => by rw [List.mem_singleton] at hc; rw [hc]; exact ha) (fun c hc => by rw [List.mem_singleton] at hc; rw [hc]; exact hb),
    Nat.ne_of_lt (Nat.lt_succ_self N), Nat.ne_of_lt ha, Nat.ne_of_lt (Nat.lt_succ_of_lt hb)⟩
theorem zmem {z TI TO i1 i2 c : Addr} (h : c ∈ [z, TI, TO, i1, i2]) : c = z ∨ c = TI ∨ c = TO ∨ c = i1 ∨ c = i2 := by simpa using h
theorem turn_zipM {P : Program} {w : World} {K : PySem.W.Frag} {elts : List Expr} {kk : Nat} {tpos : Pos} {a b z TI TO i1 i2 : Addr} (D : Zc z TI TO i1 i2 a b) :
    Turn P w K (.Tuple elts kk tpos) (ItzM K a b) [z, TI, TO, i1, i2] z (fun i h => IsZip h z TI TO .none ∧ IsTupOf2 h TI (.ref i1) (.ref i2) ∧ (∃ x y, IsTupOf2 h TO x y) ∧ h.IsTupleIter i1 a i ∧ h.IsListIter i2 b i) where
  mem := List.mem_cons_self
  obj := by
    rintro i h ⟨hz, hT, ⟨x, y, hO⟩, ⟨p1, q1, _, d1⟩, ⟨p2, q2, _, d2⟩⟩ c hc
    rcases zmem hc with rfl | rfl | rfl | rfl | rfl
    · exact ⟨_, hz, by intro v e; cases e⟩
    · exact ⟨_, hT, by intro v e; cases e⟩
    · exact ⟨_, hO, by intro v e; cases e⟩
    · exact ⟨p1, q1, by intro v e; rw [d1] at e; cases e⟩
    · exact ⟨p2, q2, by intro v e; rw [d2] at e; cases e⟩
  keep := by
    rintro i h h' ⟨hz, hT, ⟨x, y, hO⟩, h1, h2⟩ k
    exact ⟨k z (by simp) _ hz, k TI (by simp) _ hT, ⟨x, y, k TO (by simp) _ hO⟩, h1.at fun o e => k i1 (by simp) o e, h2.at fun o e => k i2 (by simp) o e⟩
  item := by
    rintro X rfl rfl rfl hc i pins s σ H E I hf ⟨hz, hT, ⟨x0, y0, hO⟩, h1, h2⟩ ⟨xs, ys, x, y, sx, sy, ex, ey⟩
    obtain ⟨us, ru, pu, _⟩ := I.tuple sx
    obtain ⟨vs, rv, pv', _⟩ := I.list sy
    obtain ⟨u, eu, rxu⟩ := ru.get ex
    obtain ⟨v, ev, ryv⟩ := rv.get ey
    have hh : X.A.in1.handled = none := I.ok.hd hc
    have zlt : z < s.heap.objs.size := Heap.lt_size hz
    have tu : s.heap.IsTuple a us.toArray := pu
    refine wpAny_pyNext_zipD2_item (i := i) D.zs (Draws.tuple hh i1 a D.ai us.toArray) (Draws.list hh i2 b D.bi vs.toArray) hz hT hO ⟨h1, tu⟩ ⟨h2, pv'.isList⟩
      (by simpa using (List.getElem?_eq_some_iff.mp eu).1) (by simpa using (List.getElem?_eq_some_iff.mp ev).1) fun u' v' h' tk pu' pv'' hz' hO' s1 s2 hT' hsz hk => ?_
    have e1 : u' = u := by
      have : us[i]? = some u' := by simpa using pu'
      rw [eu] at this
      exact (Option.some.inj this).symm
    have e2 : v' = v := by
      have : vs[i]? = some v' := by simpa using pv''
      rw [ev] at this
      exact (Option.some.inj this).symm
    subst e1 e2
    refine ⟨_, rfl, wpAny_letOwnedTupleGo_zip (s := { s with heap := h', toks := tk }) hz' fun g gz sb => ?_⟩
    have keep : ∀ c o, c ∉ [z, TI, TO, i1, i2] → s.heap.get? c = some o → g.get? c = some o := fun c o hn e => by
      simp only [List.mem_cons, List.not_mem_nil, or_false, not_or] at hn
      rw [sb.2 c hn.1]
      exact hk c o hn.1 hn.2.2.1 hn.2.2.2.1 hn.2.2.2.2 e
    have gT : g.get? s.heap.objs.size = some { cls := .type "tuple", data := .seq #[u', v'] } := by
      rw [sb.2 _ (Nat.ne_of_gt zlt)]
      exact hT'
    have new : ObjOk X.prog X.w (upd H s.heap.objs.size (.tup [x, y])) g s.heap.objs.size (.tup [x, y]) :=
      ⟨show 2 ≤ sizeLine by decide, [u', v'], .cons rxu (.cons ryv .nil), _, gT, rfl, _, rfl⟩
    have I1 : Inv X pins σ (upd H s.heap.objs.size (.tup [x, y])) { s with heap := g, toks := tk } := I.turnedNew (ch := [z, TI, TO, i1, i2]) keep hf (Nat.le_refl _) new
    refine ⟨.ref s.heap.objs.size, _, I1, rfl, ⟨_, x, y, rfl, I.fresh, rfl, fun l hl => by rw [I.tuple_inj hl sx]; exact ex, fun l hl => by rw [I.list_inj hl sy]; exact ey⟩, ⟨gz, ?_, ⟨u', v', ?_⟩, ?_, ?_⟩, fun c hcm => ?_⟩
    · show g.get? TI = _
      rw [sb.2 TI D.zs.TIz]
      exact hk TI _ D.zs.TIz D.zs.TITO D.zs.TIi1 D.zs.TIi2 hT
    · show g.get? TO = _
      rw [sb.2 TO D.zs.TOz]
      exact hO'
    · exact s1.1.at fun o e => by rw [sb.2 i1 (Ne.symm D.zs.zi1)]; exact e
    · exact s2.1.at fun o e => by rw [sb.2 i2 (Ne.symm D.zs.zi2)]; exact e
    · have lt : c < s.heap.objs.size := by
        rcases zmem hcm with rfl | rfl | rfl | rfl | rfl
        · exact zlt
        · exact Heap.lt_size hT
        · exact Heap.lt_size hO
        · obtain ⟨_, q, _⟩ := h1
          exact Heap.lt_size q
        · obtain ⟨_, q, _⟩ := h2
          exact Heap.lt_size q
      rw [upd_ne (Nat.ne_of_lt lt)]
      exact (hf c hcm).1
  done := by
    rintro X rfl rfl rfl hc i pins s σ H E I hf ⟨hz, hT, ⟨x0, y0, hO⟩, h1, h2⟩ ⟨xs, ys, sx, sy, lx, ly, hend⟩
    obtain ⟨us, ru, pu, _⟩ := I.tuple sx
    obtain ⟨vs, rv, pv', _⟩ := I.list sy
    have hh : X.A.in1.handled = none := I.ok.hd hc
    have tu : s.heap.IsTuple a us.toArray := pu
    have e1 := ru.length
    have e2 := rv.length
    refine wpAny_pyNext_zipD2_end (i := i) D.zs (Draws.tuple hh i1 a D.ai us.toArray) (Draws.list hh i2 b D.bi vs.toArray) hz hT hO ⟨h1, tu⟩ ⟨h2, pv'.isList⟩ (by simp; omega) (by simp; omega) (by simp; omega) fun h' tk hk => ?_
    refine ⟨rfl, I.turnedL (ch := [z, TI, TO, i1, i2]) (fun c o hn e => ?_) hf⟩
    simp only [List.mem_cons, List.not_mem_nil, or_false, not_or] at hn
    exact hk c o hn.1 hn.2.2.1 hn.2.2.2.1 hn.2.2.2.2 e
  self := fun A i s Q E st h => wpAny_pyIter_zip st.1 h
def iZipM (K : PySem.W.Frag) (ta : TA) : TI := fun σ H R => ta σ H fun vs H1 => ∃ a b xs ys, vs = [.ref a, .ref b] ∧ SqT K H1 a xs ∧ SqL K H1 b ys ∧ R (ItzM K a b) H1
theorem two_vals {x y : V} {us : List Value} (r : Vals [x, y] us) : ∃ u v, us = [u, v] ∧ RelV x u ∧ RelV y v := Vals.two r
theorem pi_zipM {X : Cx} {e e2 : Expr} {ta : TA} {p pos tpos : Pos} {elts : List Expr} {kk : Nat} (hg : Gl X "zip") (hm : X.mg "zip" = none) (ha : PA X [e, e2] ta)
    (hs : starEach [e, e2] X.env = (false, eval e X.env) :: starEach [e2] X.env := by rfl) (hpl : (backTo pos (starEach [e2] X.env)).any (·.1) = false := by rfl) :
    PI X (.Tuple elts kk tpos) (.Call (.Name "zip" p) [e, e2] [] pos) (iZipM X.K ta) := by
  refine ⟨fun pins s σ H R I h => Call_ (ld_blt I hg hm boot_zip (callWith_type1 (thn (ha.run pos pins s σ H _ I h) fun us s1 w1 => ?_) hs hpl))⟩
  obtain ⟨vs, H1, I1, r1, a, b, xs, ys, rfl, sx, sy, q⟩ := w1
  obtain ⟨ua, ub, rfl, ra, rb⟩ := Vals.two r1
  cases ra
  cases rb
  obtain ⟨us, ru, pu, _⟩ := I1.tuple sx
  obtain ⟨vs, rv, pv', _⟩ := I1.list sy
  have tu : s1.heap.IsTuple a us.toArray := pu
  refine zip_begins2 (begins_tuple a us.toArray) (begins_list b vs.toArray) tu pv'.isList fun h' hz hT hO o1 o2 hsz hk => wpAny_pyIter_zip hz ?_
  refine ⟨s1.heap.objs.size + 4, [s1.heap.objs.size + 4, s1.heap.objs.size + 2, s1.heap.objs.size + 3, s1.heap.objs.size, s1.heap.objs.size + 1], _, _, H1, rfl, I1.kept (t' := s1.toks) hk, turn_zipM (zc_new ?_ pv'.lt),
    ⟨hz, hT, ⟨_, _, hO⟩, ⟨_, o1, rfl, rfl⟩, ⟨_, o2, rfl, rfl⟩⟩, fun c hc => ?_, q⟩
  · obtain ⟨o, ho, _⟩ := pu
    exact Heap.lt_size ho
  · have le : s1.heap.objs.size ≤ c := by
      rcases zmem hc with rfl | rfl | rfl | rfl | rfl
      · exact Nat.le_add_right _ _
      · exact Nat.le_add_right _ _
      · exact Nat.le_add_right _ _
      · exact Nat.le_refl _
      · exact Nat.le_add_right _ _
    exact I1.fpOk le (I1.hok.fresh le)

/-! ### enumerate of a tuple -/
theorem enum_made {v : Value} {o : Obj} {C : Heap → Prop} (B : Begins v o C) :
    Meets (Builtin.«enumerate.__new__» ⟨[.type "enumerate", v], []⟩) (fun _ R s => C s.heap ∧
      R (.ok (.ret (.ref (s.heap.push o).objs.size))) { s with heap := (s.heap.push o).push { cls := .type "enumerate", data := .fields #[.none, .bool false, .ref s.heap.objs.size, rawInt 0, .none, .none] } }) := by
  refine .of_wp fun prog w A R st hc => ?_
  obtain ⟨g, gens, dr, tk, os⟩ := st
  obtain ⟨c1, c2⟩ := hc
  have sub := sub_enumerate
  have it : ∀ {A' : Around} {E : Value → Shared → Prop} {Q : Value → Shared → Prop}, Q (.ref g.objs.size) ⟨g.push o, gens, dr, tk, os⟩ → wpAny (model prog w) A' (pyIter v) Q E ⟨g, gens, dr, tk, os⟩ := fun q => B.iter prog w _ _ ⟨g, gens, dr, tk, os⟩ _ c1 q
  wp_walk using it
  refine wpAny_stack_any fun _ => wpAny_pure ?_
  split
  · rename_i ty _ _ _ _ _
    cases hty : (ty == Value.type "enumerate") <;> (wp_walk using it; exact ⟨_, rfl, c2⟩)
  · wp_walk using it
    exact ⟨_, rfl, c2⟩
/-- the tuple at a as it stands at each turn, each item in a new pair -/
def ItuE (K : PySem.W.Frag) (a : Addr) : It where
  go := fun i H => ∃ (xs : List V) (x : V), SqT K H a xs ∧ xs[i]? = some x
  yld := fun i H v H' => ∃ T x, v = .ref T ∧ H T = none ∧ H' = upd H T (.tup [.int (i : Nat), x]) ∧ ∀ xs, SqT K H a xs → xs[i]? = some x
  stop := fun i H => ∃ xs : List V, SqT K H a xs ∧ xs.length = i
theorem turn_enumU {P : Program} {w : World} {K : PySem.W.Frag} {elts : List Expr} {kk : Nat} {tpos : Pos} {a e it : Addr} (hei : e ≠ it) (hea : e ≠ a) (hai : a ≠ it) :
    Turn P w K (.Tuple elts kk tpos) (ItuE K a) [e, it] e (fun i h => (∃ old, IsEnum h e it (0 + ((i : Nat) : Int)) old) ∧ h.IsTupleIter it a i) where
  mem := List.mem_cons_self
  obj := by
    rintro i h ⟨⟨old, he⟩, ⟨p, q, _, d⟩⟩ c hc
    rcases List.mem_cons.mp hc with rfl | hc
    · exact ⟨_, he, by intro v z; cases z⟩
    · rw [List.mem_singleton] at hc
      subst hc
      exact ⟨p, q, by intro v z; rw [d] at z; cases z⟩
  keep := by
    rintro i h h' ⟨⟨old, he⟩, hi⟩ k
    exact ⟨⟨old, k e (by simp) _ he⟩, hi.at fun o z => k it (by simp) o z⟩
  item := by
    rintro X rfl rfl rfl hc i pins s σ H E I hf ⟨⟨old, he⟩, hi⟩ ⟨xs, x, sx, ex⟩
    obtain ⟨us, ru, pu, _⟩ := I.tuple sx
    obtain ⟨u, eu, rxu⟩ := ru.get ex
    have hh : X.A.in1.handled = none := I.ok.hd hc
    have elt : e < s.heap.objs.size := Heap.lt_size he
    have tu : s.heap.IsTuple a us.toArray := pu
    refine wpAny_pyNext_enum_itemC (i := i) (Draws.tuple hh it a hai us.toArray) he ⟨hi, tu⟩ (by simpa using (List.getElem?_eq_some_iff.mp eu).1) hei (by simp [hei, hea]) fun u' h' tk pu' ho' s1 hT' hsz hk => ?_
    have e1 : u' = u := by
      have : us[i]? = some u' := by simpa using pu'
      rw [eu] at this
      exact (Option.some.inj this).symm
    subst e1
    refine ⟨_, rfl, wpAny_letOwnedTupleGo_enum (s := { s with heap := h', toks := tk + 1 }) ho' fun g ge sb => ?_⟩
    have keep : ∀ c o, c ∉ [e, it] → s.heap.get? c = some o → g.get? c = some o := fun c o hn q => by
      simp only [List.mem_cons, List.not_mem_nil, or_false, not_or] at hn
      rw [sb.2 c hn.1]
      exact hk c o hn.1 hn.2 q
    have gT : g.get? s.heap.objs.size = some { cls := .type "tuple", data := .seq #[.int (0 + (i : Int)) tk, u'] } := by
      rw [sb.2 _ (Nat.ne_of_gt elt)]
      exact hT'
    have new : ObjOk X.prog X.w (upd H s.heap.objs.size (.tup [.int (i : Nat), x])) g s.heap.objs.size (.tup [.int (i : Nat), x]) :=
      ⟨show 2 ≤ sizeLine by decide, [.int (0 + (i : Int)) tk, u'], .cons ⟨tk, by rw [Int.zero_add]⟩ (.cons rxu .nil), _, gT, rfl, _, rfl⟩
    have I1 : Inv X pins σ (upd H s.heap.objs.size (.tup [.int (i : Nat), x])) { s with heap := g, toks := tk + 1 } := I.turnedNew (ch := [e, it]) keep hf (Nat.le_refl _) new
    refine ⟨.ref s.heap.objs.size, _, I1, rfl, ⟨_, x, rfl, I.fresh, rfl, fun l hl => by rw [I.tuple_inj hl sx]; exact ex⟩, ⟨⟨u', ?_⟩, ?_⟩, fun c hcm => ?_⟩
    · have e2 : (0 : Int) + ((i + 1 : Nat) : Int) = 0 + (i : Int) + 1 := by omega
      rw [e2]
      exact ge
    · exact s1.1.at fun o q => by rw [sb.2 it (Ne.symm hei)]; exact q
    · have lt : c < s.heap.objs.size := by
        rcases List.mem_cons.mp hcm with rfl | hcm
        · exact elt
        · rw [List.mem_singleton] at hcm
          subst hcm
          obtain ⟨_, q, _⟩ := hi
          exact Heap.lt_size q
      rw [upd_ne (Nat.ne_of_lt lt)]
      exact (hf c hcm).1
  done := by
    rintro X rfl rfl rfl hc i pins s σ H E I hf ⟨⟨old, he⟩, hi⟩ ⟨xs, sx, ex⟩
    obtain ⟨us, ru, pu, _⟩ := I.tuple sx
    have hh : X.A.in1.handled = none := I.ok.hd hc
    have tu : s.heap.IsTuple a us.toArray := pu
    obtain ⟨f0, f1, f2, f3, f4, f5⟩ := hf it (by simp)
    have e1 : us.toArray.size = i := by
      have := ru.length
      simp
      omega
    subst e1
    exact wpAny_pyNext_enum_endD (Draws.tuple hh it a hai us.toArray) he ⟨hi, tu⟩ fun h' eb => ⟨rfl, I.turned (t' := s.toks) (fun b o hb q => eb b o hb q) f0 f1 f3 f4 f5⟩
  self := fun A i s Q E st h => wpAny_pyIter_enum st.1.choose_spec h
theorem call_enumU {prog : Program} {w : World} {A : Around} {E : Value → Shared → Prop} {s : Shared} {v : Value} {o : Obj} {C : Heap → Prop} {Q : Value → Shared → Prop} (B : Begins v o C) (hC : C s.heap)
    (h : ∀ g, IsEnum g (s.heap.objs.size + 1) s.heap.objs.size 0 .none → g.get? s.heap.objs.size = some o → (∀ b u, s.heap.get? b = some u → g.get? b = some u) → Q (.ref (s.heap.objs.size + 1)) { s with heap := g }) :
    wpAny (model prog w) A (call (.type "enumerate") [v]) Q E s := by
  have sz : (s.heap.push o).objs.size = s.heap.objs.size + 1 := Heap.size_push ..
  refine callType_new F.called_enumerate (by decide) (F.typeCall_enumerate_1 _) (F.newCall_enumerate_1 _) (fun obj => F.args_object_init_2 obj _) F.entry_enumerate_new (enum_made B) ⟨hC, ?_⟩
  show _ ∧ _
  have he := Heap.get?_push_size (s.heap.push o) (o := { cls := .type "enumerate", data := .fields #[.none, .bool false, .ref s.heap.objs.size, rawInt 0, .none, .none] }) rfl
  rw [sz] at he ⊢
  exact ⟨⟨_, he, rfl⟩, h _ he (Heap.get?_push_of_some _ (Heap.get?_push_size _ B.free)) fun b u q => Heap.get?_push_of_some _ (Heap.get?_push_of_some _ q)⟩
def iEnumU (K : PySem.W.Frag) (ta : TA) : TI := fun σ H R => ta σ H fun vs H1 => ∃ a xs, vs = [.ref a] ∧ SqT K H1 a xs ∧ R (ItuE K a) H1
theorem pi_enumU {X : Cx} {e : Expr} {ta : TA} {p pos tpos : Pos} {elts : List Expr} {kk : Nat} (hg : Gl X "enumerate") (hm : X.mg "enumerate" = none) (ha : PA X [e] ta) (hs : starEach [e] X.env = [(false, eval e X.env)] := by rfl) :
    PI X (.Tuple elts kk tpos) (.Call (.Name "enumerate" p) [e] [] pos) (iEnumU X.K ta) := by
  refine ⟨fun pins s σ H R I h => Call_ (ld_blt I hg hm boot_enumerate (callWith_type1 (thn (ha.run pos pins s σ H _ I h) fun us s1 w1 => ?_) hs rfl))⟩
  obtain ⟨vs, H1, I1, r1, a, xs, rfl, sx, q⟩ := w1
  obtain ⟨ua, rfl, ra⟩ := Vals.one r1
  cases ra
  obtain ⟨us, ru, pu, _⟩ := I1.tuple sx
  have tu : s1.heap.IsTuple a us.toArray := pu
  have alt : a < s1.heap.objs.size := by
    obtain ⟨o, ho, _⟩ := pu
    exact Heap.lt_size ho
  refine call_enumU (begins_tuple a us.toArray) tu fun g ge go hk => wpAny_pyIter_enum ge ?_
  refine ⟨s1.heap.objs.size + 1, [s1.heap.objs.size + 1, s1.heap.objs.size], _, _, H1, rfl, I1.kept (t' := s1.toks) hk, turn_enumU (Nat.succ_ne_self _) (Nat.ne_of_gt (Nat.lt_succ_of_lt alt)) (Nat.ne_of_lt alt), ⟨⟨_, ge⟩, ⟨_, go, rfl, rfl⟩⟩, fun c hc => ?_, q⟩
  have le : s1.heap.objs.size ≤ c := by
    rcases List.mem_cons.mp hc with rfl | hc
    · exact Nat.le_succ _
    · rw [List.mem_singleton] at hc
      rw [hc]
      exact Nat.le_refl _
  exact I1.fpOk le (I1.hok.fresh le)
end RwR
/-! len(set(xs)) of a list of different texts -/
namespace RwR
open PySem PySem.Spec PyProof.Rows L2

section
variable {prog : Program} {w : World} {A : Around} {K : Type} [DecidableEq K] {knd : KeyKind prog w K}
/-- one key after another goes in, each of them new -/
theorem set_fill {R : Result → Shared → Prop} {I S : Addr} {fp wr : List Addr} {G : Array GenState → Array GenState → Prop} {n : Nat} {P : Nat → Value → Prop} {St : Nat → Shared → Prop} (W : WalksS prog w A.in1 I fp wr G n P St) (hS : S ∉ fp)
    {ks : List K} (hl : ks.length = n) (nd : ks.Nodup) (hb : n + 1 < scanBound) (hP : ∀ i v, P i v → ∃ k, ks[i]? = some k ∧ knd.is k v = true ∧ v.scannable = true) (left : Nat) :
    ∀ (i : Nat) (s : Shared), i + left = n → St i s → s.heap.SetOf knd S (fun k => decide (k ∈ ks.take i)) i →
      (∀ s', Moved (S :: wr) G s s' → s'.heap.SetOf knd S (fun k => decide (k ∈ ks.take n)) n → R (.ok (.ret .none)) s') → codeAny (model prog w) A (.builtin "set.update.loop" ⟨[.ref S, .ref I], []⟩) R s := by
  have away : S ∉ wr := fun q => hS (W.sub _ q)
  have more : ∀ b ∈ wr, b ∈ S :: wr := fun b q => List.mem_cons_of_mem _ q
  have carry : ∀ {s s' : Shared} {i : Nat}, Moved wr G s s' → s.heap.SetOf knd S (fun k => decide (k ∈ ks.take i)) i → s'.heap.SetOf knd S (fun k => decide (k ∈ ks.take i)) i := by
    rintro s s' i m ⟨o, es, ep, t, ho, r⟩
    exact ⟨o, es, ep, t, m.heap S _ away ho, r⟩
  induction left with
  | zero =>
    rintro i s rfl st so fin
    refine codeAny_builtin PyProof.Rows.F.entry_set_update_loop ?_
    rw [Around.under_plainId PyProof.Rows.F.plain_set_update_loop _]
    show wpAny _ A.in1 (pyNext (.ref I) >>= _) _ _ s
    refine wpAny_bind (W.done s _ _ st fun s' m => ?_)
    show wpAny _ A.in1 (ret Value.none) _ _ s'
    exact wpAny_pure (fin s' (m.mono more) (carry m so))
  | succ left ih =>
    intro i s hi st so fin
    refine codeAny_builtin PyProof.Rows.F.entry_set_update_loop ?_
    rw [Around.under_plainId PyProof.Rows.F.plain_set_update_loop _]
    show wpAny _ A.in1 (pyNext (.ref I) >>= _) _ _ s
    refine wpAny_bind (W.item i s _ _ (by omega) st fun v s' pv st' m => ?_)
    obtain ⟨k, ek, kv, sc⟩ := hP i v pv
    have so1 : s'.heap.SetOf knd S (fun k => decide (k ∈ ks.take i)) i := carry m so
    show wpAny _ A.in1 (holding [v] (setAdd S v) >>= _) _ _ s'
    refine wpAny_bind (wpAny_holding ?_)
    unfold setAdd
    refine wpAny_holding (wpAny_bind (knd.pyHash kv ?_))
    refine wpAny_setAddHashed_of (s := { s' with toks := s'.toks + 1 }) kv sc so1 (by omega) fun g sb so2 => ?_
    have fresh : decide (k ∈ ks.take i) = false := by
      refine decide_eq_false fun q => ?_
      obtain ⟨j, hj⟩ := List.mem_iff_getElem?.mp q
      rw [List.getElem?_take] at hj
      split at hj
      · rename_i lt
        have := nd_ix nd hj ek
        omega
      · cases hj
    have so3 : g.SetOf knd S (fun k => decide (k ∈ ks.take (i + 1))) (i + 1) := by
      rw [fresh] at so2
      have ef : (fun k' => decide (k' ∈ ks.take i) || decide (k' = k)) = fun k' => decide (k' ∈ ks.take (i + 1)) := by
        funext k'
        rw [List.take_add_one, ek]
        simp
      rw [ef] at so2
      exact so2
    refine wpAny_pure ⟨plainId_quiet PyProof.Rows.F.plain_set_update_loop _, ih (i + 1) _ (by omega) (W.frame _ s' _ _ st' (Nat.le_succ _) fun b q o e => ?_) so3 fun s'' m2 so4 => fin s'' (Moved.trans W.gtrans ((m.mono more).then_heap (Nat.le_succ _) fun b o q e => ?_) m2) so4⟩
    · rw [sb.2 b fun z => hS (z ▸ q)]
      exact e
    · rw [sb.2 b fun z => q (z ▸ List.mem_cons_self)]
      exact e

variable {E : Value → Shared → Prop} {s : Shared}
/-- set(xs) of a list whose keys are all different -/
theorem set_made {l : Addr} {items : Array Value} {ks : List K} {Q : Value → Shared → Prop} (hh : A.handled = none) (hl : s.heap.IsList l items) (hk : ∀ (i : Nat) (v : Value), items[i]? = some v → ∃ k, ks[i]? = some k ∧ knd.is k v = true ∧ v.scannable = true)
    (hn : ks.length = items.size) (nd : ks.Nodup) (hb : items.size + 1 < scanBound)
    (h : ∀ (g : Heap) (tk : Nat), g.SetOf knd s.heap.objs.size (fun k => decide (k ∈ ks.take items.size)) items.size → (∀ b o, s.heap.get? b = some o → g.get? b = some o) → Q (.ref s.heap.objs.size) { s with heap := g, toks := tk }) :
    wpAny (model prog w) A (call (.type "set") [.ref l]) Q E s := by
  have F := PySem.F.called_set
  have f1 := F.made
  have f2 := F.sub
  have f3 := F.notType
  have f4 := F.canCreate
  have f5 := PySem.F.typeCall_set_1 (.ref l)
  obtain ⟨_, _, f6⟩ := F.mro
  refine wpAny_call (codeAny_of_tree ?_)
  show wpAny _ _ (callAny (.type "set") _) _ _ _
  refine wpAny_pure ⟨Code.quiet_builtin _ (by decide +kernel), codeAny_builtin PySem.F.entry_type_call ?_⟩
  rw [Around.under_plain (weight_type_call_type "set" [.ref l] []) rfl]
  repeat (any_goals (first | assumption | wp_step))
  have llt : l < s.heap.objs.size := Heap.lt_size hl.choose_spec.1
  refine codeAny_mono (code_set_new_1 (.ref l) (E := E) (Q₁ := fun u s1 => ∃ led : Bool, u = .ref s.heap.objs.size ∧ s1 = { s with heap := s.heap.push { cls := .type "set", dict := none, data := .set #[] 0 (.fresh 0 0 led) } }) fun led => ⟨led, rfl, rfl⟩) fun r s1 hr => ?_
  match r, hr with
  | .error e, hr => exact hr
  | .ok .next, hr => exact hr.elim
  | .ok .brk, hr => exact hr.elim
  | .ok .cont, hr => exact hr.elim
  | .ok (.ret u), ⟨led, e1, e2⟩ =>
    subst e1 e2
    have at0 : (s.heap.push { cls := .type "set", dict := none, data := .set #[] 0 (.fresh 0 0 led) }).get? s.heap.objs.size = some { cls := .type "set", dict := none, data := .set #[] 0 (.fresh 0 0 led) } := Heap.get?_push_size _ rfl
    have ty0 : Shared.TypeIs { s with heap := s.heap.push { cls := .type "set", dict := none, data := .set #[] 0 (.fresh 0 0 led) } } (.ref s.heap.objs.size) "set" := ⟨_, at0, rfl⟩
    have f7 := F.init.lookup
    have f8 := F.init.bind (.ref s.heap.objs.size)
    repeat (any_goals (first | assumption | wp_step))
    refine codeAny_mono (codeAny_call_builtin (R := wants (fun u s2 => u = .none ∧ ∃ g tk, s2 = { s with heap := g, toks := tk } ∧ g.SetOf knd s.heap.objs.size (fun k => decide (k ∈ ks.take items.size)) items.size ∧ (∀ b o, s.heap.get? b = some o → g.get? b = some o)) E)
      F.init.plain PySem.F.entry_set_init (check_set_init_1 ty0 ?_)) fun r2 s2 hr2 => ?_
    · obtain ⟨⟨c, dd, da, sl⟩, ho, hc, n0, hd⟩ := id hl
      have hc : c = .type "list" := hc
      have hd : da = .seq items n0 := hd
      subst hc hd
      have atl := Heap.get?_push_of_some { cls := .type "set", dict := none, data := .set #[] 0 (.fresh 0 0 led) } ho
      have isl : (s.heap.push { cls := .type "set", dict := none, data := .set #[] 0 (.fresh 0 0 led) }).IsList l items := ⟨_, atl, rfl, n0, rfl⟩
      have g1 := PySem.F.sub_list_set
      have g2 := PySem.F.sub_list_frozenset
      have g3 : (Value.type "list" == Value.type "dict") = false := by decide
      have hh3 : A.in1.in1.in1.handled = none := by simp [hh]
      have sz1 : (s.heap.push { cls := .type "set", dict := none, data := .set #[] 0 (.fresh 0 0 led) }).objs.size = s.heap.objs.size + 1 := Heap.size_push ..
      have ne1 : l ≠ (s.heap.push { cls := .type "set", dict := none, data := .set #[] 0 (.fresh 0 0 led) }).objs.size := by
        rw [sz1]
        exact Nat.ne_of_lt (Nat.lt_succ_of_lt llt)
      unfold Builtin.«set.__init__» noKeywords Builtin.Frozenset.updateFrom
      generalize hPI : pyIter = PI
      wp_walk
      subst hPI
      refine wpAny_pyIter_list isl (wpAny_bind (wpAny_runValue ?_))
      refine set_fill ((Walks.list hh3 _ l ne1 items).toS) (S := s.heap.objs.size) ?out hn nd hb (fun i v e => hk i v e) items.size 0 _ (Nat.zero_add _) ⟨⟨_, Heap.get?_push_size _ rfl, rfl, rfl⟩, isl.push _⟩ ?set0 ?fin
      case out =>
        rw [sz1]
        simp only [List.mem_cons, List.not_mem_nil, or_false, not_or]
        exact ⟨Nat.ne_of_lt (Nat.lt_succ_self _), Nat.ne_of_gt llt⟩
      case set0 =>
        have e0 : (fun k => decide (k ∈ ks.take 0)) = fun _ => false := by
          funext k
          simp
        rw [e0]
        exact (PyProof.Rows.setObjOf_fresh (knd := knd) led).setOf (Heap.get?_push_of_some _ at0) (by omega)
      case fin =>
        rintro ⟨g, gn, dr, tk, os⟩ m so
        have eg : gn = s.gens := m.gens
        have ed : dr = s.drawn := m.drawn
        have eo : os = s.os := m.os
        subst eg ed eo
        refine wpAny_pure ?_
        show wpAny _ _ (ret Value.none) _ _ _
        refine wpAny_pure ⟨rfl, g, tk, rfl, so, fun b o e => ?_⟩
        have blt := Heap.lt_size e
        refine m.heap b o ?_ (Heap.get?_push_of_some _ (Heap.get?_push_of_some _ e))
        rw [sz1]
        simp only [List.mem_cons, List.not_mem_nil, or_false, not_or]
        exact ⟨Nat.ne_of_lt blt, Nat.ne_of_lt (Nat.lt_succ_of_lt blt)⟩
    · match r2, hr2 with
      | .error e, hr2 => exact hr2
      | .ok .next, hr2 => exact hr2.elim
      | .ok .brk, hr2 => exact hr2.elim
      | .ok .cont, hr2 => exact hr2.elim
      | .ok (.ret u), ⟨e1, g, tk, e2, so, kp⟩ =>
        subst e1 e2
        repeat (any_goals (first | assumption | wp_step))
        exact h _ _ so kp
end
theorem str_at : ∀ {xs : List Str} {us : List Value} {i : Nat} {v : Value}, Vals (xs.map V.str) us → us[i]? = some v → ∃ x t, xs[i]? = some x ∧ v = .str x t
  | [], us, i, v, r, h => by
    cases Vals.zero r
    simp at h
  | x :: xs, us, i, v, r, h => by
    rw [List.map_cons] at r
    cases r with
    | cons r t =>
      cases i with
      | zero =>
        obtain ⟨k, e⟩ := r
        simp at h
        exact ⟨x, k, rfl, by rw [← h, e]⟩
      | succ i =>
        obtain ⟨y, k, h1, h2⟩ := str_at t (by simpa using h)
        exact ⟨y, k, by simpa using h1, h2⟩
/-- len(set(xs)), xs a list of different texts -/
def tLenSetS (K : PySem.W.Frag) (ta : TE) : TE := fun σ H Q => ta σ H fun x H1 => ∃ (l : Addr) (xs : List Str), x = .ref l ∧ SqL K H1 l (xs.map V.str) ∧ xs.Nodup ∧ xs.length ≤ 1000 ∧ Q (.int (xs.length : Nat)) H1
theorem pe_lenSetS {X : Cx} {a : Expr} {ta : TE} {p p2 q pos : Pos} (hg : Gl X "len") (hm : X.mg "len" = none) (hg2 : Gl X "set") (hm2 : X.mg "set" = none) (ha : PE X a ta) (hc : X.calm = true := by rfl)
    (na : starEach [a] X.env = (false, eval a X.env) :: starEach [] X.env := by rfl) : PE X (.Call (.Name "len" p) [.Call (.Name "set" p2) [a] [] q] [] pos) (tLenSetS X.K ta) := by
  refine ⟨fun pins s σ H Q I h => Call_ (ld_blt I hg hm boot_len (callWith_builtin1 (args_cons ?_ rfl) rfl rfl))⟩
  refine Call_ (ld_blt I hg2 hm2 boot_set (callWith_type1 (args_cons (thn (ha.run pins s σ H _ I h) fun v s1 w1 => args_nil ?_) na) na rfl))
  obtain ⟨x, H1, I1, r1, l, xs, rfl, sx, nd, hz, q1⟩ := w1
  cases r1
  obtain ⟨us, ru, pl, _⟩ := I1.list sx
  have el : us.toArray.size = xs.length := by
    rw [List.size_toArray, ← ru.length, List.length_map]
  refine set_made (knd := PySem.strKind X.prog X.w) (ks := xs) (I1.ok.hd hc) pl.isList (fun i v e => ?_) el.symm nd (by rw [el]; unfold scanBound; omega) fun g tk so kp => args_nil ?_
  · obtain ⟨x, t, h1, h2⟩ := str_at ru (i := i) (v := v) (by simpa using e)
    rw [h2]
    exact ⟨x, h1, strKind_is _ _ _ _, rfl⟩
  · rw [el] at so
    obtain ⟨o, es, ep, t, ho, hex, hd, _, _, _, hf, hn⟩ := so
    exact call_len_set ho hex hd hf (by rw [hn]; omega) ⟨.int xs.length, H1, (I1.kept (t' := tk) kp).tok _, ⟨_, by rw [hn]⟩, q1⟩
end RwR
/-! data in the abstract heap; operators on natural numbers; loops over data -/
namespace RwW
open PySem L2 RwR
open RwM (A2 Sk Dk Src Deed Mach SS)

abbrev nV (n : Nat) : V := .int (n : Int)
theorem nV_inj {a b : Nat} (h : nV a = nV b) : a = b := by
  injection h with h
  exact Int.ofNat.inj h

/-! ### heaps -/
/-- the tuples stand as they stood -/
def Ts (H H' : Hp) : Prop := ∀ a xs, H a = some (.tup xs) → H' a = some (.tup xs)
theorem Ts.refl (H : Hp) : Ts H H := fun _ _ h => h
theorem Ts.trans {H H1 H2 : Hp} (a : Ts H H1) (b : Ts H1 H2) : Ts H H2 := fun c xs h => b c xs (a c xs h)
theorem ts_of {H H' : Hp} (s : Same H H') : Ts H H' := fun a xs h => s a _ h
theorem same_new {H : Hp} {p : Addr} {o : HO} (h : H p = none) : Same H (upd H p o) := fun a u e => by
  rw [upd_ne (ne_of_none e h)]
  exact e
/-- an object that H does not know may change -/
theorem same_mut {H H' : Hp} {p : Addr} {o : HO} (e : Same H H') (h : H p = none) : Same H (upd H' p o) := fun a u q => by
  rw [upd_ne (ne_of_none q h)]
  exact e a u q
theorem ts_mut {H : Hp} {p : Addr} {o : HO} (h : ∀ xs, H p ≠ some (.tup xs)) : Ts H (upd H p o) := fun a xs q => by
  rw [upd_ne (fun e => h xs (by rw [← e]; exact q))]
  exact q
theorem ts_lst {H : Hp} {p : Addr} {xs : List V} {o : HO} (h : H p = some (.lst xs)) : Ts H (upd H p o) := ts_mut fun ys q => by rw [h] at q; cases q
theorem ts_new {H : Hp} {p : Addr} {o : HO} (h : H p = none) : Ts H (upd H p o) := ts_mut fun ys q => by rw [h] at q; cases q
theorem none_back {H H' : Hp} {p : Addr} (e : Same H H') (h : H' p = none) : H p = none := e.free h

/-! ### data -/
abbrev Rp (α : Type) := Hp → V → α → Prop
/-- stays while the tuples stay -/
class MonoT {α : Type} (R : Rp α) : Prop where
  mono : ∀ {H H' : Hp} {v : V} {x : α}, Ts H H' → R H v x → R H' v x
/-- stays while all stays -/
class MonoS {α : Type} (R : Rp α) : Prop where
  mono : ∀ {H H' : Hp} {v : V} {x : α}, Same H H' → R H v x → R H' v x
instance {α : Type} {R : Rp α} [MonoT R] : MonoS R := ⟨fun s h => MonoT.mono (ts_of s) h⟩
def IsNat : Rp Nat := fun _ v n => v = nV n
instance : MonoT IsNat := ⟨fun _ h => h⟩
def TupOf {α : Type} (R : Rp α) : Rp (List α) := fun H v xs => ∃ a vs, v = .ref a ∧ H a = some (.tup vs) ∧ A2 (R H) vs xs
def LstOf {α : Type} (R : Rp α) : Rp (List α) := fun H v xs => ∃ a vs, v = .ref a ∧ H a = some (.lst vs) ∧ A2 (R H) vs xs
instance {α : Type} {R : Rp α} [MonoT R] : MonoT (TupOf R) := ⟨fun t ⟨a, vs, e, h, r⟩ => ⟨a, vs, e, t a vs h, A2.imp (fun _ _ q => MonoT.mono t q) r⟩⟩
instance {α : Type} {R : Rp α} [MonoS R] : MonoS (LstOf R) := ⟨fun t ⟨a, vs, e, h, r⟩ => ⟨a, vs, e, t a _ h, A2.imp (fun _ _ q => MonoS.mono t q) r⟩⟩
theorem a2_mono {α : Type} {R : Rp α} [MonoT R] {H H' : Hp} {vs : List V} {xs : List α} (t : Ts H H') (h : A2 (R H) vs xs) : A2 (R H') vs xs := A2.imp (fun _ _ q => MonoT.mono t q) h
theorem a2_monoS {α : Type} {R : Rp α} [MonoS R] {H H' : Hp} {vs : List V} {xs : List α} (t : Same H H') (h : A2 (R H) vs xs) : A2 (R H') vs xs := A2.imp (fun _ _ q => MonoS.mono t q) h
/-- a sketch, a disk: a tuple of natural numbers -/
def IsN : Rp (List Nat) := fun H v s => ∃ a, v = .ref a ∧ H a = some (.tup (s.map nV))
instance : MonoT IsN := ⟨fun t ⟨a, e, h⟩ => ⟨a, e, t a _ h⟩⟩
theorem a2_nat {H : Hp} : ∀ (s : List Nat), A2 (IsNat H) (s.map nV) s
  | [] => .nil
  | _ :: s => .cons rfl (a2_nat s)
theorem nat_a2 {H : Hp} : ∀ {vs : List V} {s : List Nat}, A2 (IsNat H) vs s → vs = s.map nV
  | _, _, .nil => rfl
  | _, _, .cons h t => by
    rw [List.map_cons, ← nat_a2 t, h]
theorem isN_tup {H : Hp} {v : V} {s : List Nat} : IsN H v s ↔ TupOf IsNat H v s := by
  constructor
  · rintro ⟨a, e, h⟩
    exact ⟨a, _, e, h, a2_nat s⟩
  · rintro ⟨a, vs, e, h, r⟩
    rw [nat_a2 r] at h
    exact ⟨a, e, h⟩
def OptR {α : Type} (R : Rp α) : Rp (Option α) := fun H v x => match x with
  | none => v = .non
  | some y => R H v y
instance {α : Type} {R : Rp α} [MonoT R] : MonoT (OptR R) := ⟨fun {H H' v x} t h => by
  cases x with
  | none => exact h
  | some y => exact MonoT.mono (R := R) t h⟩
def IsPair : Rp (Nat × Nat) := fun H v p => ∃ a, v = .ref a ∧ H a = some (.tup [nV p.1, nV p.2])
instance : MonoT IsPair := ⟨fun t ⟨a, e, h⟩ => ⟨a, e, t a _ h⟩⟩
def srcV : Src → List V
  | .set v => [.str "set", nV v]
  | .copy c => [.str "copy", nV c]
def IsSrc : Rp Src := fun H v s => ∃ a, v = .ref a ∧ H a = some (.tup (srcV s))
instance : MonoT IsSrc := ⟨fun t ⟨a, e, h⟩ => ⟨a, e, t a _ h⟩⟩
def IsChg : Rp (Nat × Src) := fun H v p => ∃ a s, v = .ref a ∧ H a = some (.tup [nV p.1, s]) ∧ IsSrc H s p.2
instance : MonoT IsChg := ⟨fun t ⟨a, s, e, h, r⟩ => ⟨a, s, e, t a _ h, MonoT.mono t r⟩⟩
/-- the names of deeds and cells -/
def dName (k : Nat) : Str := ("m" : Str) ++ (toString (k : Int) : String)
def cName (k : Nat) : Str := ⟨#[97 + k]⟩
def IsDeed : Rp Deed := fun H v d => ∃ a g c, v = .ref a ∧ H a = some (.tup [.str (dName d.id), g, c]) ∧ TupOf IsPair H g d.guard ∧ TupOf IsChg H c d.changes
instance : MonoT IsDeed := ⟨fun t ⟨a, g, c, e, h, r, q⟩ => ⟨a, g, c, e, t a _ h, MonoT.mono t r, MonoT.mono t q⟩⟩
/-- a cell: its size, its number -/
def IsCell : Rp (Nat × Nat) := fun H v p => ∃ a, v = .ref a ∧ H a = some (.tup [.str (cName p.2), nV p.1])
instance : MonoT IsCell := ⟨fun t ⟨a, e, h⟩ => ⟨a, e, t a _ h⟩⟩
def IsOrg : Rp (Option (Nat × Nat)) := OptR IsPair
instance : MonoT IsOrg := inferInstanceAs (MonoT (OptR IsPair))
/-- a new list of data -/
def NewL {α : Type} (R : Rp α) (H H' : Hp) (v : V) (xs : List α) : Prop := ∃ p ys, v = .ref p ∧ H p = none ∧ H' p = some (.lst ys) ∧ A2 (R H') ys xs
theorem NewL.lst {α : Type} {R : Rp α} {H H' : Hp} {v : V} {xs : List α} (h : NewL R H H' v xs) : LstOf R H' v xs := let ⟨p, ys, e, _, h1, r⟩ := h; ⟨p, ys, e, h1, r⟩
theorem sqT {K : PySem.W.Frag} {H : Hp} {a : Addr} {xs : List V} (h : H a = some (.tup xs)) : SqT K H a xs := SqT.of h
theorem sqL {K : PySem.W.Frag} {H : Hp} {a : Addr} {xs : List V} (h : H a = some (.lst xs)) : SqL K H a xs := SqL.of h

/-! ### operators on natural numbers -/
def rN (g : Nat → Nat → Nat) : R2 := fun x y H Q => ∃ n m : Nat, x = nV n ∧ y = nV m ∧ Q (nV (g n m)) H
def rNC (C : Nat → Nat → Prop) (g : Nat → Nat → Nat) : R2 := fun x y H Q => ∃ n m : Nat, x = nV n ∧ y = nV m ∧ C n m ∧ Q (nV (g n m)) H
def rNB (g : Nat → Nat → Bool) : R2 := fun x y H Q => ∃ n m : Nat, x = nV n ∧ y = nV m ∧ Q (.bl (g n m)) H
def rAndN : R2 := fun x y H Q => ∃ n m : Nat, x = nV n ∧ y = nV m ∧ Q (nV (n &&& m)) H
def rOrN : R2 := fun x y H Q => ∃ n m : Nat, x = nV n ∧ y = nV m ∧ Q (nV (n ||| m)) H
def rXorN : R2 := fun x y H Q => ∃ n m : Nat, x = nV n ∧ y = nV m ∧ Q (nV (n ^^^ m)) H
def rAddN : R2 := fun x y H Q => ∃ n m : Nat, x = nV n ∧ y = nV m ∧ Q (nV (n + m)) H
def rMulN : R2 := fun x y H Q => ∃ n m : Nat, x = nV n ∧ y = nV m ∧ (n < 2 ^ 64 ∨ m < 2 ^ 64) ∧ Q (nV (n * m)) H
def rSubN : R2 := fun x y H Q => ∃ n m : Nat, x = nV n ∧ y = nV m ∧ (m ≤ n) ∧ Q (nV (n - m)) H
def rShrN : R2 := fun x y H Q => ∃ n m : Nat, x = nV n ∧ y = nV m ∧ Q (nV (n / 2 ^ m)) H
def rShlN : R2 := fun x y H Q => ∃ n m : Nat, x = nV n ∧ y = nV m ∧ (n < 2 ^ 64 ∧ m ≤ 1000) ∧ Q (nV (n * 2 ^ m)) H
def rModN : R2 := fun x y H Q => ∃ n m : Nat, x = nV n ∧ y = nV m ∧ (0 < m) ∧ Q (nV (n % m)) H
def rDivN : R2 := fun x y H Q => ∃ n m : Nat, x = nV n ∧ y = nV m ∧ (0 < m ∧ m < 1073741824) ∧ Q (nV (n / m)) H
def rEqN : R2 := fun x y H Q => ∃ n m : Nat, x = nV n ∧ y = nV m ∧ Q (.bl (decide (n = m))) H
def rNeN : R2 := fun x y H Q => ∃ n m : Nat, x = nV n ∧ y = nV m ∧ Q (.bl (!decide (n = m))) H
def rLtN : R2 := fun x y H Q => ∃ n m : Nat, x = nV n ∧ y = nV m ∧ Q (.bl (decide (n < m))) H
def rLeN : R2 := fun x y H Q => ∃ n m : Nat, x = nV n ∧ y = nV m ∧ Q (.bl (decide (n ≤ m))) H
def rGtN : R2 := fun x y H Q => ∃ n m : Nat, x = nV n ∧ y = nV m ∧ Q (.bl (decide (m < n))) H
def rGeN : R2 := fun x y H Q => ∃ n m : Nat, x = nV n ∧ y = nV m ∧ Q (.bl (decide (m ≤ n))) H
section
variable {X : Cx}
theorem pe_nat (n : Nat) {j pos} : PE X (.Constant (.int (n : Int)) j pos) (tC (nV n)) := pe_int
theorem opN_of {f : Value → Value → Sem Value} {g : Int → Int → Int} {g' : Nat → Nat → Nat} (h : OpR X f (rI0 fun i j => .int (g i j))) (e : ∀ n m : Nat, g n m = (g' n m : Nat)) : OpR X f (rN g') := by
  rintro pins s σ H x y v u Q I rx ry ⟨n, m, rfl, rfl, q⟩
  exact h pins s σ H _ _ v u Q I rx ry ⟨_, _, rfl, rfl, by show Q (.int (g n m)) H; rw [e]; exact q⟩
theorem opNC_of {f : Value → Value → Sem Value} {C : Int → Int → Prop} {C' : Nat → Nat → Prop} {g : Int → Int → Int} {g' : Nat → Nat → Nat} (h : OpR X f (rI C fun i j => .int (g i j))) (c : ∀ n m : Nat, C' n m → C n m) (e : ∀ n m : Nat, C' n m → g n m = (g' n m : Nat)) : OpR X f (rNC C' g') := by
  rintro pins s σ H x y v u Q I rx ry ⟨n, m, rfl, rfl, hc, q⟩
  exact h pins s σ H _ _ v u Q I rx ry ⟨_, _, rfl, rfl, c n m hc, by show Q (.int (g n m)) H; rw [e n m hc]; exact q⟩
theorem opNB_of {f : Value → Value → Sem Value} {g : Int → Int → Bool} {g' : Nat → Nat → Bool} (h : OpR X f (rI0 fun i j => .bl (g i j))) (e : ∀ n m : Nat, g n m = g' n m) : OpR X f (rNB g') := by
  rintro pins s σ H x y v u Q I rx ry ⟨n, m, rfl, rfl, q⟩
  exact h pins s σ H _ _ v u Q I rx ry ⟨_, _, rfl, rfl, by show Q (.bl (g n m)) H; rw [e]; exact q⟩
theorem opEq_of {f : Value → Value → Sem Value} {g : V → V → Bool} {g' : Nat → Nat → Bool} (h : OpR X f (fun x y H Q => scal x y = true ∧ Q (.bl (g x y)) H)) (e : ∀ n m : Nat, g (nV n) (nV m) = g' n m) : OpR X f (rNB g') := by
  rintro pins s σ H x y v u Q I rx ry ⟨n, m, rfl, rfl, q⟩
  exact h pins s σ H _ _ v u Q I rx ry ⟨rfl, by rw [e]; exact q⟩
theorem and_nat (n m : Nat) : Builtin.bitAnd (n : Int) (m : Int) = ((n &&& m : Nat) : Int) := by rw [PyProof.Rows.bitAnd_pp (by omega) (by omega)]; simp
theorem or_nat (n m : Nat) : Builtin.bitOr (n : Int) (m : Int) = ((n ||| m : Nat) : Int) := by rw [L2.bitOr_nn (by omega) (by omega)]; simp
theorem xor_nat (n m : Nat) : Builtin.bitXor (n : Int) (m : Int) = ((n ^^^ m : Nat) : Int) := by rw [Bits.bitXor_pp (by omega) (by omega)]; simp
theorem opn_and : OpR X (binaryOp .BitAnd) rAndN := opN_of op_and and_nat
theorem opn_or : OpR X (binaryOp .BitOr) rOrN := opN_of op_or or_nat
theorem opn_xor : OpR X (binaryOp .BitXor) rXorN := opN_of op_xor xor_nat
theorem ion_and : OpR X (inplaceOp .BitAnd) rAndN := opN_of iop_and and_nat
theorem opn_add : OpR X (binaryOp .Add) rAddN := opN_of op_add fun n m => (Int.natCast_add n m).symm
theorem opn_mul : OpR X (binaryOp .Mult) rMulN := opNC_of op_mul (fun n m h => h.elim (fun h => .inl ⟨by omega, by omega⟩) fun h => .inr ⟨by omega, by omega⟩) fun n m _ => (Int.natCast_mul n m).symm
theorem opn_sub : OpR X (binaryOp .Sub) rSubN := by
  rintro pins s σ H x y v u Q I rx ry ⟨n, m, rfl, rfl, hc, q⟩
  exact op_sub pins s σ H _ _ v u Q I rx ry ⟨_, _, rfl, rfl, by
    have e : (n : Int) - (m : Int) = ((n - m : Nat) : Int) := by omega
    show Q (.int ((n : Int) - (m : Int))) H
    rw [e]
    exact q⟩
theorem pow_nat (m : Nat) : (2 : Int) ^ m = ((2 ^ m : Nat) : Int) := by rw [Int.natCast_pow] <;> rfl
theorem opn_shr : OpR X (binaryOp .RShift) rShrN := by
  rintro pins s σ H x y v u Q I rx ry ⟨n, m, rfl, rfl, q⟩
  exact op_shr pins s σ H _ _ v u Q I rx ry ⟨_, _, rfl, rfl, Int.natCast_nonneg m, by
    show Q (.int ((n : Int) / 2 ^ (m : Int).toNat)) H
    rw [Int.toNat_natCast, pow_nat, ← Int.natCast_ediv]
    exact q⟩
theorem opn_shl : OpR X (binaryOp .LShift) rShlN := by
  rintro pins s σ H x y v u Q I rx ry ⟨n, m, rfl, rfl, ⟨h1, h2⟩, q⟩
  exact op_shl pins s σ H _ _ v u Q I rx ry ⟨_, _, rfl, rfl, ⟨Int.natCast_nonneg m, by omega, by simpa using h1⟩, by
    show Q (.int ((n : Int) * 2 ^ (m : Int).toNat)) H
    rw [Int.toNat_natCast, pow_nat, ← Int.natCast_mul]
    exact q⟩
theorem opn_mod : OpR X (binaryOp .Mod) rModN := opNC_of op_mod (fun n m h => by omega) fun n m _ => (Int.natCast_emod n m).symm
theorem opn_div : OpR X (binaryOp .FloorDiv) rDivN := opNC_of op_fdiv (fun n m h => ⟨by omega, by omega⟩) fun n m _ => (Int.natCast_ediv n m).symm
theorem dec_nV (n m : Nat) : decide (nV n = nV m) = decide (n = m) := by
  by_cases e : n = m
  · rw [decide_eq_true e, decide_eq_true (by rw [e])]
  · rw [decide_eq_false e, decide_eq_false fun q => e (nV_inj q)]
theorem opn_eq : OpR X (compareOp .Eq) rEqN := opEq_of (g := fun x y => decide (x = y)) op_eq dec_nV
theorem opn_ne : OpR X (compareOp .NotEq) rNeN := opEq_of (g := fun x y => !decide (x = y)) op_ne fun n m => by rw [dec_nV]
theorem opn_lt : OpR X (compareOp .Lt) rLtN := opNB_of op_lt fun n m => by simp
theorem opn_le : OpR X (compareOp .LtE) rLeN := opNB_of op_le fun n m => by simp
theorem opn_gt : OpR X (compareOp .Gt) rGtN := opNB_of op_gt fun n m => by simp
theorem opn_ge : OpR X (compareOp .GtE) rGeN := opNB_of op_ge fun n m => by simp
end
theorem bit_of (m v : Nat) : ((m / 2 ^ v) &&& 1 = 0) ↔ m.testBit v = false := by
  rw [Nat.testBit_eq_decide_div_mod_eq, Nat.and_one_is_mod]
  simp only [decide_eq_false_iff_not]
  omega
theorem bit_dec (m v : Nat) : decide ((m / 2 ^ v) &&& 1 = 0) = !m.testBit v := by
  cases h : m.testBit v with
  | false => exact decide_eq_true ((bit_of m v).mpr h)
  | true => exact decide_eq_false fun q => by rw [(bit_of m v).mp q] at h; cases h

/-! ### loops over data -/
/-- what a for loop's reading asks behind its source -/
abbrev ForG (J : It) (g : TG) (tb : TS) (D : Ends) (σ : St) (H1 : Hp) : Prop := ∃ W : Nat → Nat → St → Hp → Prop, (∃ m, W 0 m σ H1) ∧ ∀ i m σ H, W i m σ H →
  (J.stop i H ∧ D.nx σ H) ∨ (J.go i H ∧ ∃ N : St → Hp → Prop, (∀ σ' H', N σ' H' → ∃ m', m' < m ∧ W (i + 1) m' σ' H') ∧ ∀ x H', J.yld i H x H' → g x σ H' fun σ2 H2 => tb { D with nx := N, ct := N, bk := D.nx } σ2 H2)
abbrev LcG (J : It) (g : TG) (tt : TT) (te : TE) (vs : List Nat) (σ : St) (H1 : Hp) (D : Addr) (Qd : Hp → Prop) : Prop := ∃ W : Nat → Nat → Hp → Prop, (∃ m, W 0 m (upd H1 D (.lst []))) ∧ ∀ i m H, W i m H →
  (J.stop i H ∧ Qd H) ∨ (J.go i H ∧ ∃ Nx : Hp → Prop, (∀ H', Nx H' → ∃ m', m' < m ∧ W (i + 1) m' H') ∧ ∀ x H', J.yld i H x H' → g x (wipe σ vs) H' fun σ2 H2 => wipe σ2 vs = wipe σ vs ∧ tt σ2 H2 fun b H3 =>
    if b = true then te σ2 H3 fun y H4 => ∃ acc, H4 D = some (.lst acc) ∧ acc.length < sizeLine ∧ Nx (upd H4 D (.lst (acc ++ [y]))) else Nx H3)
/-- the iterator J goes over the data ds while G stands; Y: how an item comes -/
structure Over {α : Type} (J : It) (ds : List α) (G : Hp → Prop) (Y : α → Hp → V → Hp → Prop) : Prop where
  go : ∀ i H, i < ds.length → G H → J.go i H
  stop : ∀ H, G H → J.stop ds.length H
  item : ∀ i H x H', i < ds.length → G H → J.yld i H x H' → ∃ d, ds[i]? = some d ∧ Y d H x H'
theorem for_over {α : Type} {J : It} {ds : List α} {G : Hp → Prop} {Y : α → Hp → V → Hp → Prop} (w : Over J ds G Y) {g : TG} {tb : TS} {D : Ends} {σ : St} {H : Hp} (Pv : List α → St → Hp → Prop) (h0 : Pv ds σ H) (hG : ∀ r σ H, Pv r σ H → G H)
    (hs : ∀ d r x σ H H', d ∈ ds → Pv (d :: r) σ H → Y d H x H' → g x σ H' fun σ2 H2 => tb { D with nx := Pv r, ct := Pv r, bk := D.nx } σ2 H2) (hd : ∀ σ H, Pv [] σ H → D.nx σ H) : ForG J g tb D σ H := by
  refine ⟨fun i m σ H => m = ds.length - i ∧ i ≤ ds.length ∧ Pv (ds.drop i) σ H, ⟨ds.length, by simp, Nat.zero_le _, h0⟩, ?_⟩
  rintro i m σ H ⟨rfl, hi, p⟩
  have q := hG _ σ H p
  by_cases hlt : i < ds.length
  · have ed : ds.drop i = ds[i] :: ds.drop (i + 1) := List.drop_eq_getElem_cons hlt
    refine .inr ⟨w.go i H hlt q, Pv (ds.drop (i + 1)), fun σ' H' p' => ⟨ds.length - (i + 1), by omega, rfl, hlt, p'⟩, fun x H' y => ?_⟩
    obtain ⟨d, hd', hy⟩ := w.item i H x H' hlt q y
    rw [List.getElem?_eq_getElem hlt] at hd'
    cases hd'
    exact hs _ _ x σ H H' (List.getElem_mem hlt) (by rw [← ed]; exact p) hy
  · have e : i = ds.length := by omega
    subst e
    rw [List.drop_length] at p
    exact .inl ⟨w.stop H q, hd σ H p⟩
theorem lc_over {α : Type} {J : It} {ds : List α} {G : Hp → Prop} {Y : α → Hp → V → Hp → Prop} (w : Over J ds G Y) {g : TG} {tt : TT} {te : TE} {vs : List Nat} {σ : St} {H1 : Hp} {D : Addr} {Qd : Hp → Prop} (Pv : List α → Hp → Prop) (h0 : Pv ds (upd H1 D (.lst [])))
    (hG : ∀ r H, Pv r H → G H) (hs : ∀ d r x H H', d ∈ ds → Pv (d :: r) H → Y d H x H' → g x (wipe σ vs) H' fun σ2 H2 => wipe σ2 vs = wipe σ vs ∧ tt σ2 H2 fun b H3 =>
      if b = true then te σ2 H3 fun y H4 => ∃ acc, H4 D = some (.lst acc) ∧ acc.length < sizeLine ∧ Pv r (upd H4 D (.lst (acc ++ [y]))) else Pv r H3) (hd : ∀ H, Pv [] H → Qd H) : LcG J g tt te vs σ H1 D Qd := by
  refine ⟨fun i m H => m = ds.length - i ∧ i ≤ ds.length ∧ Pv (ds.drop i) H, ⟨ds.length, by simp, Nat.zero_le _, h0⟩, ?_⟩
  rintro i m H ⟨rfl, hi, p⟩
  have q := hG _ H p
  by_cases hlt : i < ds.length
  · have ed : ds.drop i = ds[i] :: ds.drop (i + 1) := List.drop_eq_getElem_cons hlt
    refine .inr ⟨w.go i H hlt q, Pv (ds.drop (i + 1)), fun H' p' => ⟨ds.length - (i + 1), by omega, rfl, hlt, p'⟩, fun x H' y => ?_⟩
    obtain ⟨d, hd', hy⟩ := w.item i H x H' hlt q y
    rw [List.getElem?_eq_getElem hlt] at hd'
    cases hd'
    exact hs _ _ x H H' (List.getElem_mem hlt) (by rw [← ed]; exact p) hy
  · have e : i = ds.length := by omega
    subst e
    rw [List.drop_length] at p
    exact .inl ⟨w.stop H q, hd H p⟩
/-- a comprehension whose element leaves all as it was: what is kept, put through f -/
theorem lc_fm {α β : Type} {J : It} {ds : List α} {G : Hp → Prop} {Y : α → Hp → V → Hp → Prop} (w : Over J ds G Y) {S : Rp β} [MonoT S] {keep : α → Bool} {f : α → β} {g : TG} {tt : TT} {te : TE} {vs : List Nat} {σ : St} {H1 : Hp} {D : Addr} {Qd : Hp → Prop}
    (hD : H1 D = none) (hG : ∀ H, Same H1 H → G H) (hz : ds.length ≤ 100000)
    (turn : ∀ d x H H' (N : VK) (No : Hp → Prop), d ∈ ds → Same H1 H → Y d H x H' → (keep d = true → ∀ y H4, Same H H4 → S H4 y (f d) → N y H4) → (keep d = false → ∀ H4, Same H H4 → No H4) →
      g x (wipe σ vs) H' fun σ2 H2 => wipe σ2 vs = wipe σ vs ∧ tt σ2 H2 fun b H3 => if b = true then te σ2 H3 N else No H3)
    (hd : ∀ H ys, Same H1 H → H D = some (.lst ys) → A2 (S H) ys ((ds.filter keep).map f) → Qd H) : LcG J g tt te vs σ H1 D Qd := by
  refine lc_over w (fun r H => Same H1 H ∧ ∃ ys done, H D = some (.lst ys) ∧ A2 (S H) ys done ∧ done.length + r.length ≤ ds.length ∧ done ++ (r.filter keep).map f = (ds.filter keep).map f) ⟨same_new hD, [], [], upd_same, .nil, by simp, by simp⟩ (fun r H p => hG H p.1) ?_ ?_
  · rintro d r x H H' hm ⟨s, ys, done, hl, hr, hn, he⟩ y
    have hlen := hr.length
    rw [List.length_cons] at hn
    refine turn d x H H' _ _ hm s y (fun hk v H4 s4 hv => ⟨ys, s4 _ _ hl, Nat.lt_of_lt_of_le (show ys.length < 100000 by omega) (by decide), same_mut (s.trans s4) hD, ys ++ [v], done ++ [f d], upd_same, ?_, ?_, ?_⟩) fun hk H4 s4 => ⟨s.trans s4, ys, done, s4 _ _ hl, a2_mono (ts_of s4) hr, by omega, ?_⟩
    · have t4 : Ts H4 (upd H4 D (.lst (ys ++ [v]))) := ts_lst (s4 _ _ hl)
      exact A2.snoc (a2_mono ((ts_of s4).trans t4) hr) (MonoT.mono t4 hv)
    · rw [List.length_append, List.length_singleton]
      omega
    · rw [← he, List.filter_cons, if_pos hk, List.map_cons, List.append_assoc]
      rfl
    · rw [← he, List.filter_cons, if_neg (by rw [hk]; decide)]
  · rintro H ⟨s, ys, done, hl, hr, _, he⟩
    rw [List.filter_nil, List.map_nil, List.append_nil] at he
    rw [he] at hr
    exact hd H ys s hl hr
/-- without a test -/
theorem lc_map {α β : Type} {J : It} {ds : List α} {G : Hp → Prop} {Y : α → Hp → V → Hp → Prop} (w : Over J ds G Y) {S : Rp β} [MonoT S] {f : α → β} {g : TG} {te : TE} {vs : List Nat} {σ : St} {H1 : Hp} {D : Addr} {Qd : Hp → Prop}
    (hD : H1 D = none) (hG : ∀ H, Same H1 H → G H) (hz : ds.length ≤ 100000)
    (turn : ∀ d x H H' (N : VK), d ∈ ds → Same H1 H → Y d H x H' → (∀ y H4, Same H H4 → S H4 y (f d) → N y H4) → g x (wipe σ vs) H' fun σ2 H2 => wipe σ2 vs = wipe σ vs ∧ te σ2 H2 N)
    (hd : ∀ H ys, Same H1 H → H D = some (.lst ys) → A2 (S H) ys (ds.map f) → Qd H) : LcG J g tYes te vs σ H1 D Qd := by
  refine lc_over w (fun r H => Same H1 H ∧ ∃ ys done, H D = some (.lst ys) ∧ A2 (S H) ys done ∧ done.length + r.length ≤ ds.length ∧ done ++ r.map f = ds.map f) ⟨same_new hD, [], [], upd_same, .nil, by simp, by simp⟩ (fun r H p => hG H p.1) ?_ ?_
  · rintro d r x H H' hm ⟨s, ys, done, hl, hr, hn, he⟩ y
    have hlen := hr.length
    rw [List.length_cons] at hn
    have q := turn d x H H' (fun y H4 => ∃ acc, H4 D = some (.lst acc) ∧ acc.length < sizeLine ∧ (Same H1 (upd H4 D (.lst (acc ++ [y]))) ∧ ∃ ys done, (upd H4 D (.lst (acc ++ [y]))) D = some (.lst ys) ∧ A2 (S (upd H4 D (.lst (acc ++ [y])))) ys done ∧ done.length + r.length ≤ ds.length ∧ done ++ r.map f = ds.map f)) hm s y fun v H4 s4 hv => by
      refine ⟨ys, s4 _ _ hl, Nat.lt_of_lt_of_le (show ys.length < 100000 by omega) (by decide), same_mut (s.trans s4) hD, ys ++ [v], done ++ [f d], upd_same, ?_, ?_, ?_⟩
      · have t4 : Ts H4 (upd H4 D (.lst (ys ++ [v]))) := ts_lst (s4 _ _ hl)
        exact A2.snoc (a2_mono ((ts_of s4).trans t4) hr) (MonoT.mono t4 hv)
      · rw [List.length_append, List.length_singleton]
        omega
      · rw [← he, List.map_cons, List.append_assoc]
        rfl
    have e0 : ∀ (te : TE) (N : VK) (No : Hp → Prop) (σ2 : St) (H2 : Hp), (tYes σ2 H2 fun b H3 => if b = true then te σ2 H3 N else No H3) = te σ2 H2 N := fun te N No σ2 H2 => by
      show (if true = true then te σ2 H2 N else No H2) = te σ2 H2 N
      rw [if_pos rfl]
    simp only [e0]
    exact q
  · rintro H ⟨s, ys, done, hl, hr, _, he⟩
    rw [List.map_nil, List.append_nil] at he
    rw [he] at hr
    exact hd H ys s hl hr

/-! ### what is gone over -/
section
variable {K : PySem.W.Frag} {a b : Addr} {α β : Type} {Ra : V → α → Prop} {Rb : V → β → Prop} {xs ys : List V} {ds : List α} {es : List β}
theorem over_list (h : A2 Ra xs ds) : Over (Itl K a) ds (fun H => SqL K H a xs) (fun d H x H' => H' = H ∧ Ra x d) where
  go := fun i H hi q => by
    have hl := h.length
    exact ⟨xs, xs[i]'(by omega), q, List.getElem?_eq_getElem _⟩
  stop := fun H q => ⟨xs, q, by rw [h.length]; exact Nat.le_refl _⟩
  item := fun i H x H' hi q y => by
    have e := y.2 xs q
    obtain ⟨d, h1, h2⟩ := A2.get_l h e
    exact ⟨d, h1, y.1, h2⟩
theorem over_tup (h : A2 Ra xs ds) : Over (Itt K a) ds (fun H => SqT K H a xs) (fun d H x H' => H' = H ∧ Ra x d) where
  go := fun i H hi q => by
    have hl := h.length
    exact ⟨xs, xs[i]'(by omega), q, List.getElem?_eq_getElem _⟩
  stop := fun H q => ⟨xs, q, by rw [h.length]; exact Nat.le_refl _⟩
  item := fun i H x H' hi q y => by
    have e := y.2 xs q
    obtain ⟨d, h1, h2⟩ := A2.get_l h e
    exact ⟨d, h1, y.1, h2⟩
theorem over_range {n : Nat} : Over (Itr 0 n) (List.range n) (fun _ => True) (fun d H x H' => H' = H ∧ x = nV d) where
  go := fun i H hi _ => by
    show i < n
    simpa using hi
  stop := fun H _ => by
    show n ≤ (List.range n).length
    simp
  item := fun i H x H' hi _ y => by
    rw [List.length_range] at hi
    exact ⟨i, by simp [hi], y.1, by rw [y.2, Int.zero_add]⟩
/-- a new pair of the two items -/
def YP (Ra : V → α → Prop) (Rb : V → β → Prop) : α × β → Hp → V → Hp → Prop := fun d H v H' => ∃ T x y, v = .ref T ∧ H T = none ∧ H' = upd H T (.tup [x, y]) ∧ Ra x d.1 ∧ Rb y d.2
theorem over_zipT (h : A2 Ra xs ds) (k : A2 Rb ys es) (hl : ds.length = es.length) : Over (RZ.ItzT K a b) (ds.zip es) (fun H => SqT K H a xs ∧ SqT K H b ys) (YP Ra Rb) where
  go := fun i H hi q => by
    have e1 := h.length
    have e2 := k.length
    rw [List.length_zip] at hi
    exact ⟨xs, ys, xs[i]'(by omega), ys[i]'(by omega), q.1, q.2, List.getElem?_eq_getElem _, List.getElem?_eq_getElem _⟩
  stop := fun H q => ⟨xs, ys, q.1, q.2, .inl (by rw [List.length_zip, h.length]; omega)⟩
  item := fun i H x H' hi q y => by
    obtain ⟨T, u, v, rfl, h1, h2, h3, h4⟩ := y
    obtain ⟨d, q1, q2⟩ := A2.get_l h (h3 xs q.1)
    obtain ⟨e, q3, q4⟩ := A2.get_l k (h4 ys q.2)
    exact ⟨(d, e), by rw [List.getElem?_zip_eq_some]; exact ⟨q1, q3⟩, T, u, v, rfl, h1, h2, q2, q4⟩
theorem over_zipM (h : A2 Ra xs ds) (k : A2 Rb ys es) (hl : ds.length = es.length) : Over (ItzM K a b) (ds.zip es) (fun H => SqT K H a xs ∧ SqL K H b ys) (YP Ra Rb) where
  go := fun i H hi q => by
    have e1 := h.length
    have e2 := k.length
    rw [List.length_zip] at hi
    exact ⟨xs, ys, xs[i]'(by omega), ys[i]'(by omega), q.1, q.2, List.getElem?_eq_getElem _, List.getElem?_eq_getElem _⟩
  stop := fun H q => by
    have e1 := h.length
    have e2 := k.length
    exact ⟨xs, ys, q.1, q.2, by rw [List.length_zip]; omega, by rw [List.length_zip]; omega, .inl (by rw [List.length_zip]; omega)⟩
  item := fun i H x H' hi q y => by
    obtain ⟨T, u, v, rfl, h1, h2, h3, h4⟩ := y
    obtain ⟨d, q1, q2⟩ := A2.get_l h (h3 xs q.1)
    obtain ⟨e, q3, q4⟩ := A2.get_l k (h4 ys q.2)
    exact ⟨(d, e), by rw [List.getElem?_zip_eq_some]; exact ⟨q1, q3⟩, T, u, v, rfl, h1, h2, q2, q4⟩
theorem zipIdx_at {ds : List α} {i : Nat} {d : α} (h : ds[i]? = some d) : ds.zipIdx[i]? = some (d, i) := by
  rw [List.getElem?_zipIdx, h]
  simp
theorem over_enum (h : A2 Ra xs ds) : Over (Ite K a) ds.zipIdx (fun H => SqL K H a xs) (fun d H v H' => ∃ T x, v = .ref T ∧ H T = none ∧ H' = upd H T (.tup [nV d.2, x]) ∧ Ra x d.1) where
  go := fun i H hi q => by
    have hl := h.length
    rw [List.length_zipIdx] at hi
    exact ⟨xs, xs[i]'(by omega), q, List.getElem?_eq_getElem _⟩
  stop := fun H q => ⟨xs, q, by rw [h.length, List.length_zipIdx]; exact Nat.le_refl _⟩
  item := fun i H x H' hi q y => by
    obtain ⟨T, u, rfl, h1, h2, h3⟩ := y
    obtain ⟨d, q1, q2⟩ := A2.get_l h (h3 xs q)
    exact ⟨(d, i), zipIdx_at q1, T, u, rfl, h1, h2, q2⟩
theorem over_enumU (h : A2 Ra xs ds) : Over (ItuE K a) ds.zipIdx (fun H => SqT K H a xs) (fun d H v H' => ∃ T x, v = .ref T ∧ H T = none ∧ H' = upd H T (.tup [nV d.2, x]) ∧ Ra x d.1) where
  go := fun i H hi q => by
    have hl := h.length
    rw [List.length_zipIdx] at hi
    exact ⟨xs, xs[i]'(by omega), q, List.getElem?_eq_getElem _⟩
  stop := fun H q => ⟨xs, q, by rw [h.length, List.length_zipIdx]⟩
  item := fun i H x H' hi q y => by
    obtain ⟨T, u, rfl, h1, h2, h3⟩ := y
    obtain ⟨d, q1, q2⟩ := A2.get_l h (h3 xs q)
    exact ⟨(d, i), zipIdx_at q1, T, u, rfl, h1, h2, q2⟩
/-- a disk as a key -/
def keyOf (d : List Nat) : List Key := d.map fun (n : Nat) => (Sum.inl (n : Int) : Key)
theorem key_val (d : List Nat) : (keyOf d).map kV = d.map nV := by
  unfold keyOf
  rw [List.map_map]
  rfl
theorem over_keys {o : Obj} {kvs : List (List Key × V)} {ds : List (List Nat)} (h : kvs.map (·.1) = ds.map keyOf) : Over (Itkt a o kvs) ds (fun H => H a = some (.frz o (.dT kvs))) (fun d H x H' => H' = H ∧ IsN H x d) where
  go := fun i H hi q => ⟨q, by have := congrArg List.length h; simp at this; omega⟩
  stop := fun H q => ⟨q, by have := congrArg List.length h; simp at this; omega⟩
  item := fun i H x H' hi q y => by
    obtain ⟨e, k, v, p, h1, h2, h3⟩ := y
    have e1 : (kvs.map (·.1))[i]? = some k := by rw [List.getElem?_map, h1]; rfl
    rw [h, List.getElem?_map, List.getElem?_eq_getElem hi] at e1
    refine ⟨ds[i], List.getElem?_eq_getElem hi, e, p, h2, ?_⟩
    have e2 : keyOf ds[i] = k := by simpa using e1
    rw [h3, ← e2, key_val]
end
end RwW
/-! what each def promises -/
namespace RwW
open PySem L2 RwR
open RwM (A2 Sk Dk Src Deed Mach SS vSk vDk MachOk DeedOk SInv OrgOk Ext)

/-- the classes -/
structure Cs where
  M : Addr
  S : Addr
  P : Addr
  OP : Addr
  OA : Addr
/-- what the written part says of the classes -/
structure KF (K : PySem.W.Frag) (c : Cs) : Prop where
  clM : Cls K c.M
  clS : Cls K c.S
  clP : Cls K c.P
  clOP : Cls K c.OP
  clOA : Cls K c.OA
  noM : ∀ f ∈ (["cells", "deeds", "first"] : List Str), NoAttr K c.M f
  noS : ∀ f ∈ (["_machine", "_piece", "_packed", "sketches", "origins", "found"] : List Str), NoAttr K c.S f
  noP : ∀ f ∈ (["sketches", "cover", "table"] : List Str), NoAttr K c.P f
  noOP : ∀ f ∈ (["reach", "cover", "table", "sketches", "links", "steps"] : List Str), NoAttr K c.OP f
  noOA : ∀ f ∈ (["told", "paper", "disk", "deeds", "moment"] : List Str), NoAttr K c.OA f

/-! ### ways to hand back -/
def Ret {α : Type} (R : Rp α) (H : Hp) (Q : VK) (x : α) : Prop := ∀ H' v, Same H H' → R H' v x → Q v H'
def RetL {α : Type} (R : Rp α) (H : Hp) (Q : VK) (xs : List α) : Prop := ∀ H' v, Same H H' → NewL R H H' v xs → Q v H'
def RetV (H : Hp) (Q : VK) (v : V) : Prop := ∀ H', Same H H' → Q v H'

/-- what is new in H' -/
def nw (H H' : Hp) : Hp := fun b => match H b with
  | none => H' b
  | some _ => none
/-- a new list of new data -/
def NewD {α : Type} (R : Rp α) (H H' : Hp) (v : V) (xs : List α) : Prop := ∃ p ys, v = .ref p ∧ H p = none ∧ H' p = some (.lst ys) ∧ A2 (R (nw H H')) ys xs
/-! ### objects -/
def mFields (cv dv fv : V) : List (Str × V) := [("cells", cv), ("deeds", dv), ("first", fv)]
def IsMach (C : Addr) : Rp Mach := fun H v M => ∃ m dx cv dv fv, v = .ref m ∧ H m = some (.ins C dx (mFields cv dv fv)) ∧ TupOf IsCell H cv M.sizes.zipIdx ∧ TupOf IsDeed H dv M.deeds ∧ IsN H fv M.first
instance {C : Addr} : MonoS (IsMach C) := ⟨fun s ⟨m, dx, cv, dv, fv, e, h, h1, h2, h3⟩ => ⟨m, dx, cv, dv, fv, e, s _ _ h, MonoS.mono s h1, MonoS.mono s h2, MonoS.mono s h3⟩⟩
def fV : Option Nat → V
  | none => .int (-1)
  | some k => nV k
/-- where a search stands -/
structure SLoc where
  x : Addr
  dx : Addr
  l1 : Addr
  l2 : Addr
  l3 : Addr
  mv : V
  pv : V
def sFields (L : SLoc) (f : Option Nat) : List (Str × V) := [("_machine", L.mv), ("_piece", L.pv), ("_packed", .ref L.l1), ("sketches", .ref L.l2), ("origins", .ref L.l3), ("found", fV f)]
/-- behind the heap H0 (all of it kept) the search stands at L in the state st -/
structure SrAt (c : Cs) (H0 H : Hp) (L : SLoc) (M : Mach) (piece : List Sk) (st : SS) : Prop where
  same : Same H0 H
  x0 : H0 L.x = none
  n1 : H0 L.l1 = none
  n2 : H0 L.l2 = none
  n3 : H0 L.l3 = none
  obj : H L.x = some (.ins c.S L.dx (sFields L st.fnd))
  pk : H L.l1 = some (.lst (st.sk.map fun s => nV (RwM.pack s)))
  sk : ∃ ys, H L.l2 = some (.lst ys) ∧ A2 (IsN H) ys st.sk
  og : ∃ zs, H L.l3 = some (.lst zs) ∧ A2 (IsOrg H) zs st.org
  ne12 : L.l1 ≠ L.l2
  ne13 : L.l1 ≠ L.l3
  ne23 : L.l2 ≠ L.l3
  mach : IsMach c.M H0 L.mv M
  piece : LstOf IsN H0 L.pv piece
/-- all but the search's own is kept -/
def SFr (L : SLoc) (H H' : Hp) : Prop := ∀ b o, H b = some o → b ≠ L.x → b ≠ L.l1 → b ≠ L.l2 → b ≠ L.l3 → H' b = some o
def pFields (a b d : V) : List (Str × V) := [("sketches", a), ("cover", b), ("table", d)]
def opFields (a b d e f g : V) : List (Str × V) := [("reach", a), ("cover", b), ("table", d), ("sketches", e), ("links", f), ("steps", g)]
def oaFields (a b d e f : V) : List (Str × V) := [("told", a), ("paper", b), ("disk", d), ("deeds", e), ("moment", f)]
abbrev Tab := List (List (List Nat))
abbrev IsTab : Rp Tab := TupOf (TupOf IsN)
abbrev IsTabL : Rp Tab := LstOf (LstOf (LstOf IsNat))
/-- the paper object at a -/
structure IsOP (c : Cs) (H : Hp) (a : Addr) (reach : List Sk) (cover : List Nat) (table : Tab) (sk : List Sk) (links : List (List Nat)) (steps : Tab) : Prop where
  ex : ∃ dx v1 v2 v3 v4 v5 v6, H a = some (.ins c.OP dx (opFields v1 v2 v3 v4 v5 v6)) ∧ TupOf IsN H v1 reach ∧ IsN H v2 cover ∧ IsTab H v3 table ∧ TupOf IsN H v4 sk ∧ TupOf IsN H v5 links ∧ IsTab H v6 steps
/-- the answer object at a -/
inductive Ans' (c : Cs) (M : Mach) (image : Sk) (early late : List Sk) (H : Hp) (a : Addr) : Prop
  | told {dx p reach cover table sk links steps} : H a = some (.ins c.OA dx (oaFields (.bl true) (.ref p) .non .non .non)) → IsOP c H p reach cover table sk links steps →
      (∀ s ∈ reach, vSk M.sizes s) → (∀ s ∈ sk, vSk M.sizes s) → RwM.cov reach cover [image] → RwM.Closed M [] reach table → (∀ s ∈ sk, RwM.meet s M.first = none) →
      A2 (fun e s => RwM.cov sk e (RwM.lateParts s early late)) links reach → RwM.Closed M early sk steps → reach.length ≤ 4096 → sk.length ≤ 4096 → Ans' c M image early late H a
  | open_ {dx dv nv d dm de ks ls} : H a = some (.ins c.OA dx (oaFields (.bl false) .non dv nv (nV ks.length))) → IsN H dv d → IsN H nv (ks ++ ls) → vDk M.sizes d → RwM.inS M.first d = true →
      RwM.Runs M early d ks dm → RwM.has late dm = true → RwM.Runs M [] dm ls de → RwM.inS image de = true → (ks ++ ls).length ≤ 100000 → Ans' c M image early late H a

/-! ### the program's defs -/
def LOWER : Str := "abcdefghijklmnopqrstuvwxyz"
def DIGITS : Str := "0123456789"
structure NameOk (x : Str) : Prop where
  pos : 1 ≤ x.cps.size
  most : x.cps.size ≤ 12
  head : ∃ k, x.cps[0]? = some k ∧ k ∈ LOWER.cps.toList
  all : ∀ k ∈ x.cps.toList, k ∈ LOWER.cps.toList ∨ k ∈ DIGITS.cps.toList
def spIsName : Sp := fun vs H Q _ => ∃ x, vs = [.str x] ∧ NameOk x ∧ RetV H Q (.bl true)
def spCheckNames (K : PySem.W.Frag) : Sp := fun vs H Q _ => ∃ l, ∃ (xs : List Str), vs = [.ref l] ∧ SqL K H l (xs.map V.str) ∧ (∀ x ∈ xs, NameOk x) ∧ xs.Nodup ∧ xs.length ≤ 100 ∧ RetV H Q .non
def spIsMask : Sp := fun vs H Q _ => ∃ m n : Nat, vs = [nV m, nV n] ∧ n ≤ 100 ∧ Q (.bl (decide (0 < m) && decide (m < 2 ^ n))) H
/-- a pair whose first item is a number -/
def IsFst : Rp Nat := fun H v k => ∃ a w, v = .ref a ∧ H a = some (.tup [nV k, w])
instance : MonoT IsFst := ⟨fun t ⟨a, w, e, h⟩ => ⟨a, w, e, t a _ h⟩⟩
def spCheckOrder : Sp := fun vs H Q _ => ∃ v ks, ∃ (n : Nat), vs = [v, nV n] ∧ TupOf IsFst H v ks ∧ ks.Pairwise (· < ·) ∧ (∀ k ∈ ks, k < n) ∧ RetV H Q .non
def spCheckDeed : Sp := fun vs H Q _ => ∃ s sz v1 v2 sizes deed, vs = [s, sz, v1, v2] ∧ LstOf IsNat H sz sizes ∧ TupOf IsPair H v1 deed.guard ∧ TupOf IsChg H v2 deed.changes ∧ DeedOk sizes deed ∧ (∀ n ∈ sizes, n ≤ 16) ∧ RetV H Q .non
def spMachine (c : Cs) : Sp := fun vs H Q _ => ∃ m dx cv dv fv M H0, vs = [.ref m, cv, dv, fv] ∧ H m = some (.ins c.M dx []) ∧ Same H0 H ∧ H0 m = none ∧ LstOf IsCell H0 cv M.sizes.zipIdx ∧ LstOf IsDeed H0 dv M.deeds ∧ IsN H0 fv M.first ∧ MachOk M ∧
  (∀ (k : Nat) (d : Deed), M.deeds[k]? = some d → d.id = k) ∧ ∀ H', (∀ b o, H b = some o → b ≠ m → H' b = some o) → IsMach c.M H' (.ref m) M → Q .non H'
def spFull (c : Cs) : Sp := fun vs H Q _ => ∃ v M, vs = [v] ∧ IsMach c.M H v M ∧ MachOk M ∧ Ret IsN H Q (M.sizes.map fun n => 2 ^ n - 1)
def spCheckSketch (c : Cs) : Sp := fun vs H Q _ => ∃ v u M s, vs = [v, u] ∧ IsMach c.M H v M ∧ MachOk M ∧ IsN H u s ∧ vSk M.sizes s ∧ RetV H Q .non
def spBefore (c : Cs) : Sp := fun vs H Q _ => ∃ v u M s k deed, vs = [v, u, nV k] ∧ IsMach c.M H v M ∧ MachOk M ∧ IsN H u s ∧ vSk M.sizes s ∧ M.deeds[k]? = some deed ∧ Ret (OptR IsN) H Q (RwM.before M.sizes s deed)
def spMeet : Sp := fun vs H Q _ => ∃ v u a b, vs = [v, u] ∧ IsN H v a ∧ IsN H u b ∧ a.length = b.length ∧ a.length ≤ 100 ∧ Ret (OptR IsN) H Q (RwM.meet a b)
def spSplit : Sp := fun vs H Q _ => ∃ v u a b, vs = [v, u] ∧ IsN H v a ∧ IsN H u b ∧ a.length = b.length ∧ a.length ≤ 100 ∧ RetL IsN H Q (RwM.split a b)
def spWithout : Sp := fun vs H Q _ => ∃ v u a p, vs = [v, u] ∧ IsN H v a ∧ LstOf IsN H u p ∧ (∀ q ∈ p, q.length = a.length) ∧ a.length ≤ 4 ∧ p.length ≤ 2 ∧ RetL IsN H Q (RwM.without a p)
def spValues : Sp := fun vs H Q _ => ∃ m : Nat, vs = [nV m] ∧ m < 1000 ∧ RetL IsNat H Q (RwM.values m)
def spLeast : Sp := fun vs H Q _ => ∃ v s, vs = [v] ∧ IsN H v s ∧ (∀ m ∈ s, 1 ≤ m ∧ m < 1000) ∧ s.length ≤ 100 ∧ Ret IsN H Q (RwM.leastDisk s)
def spPaper (c : Cs) : Sp := fun vs H Q _ => ∃ m dx v1 v2 v3 sk cover table H0, vs = [.ref m, v1, v2, v3] ∧ H m = some (.ins c.P dx []) ∧ Same H0 H ∧ H0 m = none ∧ LstOf IsN H0 v1 sk ∧ (LstOf IsNat H0 v2 cover ∨ IsN H0 v2 cover) ∧ IsTabL H0 v3 table ∧
  sk.length ≤ 100000 ∧ table.length ≤ 100000 ∧ (∀ r ∈ table, r.length ≤ 100000) ∧
  ∀ H' w1 w2 w3, (∀ b o, H b = some o → b ≠ m → H' b = some o) → H' m = some (.ins c.P dx (pFields w1 w2 w3)) → TupOf IsN H' w1 sk → IsN H' w2 cover → IsTab H' w3 table → Q .non H'
def spCheckQ (c : Cs) : Sp := fun vs H Q _ => ∃ v u p M s piece, vs = [v, u, p] ∧ IsMach c.M H v M ∧ MachOk M ∧ IsN H u s ∧ vSk M.sizes s ∧ LstOf IsN H p piece ∧ (∀ q ∈ piece, vSk M.sizes q) ∧ RetV H Q .non
def spPacked : Sp := fun vs H Q _ => ∃ v s, vs = [v] ∧ IsN H v s ∧ (∀ x ∈ s, x < 65536) ∧ s.length ≤ 4 ∧ RetV H Q (nV (RwM.pack s))
def spSearch (c : Cs) : Sp := fun vs H Q _ => ∃ x dx mv pv M piece H0, vs = [.ref x, mv, pv] ∧ H x = some (.ins c.S dx []) ∧ Same H0 H ∧ H0 x = none ∧ IsMach c.M H0 mv M ∧ LstOf IsN H0 pv piece ∧
  ∀ H' L, L.x = x → (∀ b o, H b = some o → b ≠ x → H' b = some o) → SrAt c H0 H' L M piece ⟨[], [], none⟩ → Q .non H'
def spPlace (c : Cs) : Sp := fun vs H Q _ => ∃ H0 L M piece st sv ov s o, vs = [.ref L.x, sv, ov] ∧ SrAt c H0 H L M piece st ∧ MachOk M ∧ IsN H sv s ∧ IsOrg H ov o ∧ vSk M.sizes s ∧ st.sk.length ≤ 5000 ∧ st.org.length ≤ 5000 ∧
  ∀ H', SrAt c H0 H' L M piece (RwM.place M.first st s o).2 → SFr L H H' → Q (nV (RwM.place M.first st s o).1) H'
def spPlaces (c : Cs) : Sp := fun vs H Q _ => ∃ H0 L M piece st sv ov s o B, vs = [.ref L.x, sv, ov] ∧ SrAt c H0 H L M piece st ∧ MachOk M ∧ IsN H sv s ∧ IsOrg H ov o ∧ vSk M.sizes s ∧ SInv M piece B st ∧ (∀ q ∈ piece, q.length = M.sizes.length) ∧ piece.length ≤ 2 ∧
  (∀ p ∈ RwM.without s piece, ∀ st', Ext st st' → OrgOk M piece B st' o p) ∧
  ∀ H' v, SrAt c H0 H' L M piece (RwM.placeAll M.first o st (RwM.without s piece)).2 → SFr L H H' → NewL IsNat H H' v (RwM.placeAll M.first o st (RwM.without s piece)).1 → Q v H'
def spRow (c : Cs) : Sp := fun vs H Q _ => ∃ H0 L M piece st s k B, vs = [.ref L.x, nV k] ∧ SrAt c H0 H L M piece st ∧ MachOk M ∧ SInv M piece B st ∧ (∀ q ∈ piece, q.length = M.sizes.length) ∧ piece.length ≤ 2 ∧ st.sk[k]? = some s ∧
  ∀ H' v, SrAt c H0 H' L M piece (RwM.rowGo M piece s k st 0 M.deeds).2 → SFr L H H' → NewD (LstOf IsNat) H H' v (RwM.rowGo M piece s k st 0 M.deeds).1 → Q v H'
def spHistory (c : Cs) : Sp := fun vs H Q _ => ∃ H0 L M piece st k s m start ds B, vs = [.ref L.x] ∧ SrAt c H0 H L M piece st ∧ MachOk M ∧ SInv M piece B st ∧ st.fnd = some k ∧ st.sk[k]? = some s ∧ RwM.meet s M.first = some m ∧ RwM.Way st k ds start ∧
  ∀ H' a dv l, Same H H' → H' a = some (.tup [dv, .ref l]) → IsN H' dv (RwM.leastDisk m) → H' l = some (.lst (ds.map nV)) → H l = none → Q (.ref a) H'
def spOPaper (c : Cs) : Sp := fun vs H Q _ => ∃ m dx v1 v2 v3 v4 v5 v6 reach cover table sk links steps H0, vs = [.ref m, v1, v2, v3, v4, v5, v6] ∧ H m = some (.ins c.OP dx []) ∧ Same H0 H ∧ H0 m = none ∧ LstOf IsN H0 v1 reach ∧ LstOf IsNat H0 v2 cover ∧ IsTabL H0 v3 table ∧ LstOf IsN H0 v4 sk ∧
  LstOf (LstOf IsNat) H0 v5 links ∧ IsTabL H0 v6 steps ∧ reach.length ≤ 100000 ∧ sk.length ≤ 100000 ∧ links.length ≤ 100000 ∧ table.length ≤ 100000 ∧ steps.length ≤ 100000 ∧ (∀ r ∈ table, r.length ≤ 100000) ∧ (∀ r ∈ steps, r.length ≤ 100000) ∧
  ∀ H', (∀ b o, H b = some o → b ≠ m → H' b = some o) → IsOP c H' m reach cover table sk links steps → Q .non H'
def spOAnswer (c : Cs) : Sp := fun vs H Q _ => ∃ m dx v1 v2 v3 v4 v5 H0, vs = [.ref m, v1, v2, v3, v4, v5] ∧ H m = some (.ins c.OA dx []) ∧ Same H0 H ∧ H0 m = none ∧
  ((v4 = .non ∧ ∀ H', (∀ b o, H b = some o → b ≠ m → H' b = some o) → H' m = some (.ins c.OA dx (oaFields v1 v2 v3 .non v5)) → Q .non H') ∨
    ∃ ds, LstOf IsNat H0 v4 ds ∧ ds.length ≤ 100000 ∧ ∀ H' w, (∀ b o, H b = some o → b ≠ m → H' b = some o) → H' m = some (.ins c.OA dx (oaFields v1 v2 v3 w v5)) → IsN H' w ds → Q .non H')
def spLateParts : Sp := fun vs H Q _ => ∃ v u t a e l, vs = [v, u, t] ∧ IsN H v a ∧ LstOf IsN H u e ∧ LstOf IsN H t l ∧ (∀ q ∈ e, q.length = a.length) ∧ (∀ q ∈ l, q.length = a.length) ∧ a.length ≤ 4 ∧ e.length ≤ 2 ∧ l.length ≤ 2 ∧ RetL IsN H Q (RwM.lateParts a e l)
def spWay (c : Cs) : Sp := fun vs H Q _ => ∃ H0 L M piece st k start ds B, vs = [.ref L.x, nV k] ∧ SrAt c H0 H L M piece st ∧ SInv M piece B st ∧ k < st.sk.length ∧ st.sk.length ≤ 5000 ∧ RwM.Way st k ds start ∧ RetL IsNat H Q ds
def spTell (c : Cs) : Sp := fun vs H Q _ => ∃ v1 v2 v3 v4 M image early late, vs = [v1, v2, v3, v4] ∧ IsMach c.M H v1 M ∧ MachOk M ∧ IsN H v2 image ∧ vSk M.sizes image ∧ LstOf IsN H v3 early ∧ (∀ q ∈ early, vSk M.sizes q) ∧ early.length ≤ 2 ∧
  LstOf IsN H v4 late ∧ (∀ q ∈ late, vSk M.sizes q) ∧ late.length ≤ 2 ∧ ∀ H' a, Same H H' → Ans' c M image early late H' a → Q (.ref a) H'

/-! ### the law's defs -/
def cellAt (ns : List Int) (k : Nat) : Int := ns.getD k 0
def spCell (K : PySem.W.Frag) : Sp := fun vs H Q _ => ∃ a, ∃ (ns : List Int) (k : Nat), vs = [.ref a, nV k] ∧ SqL K H a (ns.map V.int) ∧ ns.length ≤ 63 ∧ RetV H Q (.int (cellAt ns k))
def mixI (c : Int) (k : Nat) : Int := (((c * 48271 + (k : Int) * 69621 + 12345) % 2147483647) * 16807 + (k : Int) * 40692 + 777) % 2147483629 / 997
def mix (c : Int) (k : Nat) : Nat := (mixI c k).toNat
def spMix : Sp := fun vs H Q _ => ∃ (z : Int) (k : Nat), vs = [.int z, nV k] ∧ RetV H Q (nV (mix z k))
def spIsInt : Sp := fun vs H Q _ => ∃ n : Nat, vs = [nV n] ∧ RetV H Q (.bl true)
def maskOf (n s : Nat) : Nat := 1 + n % (2 ^ s - 1)
def spMask : Sp := fun vs H Q _ => ∃ n s : Nat, vs = [nV n, nV s] ∧ 1 ≤ s ∧ s ≤ 3 ∧ RetV H Q (nV (maskOf n s))
def SzOk (sizes : List Nat) : Prop := 1 ≤ sizes.length ∧ sizes.length ≤ 4 ∧ ∀ n ∈ sizes, 1 ≤ n ∧ n ≤ 3
def lDeed : Sp := fun vs H Q _ => ∃ (z : Int), ∃ v sizes, ∃ (k : Nat), vs = [.int z, v, nV k] ∧ LstOf IsNat H v sizes ∧ SzOk sizes ∧ k ≤ 100 ∧ ∀ H' u deed, Same H H' → IsDeed H' u deed → deed.id = k → DeedOk sizes deed → Q u H'
def lParts (K : PySem.W.Frag) : Sp := fun vs H Q _ => ∃ a, ∃ (ns : List Int), vs = [.ref a, nV 4, nV 7] ∧ SqL K H a (ns.map V.int) ∧ ns.length ≤ 63 ∧
  ∀ H' t v1 v2 v3 M, Same H H' → H' t = some (.tup [v1, v2, v3]) → LstOf IsCell H' v1 M.sizes.zipIdx → LstOf IsDeed H' v2 M.deeds → IsN H' v3 M.first → MachOk M → (∀ (k : Nat) (d : Deed), M.deeds[k]? = some d → d.id = k) → Q (.ref t) H'
def lSketch : Sp := fun vs H Q _ => ∃ (z : Int), ∃ v sizes, vs = [.int z, v] ∧ LstOf IsNat H v sizes ∧ SzOk sizes ∧ ∀ H' u s, Same H H' → IsN H' u s → vSk sizes s → Q u H'
def lPiece : Sp := fun vs H Q _ => ∃ (z : Int), ∃ v sizes, vs = [.int z, v] ∧ LstOf IsNat H v sizes ∧ SzOk sizes ∧ ∀ H' u p, Same H H' → NewL IsN H H' u p → (∀ q ∈ p, vSk sizes q) → p.length ≤ 2 → Q u H'
def lIn : Sp := fun vs H Q _ => ∃ v u s d, vs = [v, u] ∧ IsN H v s ∧ IsN H u d ∧ s.length = d.length ∧ RetV H Q (.bl (RwM.inS s d))
def lHas : Sp := fun vs H Q _ => ∃ v u p d, vs = [v, u] ∧ LstOf IsN H v p ∧ IsN H u d ∧ (∀ q ∈ p, q.length = d.length) ∧ RetV H Q (.bl (RwM.has p d))
/-- all disks of a sketch, as the law lists them -/
def disksGo : List Nat → List Dk → List Dk
  | [], ds => ds
  | m :: s, ds => disksGo s (ds.flatMap fun d => ((List.range 16).filter fun v => m.testBit v).map fun v => d ++ [v])
def lDisks : Sp := fun vs H Q _ => ∃ v s, vs = [v] ∧ IsN H v s ∧ s.length ≤ 4 ∧ (∀ m ∈ s, m < 8) ∧ RetL IsN H Q (disksGo s [[]])
def lCan : Sp := fun vs H Q _ => ∃ v u ds d k deed, vs = [v, u, nV k] ∧ LstOf IsDeed H v ds ∧ IsN H u d ∧ ds[k]? = some deed ∧ (∀ p ∈ deed.guard, p.1 < d.length) ∧ RetV H Q (.bl (RwM.can deed d))
def lAfter : Sp := fun vs H Q _ => ∃ v u ds d k deed sizes, vs = [v, u, nV k] ∧ LstOf IsDeed H v ds ∧ IsN H u d ∧ ds[k]? = some deed ∧ DeedOk sizes deed ∧ sizes.length = d.length ∧ Ret IsN H Q (RwM.after deed d)
/-- a dict whose keys are these disks, in order -/
def IsKeys (H : Hp) (p : Addr) (ds : List Dk) : Prop := ∃ kvs, H p = some (.dT kvs) ∧ kvs.map (·.1) = ds.map keyOf
def lSteps : Sp := fun vs H Q _ => ∃ v u t M piece, vs = [v, u, t] ∧ LstOf IsDeed H v M.deeds ∧ IsN H u M.first ∧ LstOf IsN H t piece ∧ MachOk M ∧ (∀ q ∈ piece, q.length = M.sizes.length) ∧
  ∀ H' p order k, Same H H' → H p = none → IsKeys H' p order → RwM.BInv M piece (fun d => vDk M.sizes d ∧ RwM.inS M.first d = true) k 0 order → order.length ≤ k → Q (.ref p) H'
def lForward : Sp := fun vs H Q _ => ∃ v u M starts, vs = [v, u] ∧ LstOf IsDeed H v M.deeds ∧ LstOf IsN H u starts ∧ MachOk M ∧ starts.Nodup ∧ (∀ d ∈ starts, vDk M.sizes d) ∧
  ∀ H' p order k, Same H H' → H p = none → IsKeys H' p order → RwM.BInv M [] (fun d => d ∈ starts) k 0 order → order.length ≤ k → Q (.ref p) H'
def lDis : Sp := fun vs H Q _ => ∃ v1 v2 v3 v4 v5 M image early late, vs = [v1, v2, v3, v4, v5] ∧ LstOf IsDeed H v1 M.deeds ∧ IsN H v2 M.first ∧ IsN H v3 image ∧ LstOf IsN H v4 early ∧ LstOf IsN H v5 late ∧ MachOk M ∧ image.length = M.sizes.length ∧
  (∀ q ∈ early, q.length = M.sizes.length) ∧ (∀ q ∈ late, q.length = M.sizes.length) ∧ ∀ H' b, Same H H' → (b = true ↔ RwM.Bad M image early late) → Q (.bl b) H'
def lMeet : Sp := spMeet
def lSplit : Sp := fun vs H Q _ => ∃ v u a b, vs = [v, u] ∧ IsN H v a ∧ IsN H u b ∧ a.length = b.length ∧ a.length ≤ 4 ∧ RetL IsN H Q (RwM.split a b)
def lWithout : Sp := spWithout
def lBefore : Sp := fun vs H Q _ => ∃ v1 v2 v3 ds sizes s k deed, vs = [v1, v2, v3, nV k] ∧ LstOf IsDeed H v1 ds ∧ LstOf IsNat H v2 sizes ∧ IsN H v3 s ∧ SzOk sizes ∧ vSk sizes s ∧ ds[k]? = some deed ∧ DeedOk sizes deed ∧ Ret (OptR IsN) H Q (RwM.before sizes s deed)
def lIncl : Sp := fun vs H Q _ => ∃ v u a b, vs = [v, u] ∧ IsN H v a ∧ IsN H u b ∧ a.length = b.length ∧ RetV H Q (.bl (RwM.incl a b))
def lCovers : Sp := fun vs H Q _ => ∃ v1 v2 v3 sk e ps n, vs = [v1, v2, v3] ∧ TupOf IsN H v1 sk ∧ IsN H v2 e ∧ LstOf IsN H v3 ps ∧ RwM.cov sk e ps ∧ (∀ s ∈ sk, s.length = n) ∧ (∀ s ∈ ps, s.length = n) ∧ RetV H Q (.bl true)
def lAreSk : Sp := fun vs H Q _ => ∃ v1 v2 sk sizes, vs = [v1, v2] ∧ TupOf IsN H v1 sk ∧ LstOf IsNat H v2 sizes ∧ SzOk sizes ∧ (∀ s ∈ sk, vSk sizes s) ∧ RetV H Q (.bl true)
def lClosed : Sp := fun vs H Q _ => ∃ v1 v2 v3 v4 v5 M sk table piece, vs = [v1, v2, v3, v4, v5] ∧ LstOf IsDeed H v1 M.deeds ∧ LstOf IsNat H v2 M.sizes ∧ TupOf IsN H v3 sk ∧ IsTab H v4 table ∧ LstOf IsN H v5 piece ∧ MachOk M ∧ (∀ s ∈ sk, vSk M.sizes s) ∧
  (∀ q ∈ piece, vSk M.sizes q) ∧ piece.length ≤ 2 ∧ sk.length ≤ 100000 ∧ RwM.Closed M piece sk table ∧ RetV H Q (.bl true)
def lHistory : Sp := fun vs H Q _ => ∃ v1 v2 v3 v4 v5 v6 M image d ks e, vs = [v1, v2, v3, v4, v5, v6] ∧ LstOf IsDeed H v1 M.deeds ∧ IsN H v2 M.first ∧ IsN H v3 image ∧ LstOf IsN H v4 [] ∧ IsN H v5 d ∧ IsN H v6 ks ∧ MachOk M ∧ image.length = M.sizes.length ∧ vDk M.sizes d ∧
  RwM.inS M.first d = true ∧ RwM.Runs M [] d ks e ∧ RwM.inS image e = true ∧ RetV H Q (.bl true)
def lLate : Sp := spLateParts
def lOrder (c : Cs) : Sp := fun vs H Q _ => ∃ v1 v2 v3 v4 v5 v6 a M image early late reach cover table sk links steps, vs = [v1, v2, v3, v4, v5, v6, .ref a] ∧ LstOf IsDeed H v1 M.deeds ∧ LstOf IsNat H v2 M.sizes ∧ IsN H v3 M.first ∧ IsN H v4 image ∧ LstOf IsN H v5 early ∧ LstOf IsN H v6 late ∧ MachOk M ∧
  vSk M.sizes image ∧ (∀ q ∈ early, vSk M.sizes q) ∧ (∀ q ∈ late, vSk M.sizes q) ∧ early.length ≤ 2 ∧ late.length ≤ 2 ∧ IsOP c H a reach cover table sk links steps ∧
  (∀ s ∈ reach, vSk M.sizes s) ∧ (∀ s ∈ sk, vSk M.sizes s) ∧ RwM.cov reach cover [image] ∧ RwM.Closed M [] reach table ∧ (∀ s ∈ sk, RwM.meet s M.first = none) ∧
  A2 (fun e s => RwM.cov sk e (RwM.lateParts s early late)) links reach ∧ RwM.Closed M early sk steps ∧ reach.length ≤ 4096 ∧ sk.length ≤ 4096 ∧ RetV H Q (.bl true)
def spLaw (K : PySem.W.Frag) : Sp := fun vs H Q _ => ∃ (a : Addr) (ns : List Int), vs = [.ref a] ∧ SqL K H a (ns.map V.int) ∧ ns.length ≤ 63 ∧ ∀ H', Q (.bl true) H'
end RwW
/-! calls in short -/
namespace RwW
open PySem L2 RwR

/-! ### own defs, classes, methods -/
structure GD (P : Program) (w : World) (K : PySem.W.Frag) (mg : Str → Option Value) (base : Heap) (x : Str) (k : Nat) (ps : List Str) (sp : Sp) : Prop where
  ex : ∃ f fd, mg x = some (.ref f) ∧ PySem.W.keepIn K (.ref f) = true ∧ Binds K fd ps [] ∧ FnOk P w K mg base CX0 k f fd ps sp
structure GC (P : Program) (w : World) (K : PySem.W.Frag) (mg : Str → Option Value) (base : Heap) (x : Str) (C : Addr) (k : Nat) (ps : List Str) (sp : Sp) : Prop where
  ex : ∃ f fd, mg x = some (.ref C) ∧ Mk K C f ∧ Binds K fd ps [] ∧ FnOk P w K mg base CX0 k f fd ps sp
structure GM (P : Program) (w : World) (K : PySem.W.Frag) (mg : Str → Option Value) (base : Heap) (C : Addr) (m : Str) (k : Nat) (ps : List Str) (sp : Sp) : Prop where
  cl : Cls K C
  ex : ∃ f fd, Meth K C m f ∧ Binds K fd ps [] ∧ FnOk P w K mg base CX0 k f fd ps sp
structure GP (P : Program) (w : World) (K : PySem.W.Frag) (mg : Str → Option Value) (base : Heap) (C : Addr) (m : Str) (k : Nat) (ps : List Str) (sp : Sp) : Prop where
  cl : Cls K C
  ex : ∃ p f fd, PropOf K C m p f ∧ Binds K fd ps [] ∧ FnOk P w K mg base CX0 k f fd ps sp
section
variable {X : Cx} {k : Nat} {ps : List Str} {sp : Sp} {e : Expr} {es : List Expr} {te to : TE} {t : TA} {x m : Str} {p pos apos : Pos} {C : Addr}
theorem pe_cl (G : GD X.prog X.w X.K X.mg X.base x k ps sp) (hr : Room k X.A) (hg : Gl X x) (ha : PA X (e :: es) t) (hdb : (x == ("__debug__" : Str)) = false := by decide) (he : starEach (e :: es) X.env = (false, eval e X.env) :: starEach es X.env := by rfl)
    (hpl : (backTo pos (starEach es X.env)).any (·.1) = false := by rfl) : PE X (.Call (.Name x p) (e :: es) [] pos) (tCall sp [] E0 t) := by
  obtain ⟨f, fd, h1, h2, h3, h4⟩ := G.ex
  exact pe_call h4 hr hg h1 h2 h3 .nil pass0 ha hdb he hpl
theorem pe_mk (G : GC X.prog X.w X.K X.mg X.base x C k ps sp) (hr : Room (k + 1) X.A) (hg : Gl X x) (ha : PA X (e :: es) t) (hdb : (x == ("__debug__" : Str)) = false := by decide) (he : starEach (e :: es) X.env = (false, eval e X.env) :: starEach es X.env := by rfl)
    (hpl : (backTo pos (starEach es X.env)).any (·.1) = false := by rfl) : PE X (.Call (.Name x p) (e :: es) [] pos) (tMake C sp [] E0 t) := by
  obtain ⟨f, fd, h1, h2, h3, h4⟩ := G.ex
  exact pe_make h2 h4 hr hg h1 h3 .nil pass0 ha hdb he hpl
theorem pe_mt {o : Expr} {pl : Sem Bool} (he : PE X o to) (G : GM X.prog X.w X.K X.mg X.base C m k ps sp) (hr : Room k X.A) (ha : PA X (e :: es) t)
    (hst : starEach (e :: es) X.env = (false, eval e X.env) :: starEach es X.env := by rfl) (hpl : (backTo pos (starEach es X.env)).any (·.1) = false := by rfl)
    (ht : eval (.Call (.Attribute o m apos) (e :: es) [] pos) X.env = (do
      let ov ← eval o X.env
      standAt apos.atName
      let (f, first) ← holding [ov] (getMethod ov m pl)
      callWith pos f first (backTo pos (starEach (e :: es) X.env)) (backToKw pos (keywordEach [] X.env))) := by rfl) :
    PE X (.Call (.Attribute o m apos) (e :: es) [] pos) (tMeth C m sp [] E0 to t) := by
  obtain ⟨f, fd, h1, h2, h3⟩ := G.ex
  exact pe_meth he G.cl h1 h3 hr h2 .nil pass0 ha hst hpl ht
theorem pe_mt0 {o : Expr} {pl : Sem Bool} (he : PE X o to) (G : GM X.prog X.w X.K X.mg X.base C m k ps sp) (hr : Room k X.A)
    (ht : eval (.Call (.Attribute o m apos) [] [] pos) X.env = (do
      let ov ← eval o X.env
      standAt apos.atName
      let (f, first) ← holding [ov] (getMethod ov m pl)
      callWith pos f first (backTo pos (starEach [] X.env)) (backToKw pos (keywordEach [] X.env))) := by rfl) :
    PE X (.Call (.Attribute o m apos) [] [] pos) (tMeth C m sp [] E0 to tNil) := by
  obtain ⟨f, fd, h1, h2, h3⟩ := G.ex
  exact pe_meth0 he G.cl h1 h3 hr h2 .nil pass0 ht
theorem pe_pr {o : Expr} (he : PE X o to) (G : GP X.prog X.w X.K X.mg X.base C m k ps sp) (hr : Room (k + 1) X.A) (hab : attributeBase o m X.env (eval o X.env) = eval o X.env) : PE X (.Attribute o m pos) (tProp C sp [] E0 to) := by
  obtain ⟨p, f, fd, h1, h2, h3⟩ := G.ex
  exact pe_prop he G.cl h1 h3 hr h2 .nil pass0 hab

/-! ### constants of the module -/
theorem pe_gnat {n : Nat} (h : ∃ t, X.mg x = some (.int (n : Int) t)) (hg : Gl X x) (hd : (x == ("__debug__" : Str)) = false := by decide) : PE X (.Name x pos) (tC (nV n)) := by
  obtain ⟨t, h⟩ := h
  exact pe_glob hg h ⟨t, rfl⟩ hd
theorem pe_gstr {z : Str} (h : ∃ t, X.mg x = some (.str z t)) (hg : Gl X x) (hd : (x == ("__debug__" : Str)) = false := by decide) : PE X (.Name x pos) (tC (.str z)) := by
  obtain ⟨t, h⟩ := h
  exact pe_glob hg h ⟨t, rfl⟩ hd

/-! ### built-in calls of one argument -/
def rLenS (K : PySem.W.Frag) : List V → Hp → VK → Prop := fun xs H Q => ∃ p ys, xs = [.ref p] ∧ (SqL K H p ys ∨ SqT K H p ys) ∧ Q (nV ys.length) H
def rLenT : List V → Hp → VK → Prop := fun xs H Q => ∃ z, xs = [.str z] ∧ z.length ≤ sizeLine ∧ Q (nV z.length) H
def rInt1 : List V → Hp → VK → Prop := fun xs H Q => ∃ i, xs = [.int i] ∧ Q (.int i) H
def rStr1 : List V → Hp → VK → Prop := fun xs H Q => ∃ i : Int, xs = [.int i] ∧ i.natAbs.log2 < 1920 ∧ Q (.str (toString i)) H
def rTup1 (K : PySem.W.Frag) : List V → Hp → VK → Prop := fun xs H Q => ∃ p ys, xs = [.ref p] ∧ ((SqL K H p ys ∧ ∀ l, H l = none → Q (.ref l) (upd H l (.tup ys))) ∨ (SqT K H p ys ∧ Q (.ref p) H))
def rList1 (K : PySem.W.Frag) : List V → Hp → VK → Prop := fun xs H Q => ∃ p ys, xs = [.ref p] ∧ (SqL K H p ys ∨ SqT K H p ys) ∧ ∀ l, H l = none → Q (.ref l) (upd H l (.lst ys))
def rIsi1 (K : PySem.W.Frag) (n : String) : List V → Hp → VK → Prop := fun xs H Q => ∃ (x : V) (t : String) (b : Bool), xs = [x, .ty n] ∧ TyX K H x (.type t) ∧ kitB t n = some b ∧ Q (.bl b) H
theorem cl_lenS : CallR X (.builtin "len") (rLenS X.K) := call_len_seq
theorem cl_lenT : CallR X (.builtin "len") rLenT := call_len_str
theorem cl_int : CallR X (.type "int") rInt1 := by
  rintro pins s σ H xs us Q I r ⟨i, rfl, q⟩
  exact call_int1 pins s σ H _ us Q I r (.inl ⟨i, rfl, q⟩)
theorem cl_str : CallR X (.type "str") rStr1 := call_str_int
theorem cl_tup : CallR X (.type "tuple") (rTup1 X.K) := call_tuple_of
theorem cl_list : CallR X (.type "list") (rList1 X.K) := call_list_of
theorem cl_isi {n : String} : CallR X (.builtin "isinstance") (rIsi1 X.K n) := by
  rintro pins s σ H xs us Q I r ⟨x, t, b, rfl, ty, kb, q⟩
  exact call_isi pins s σ H _ us Q I r ⟨x, .ty n, .type t, .type n, b, rfl, .ty n, ty, kit_ty kb, q⟩
theorem pe_ty {n : String} (hm : X.mg x = none) (hv : bootBuiltins x = some (.type n)) (hg : Gl X x) (hn : x ≠ "__name__" := by decide) (hd : (x == ("__debug__" : Str)) = false := by decide) : PE X (.Name x pos) (tC (.ty n)) := pe_bltn hg hm hv rfl hn hd

/-! ### more operators -/
def rInS1 : R2 := fun x y H Q => ∃ (c : Nat) (z : Str), x = .str ⟨#[c]⟩ ∧ y = .str z ∧ Q (.bl (decide (c ∈ z.cps.toList))) H
def rNotInS1 : R2 := fun x y H Q => ∃ (c : Nat) (z : Str), x = .str ⟨#[c]⟩ ∧ y = .str z ∧ Q (.bl (!decide (c ∈ z.cps.toList))) H
theorem op_inS1 : OpR X (compareOp .In) rInS1 := op_in_sign
theorem op_notInS1 : OpR X (compareOp .NotIn) rNotInS1 := op_notIn_sign
def rAddS1 : R2 := fun x y H Q => ∃ i j, x = .str i ∧ y = .str j ∧ i.length + j.length ≤ sizeLine ∧ Q (.str (i ++ j)) H
theorem op_addS1 : OpR X (binaryOp .Add) rAddS1 := op_add_str
/-- an int of any sign by a positive number: the rest is a number -/
def rModI : R2 := fun x y H Q => ∃ (i : Int) (m : Nat), x = .int i ∧ y = nV m ∧ 0 < m ∧ Q (nV (i % m).toNat) H
theorem op_modI : OpR X (binaryOp .Mod) rModI := by
  rintro pins s σ H x y v u Q I rx ry ⟨i, m, rfl, rfl, hm, q⟩
  refine op_mod pins s σ H _ _ v u Q I rx ry ⟨i, m, rfl, rfl, by omega, ?_⟩
  have e : ((i % (m : Int)).toNat : Int) = i % (m : Int) := Int.toNat_of_nonneg (Int.emod_nonneg _ (by omega))
  show Q (.int (i % (m : Int))) H
  rw [← e]
  exact q
def rAddI : R2 := fun x y H Q => ∃ i j, x = .int i ∧ y = .int j ∧ Q (.int (i + j)) H
def rMulI : R2 := fun x y H Q => ∃ i j, x = .int i ∧ y = .int j ∧ CMul i j ∧ Q (.int (i * j)) H
def rDivI : R2 := fun x y H Q => ∃ i j, x = .int i ∧ y = .int j ∧ CDiv i j ∧ Q (.int (i / j)) H
def rLtI : R2 := fun x y H Q => ∃ i j, x = .int i ∧ y = .int j ∧ Q (.bl (decide (i < j))) H
def rLeI : R2 := fun x y H Q => ∃ i j, x = .int i ∧ y = .int j ∧ Q (.bl (decide (i ≤ j))) H
def rGtI : R2 := fun x y H Q => ∃ i j, x = .int i ∧ y = .int j ∧ Q (.bl (decide (j < i))) H
def rGeI : R2 := fun x y H Q => ∃ i j, x = .int i ∧ y = .int j ∧ Q (.bl (decide (j ≤ i))) H
def rNeg : V → Hp → VK → Prop := fun x H Q => ∃ i, x = .int i ∧ Q (.int (-i)) H
/-- a value's truth as a test -/
def tTru (K : PySem.W.Frag) (ta : TE) : TT := fun σ H Q => ta σ H fun x H' => ∃ k, TruV K x H' k ∧ Q k H'
theorem pt_tru (ha : PE X e te) (he : ∀ whole, isTrue e X.env whole = (do let v ← whole; standAt e.pos; holding [v] (truthy v)) := by intro _; rfl) : PT X e (tTru X.K te) := pt_truth ha he
end
/-- a block that captures nothing, whatever stands around it -/
theorem blk_in {N : List Str} {sc scope : Scope} {own : List (Str × Nat)} (h : blkC N { kind := .function, names := [], isGenerator := false, isCoroutine := false } scope own = true) : BlkOk N sc scope own := by
  have b := blkOk_by h
  refine { b with free := fun y hy e => ?_ }
  rcases b.free y hy e with q | q <;> cases q
/-- what the module's names stand for -/
structure Gs (K : PySem.W.Frag) (mg : Str → Option Value) : Prop where
  b_len : mg "len" = none
  b_all : mg "all" = none
  b_range : mg "range" = none
  b_zip : mg "zip" = none
  b_enumerate : mg "enumerate" = none
  b_tuple : mg "tuple" = none
  b_list : mg "list" = none
  b_int : mg "int" = none
  b_str : mg "str" = none
  b_bool : mg "bool" = none
  b_set : mg "set" = none
  b_isinstance : mg "isinstance" = none
  MOST_CELLS : ∃ t, mg "MOST_CELLS" = some (.int ((24 : Nat) : Int) t)
  MOST_VALUES : ∃ t, mg "MOST_VALUES" = some (.int ((16 : Nat) : Int) t)
  MOST_DEEDS : ∃ t, mg "MOST_DEEDS" = some (.int ((400 : Nat) : Int) t)
  LONGEST_NAME : ∃ t, mg "LONGEST_NAME" = some (.int ((12 : Nat) : Int) t)
  LOWER : ∃ t, mg "LOWER" = some (.str LOWER t)
  DIGITS : ∃ t, mg "DIGITS" = some (.str DIGITS t)
end RwW
/-! each def's reading (printed by gen.py) -/
namespace RwW
open PySem L2 RwR
section

/-- is_name; slots: text=0 char=1 -/
def t_is_name (K : PySem.W.Frag) : L2.TS := (tSeq (tIfS (tOr (tTest (tOp rEqN (tCB rLenT (tCons (tVar 0) tNil)) (tC (nV 0)))) (tOr (tTest (tOp rGtN (tCB rLenT (tCons (tVar 0) tNil)) (tC (nV 12)))) (tTest (tOp rNotInS1 (tOp rIxS (tVar 0) (tC (nV 0))) (tC (.str LOWER)))))) (tRet (tC (.bl false)))
  tNext)
  (tRet (tCB (rAll K) (tCons (tLc (iStr (tVar 0)) (gName 1) tYes (tOrV (tOp rInS1 (tVar 1) (tC (.str LOWER))) (tOp rInS1 (tVar 1) (tC (.str DIGITS)))) [1]) tNil))))
/-- _check_names; slots: names=0 name=1 -/
def t_check_names (K : PySem.W.Frag) : L2.TS := (tIfS (tOr (tNot (tB (tCB (rAll K) (tCons (tLc (iList K (tVar 0)) (gName 1) tYes (tCall (spIsName) [] E0 (tCons (tVar 1) tNil)) [1]) tNil)))) (tTest (tOp rNeN (tLenSetS K (tVar 0)) (tCB (rLenS K) (tCons (tVar 0) tNil))))) tNever
  tNext)
/-- is_mask; slots: mask=0 size=1 -/
def t_is_mask (K : PySem.W.Frag) : L2.TS := (tRet (tChain rLtN rLtN (tC (nV 0)) (tVar 0) (tOp rShlN (tC (nV 1)) (tVar 1))))
/-- _check_order; slots: pairs=0 count=1 before=2 cell=3 _=4 -/
def t_check_order (K : PySem.W.Frag) : L2.TS := (tSeq (tAsg (tUn rNeg (tC (.int 1))) (gName 2))
  (tFor (iTup K (tVar 0)) (gTup K 2 (gCons (gName 3) (gCons (gName 4) gNil)))
  (tSeq (tIfS (tOr (tTest (tOp rLeI (tVar 3) (tVar 2))) (tTest (tOp rGeN (tVar 3) (tVar 1)))) tNever
  tNext)
  (tAsg (tVar 3) (gName 2)))))
/-- Machine._check_deed; slots: self=0 sizes=1 guard=2 changes=3 cell=4 mask=5 kind=6 number=7 -/
def t_Machine__check_deed (K : PySem.W.Frag) : L2.TS := (tSeq (tFor (iTup K (tVar 2)) (gTup K 2 (gCons (gName 4) (gCons (gName 5) gNil)))
  (tIfS (tNot (tB (tCall (spIsMask) [] E0 (tCons (tVar 5) (tCons (tOp (rIxL K) (tVar 1) (tVar 4)) tNil))))) tNever
  tNext))
  (tFor (iTup K (tVar 3)) (gTup K 2 (gCons (gName 4) (gCons (gTup K 2 (gCons (gName 6) (gCons (gName 7) gNil))) gNil)))
  (tSeq (tIfS (tAnd (tTest (tOp rEq (tVar 6) (tC (.str "set")))) (tTest (tChain rLeN rLtN (tC (nV 0)) (tVar 7) (tOp (rIxL K) (tVar 1) (tVar 4))))) tCont
  tNext)
  (tIfS (tOr (tTest (tOp rNe (tVar 6) (tC (.str "copy")))) (tOr (tTest (tOp rLtN (tVar 7) (tC (nV 0)))) (tOr (tTest (tOp rGeN (tVar 7) (tCB (rLenS K) (tCons (tVar 1) tNil)))) (tTest (tOp rGtN (tOp (rIxL K) (tVar 1) (tVar 7)) (tOp (rIxL K) (tVar 1) (tVar 4))))))) tNever
  tNext))))
/-- Machine.__init__; slots: self=0 cells=1 deeds=2 first=3 sizes=4 _=5 guard=6 changes=7 size=8 name=9 deed=10 mask=11 -/
def t_Machine_init (K : PySem.W.Frag) (c : Cs) : L2.TS := (tSeq (tIfS (tOr (tTest (tOp rLtN (tCB (rLenS K) (tCons (tVar 1) tNil)) (tC (nV 1)))) (tOr (tTest (tOp rGtN (tCB (rLenS K) (tCons (tVar 1) tNil)) (tC (nV 24)))) (tTest (tOp rGtN (tCB (rLenS K) (tCons (tVar 2) tNil)) (tC (nV 400)))))) tNever
  tNext)
  (tSeq (tDrop (tCall (spCheckNames K) [] E0 (tCons (tLc (iList K (tVar 1)) (gTup K 2 (gCons (gName 9) (gCons (gName 5) gNil))) tYes (tVar 9) [9, 5]) tNil)))
  (tSeq (tAsg (tLc (iList K (tVar 1)) (gTup K 2 (gCons (gName 5) (gCons (gName 8) gNil))) tYes (tVar 8) [5, 8]) (gName 4))
  (tSeq (tIfS (tNot (tB (tCB (rAll K) (tCons (tLc (iList K (tVar 4)) (gName 8) tYes (tChain rLeN rLeN (tC (nV 1)) (tVar 8) (tC (nV 16))) [8]) tNil)))) tNever
  tNext)
  (tSeq (tDrop (tCall (spCheckNames K) [] E0 (tCons (tLc (iList K (tVar 2)) (gName 10) tYes (tOp (rIxT K) (tVar 10) (tC (nV 0))) [10]) tNil)))
  (tSeq (tFor (iList K (tVar 2)) (gTup K 3 (gCons (gName 5) (gCons (gName 6) (gCons (gName 7) gNil))))
  (tSeq (tDrop (tCall (spCheckOrder) [] E0 (tCons (tVar 6) (tCons (tCB (rLenS K) (tCons (tVar 1) tNil)) tNil))))
  (tSeq (tDrop (tCall (spCheckOrder) [] E0 (tCons (tVar 7) (tCons (tCB (rLenS K) (tCons (tVar 1) tNil)) tNil))))
  (tDrop (tMeth c.M "_check_deed" (spCheckDeed) [] E0 (tVar 0) (tCons (tVar 4) (tCons (tVar 6) (tCons (tVar 7) tNil))))))))
  (tSeq (tIfS (tOr (tTest (tOp rNeN (tCB (rLenS K) (tCons (tVar 3) tNil)) (tCB (rLenS K) (tCons (tVar 1) tNil)))) (tNot (tB (tCB (rAll K) (tCons (tLc (iZipM K (tCons (tVar 3) (tCons (tVar 4) tNil))) (gTup K 2 (gCons (gName 11) (gCons (gName 8) gNil))) tYes (tCall (spIsMask) [] E0 (tCons (tVar 11) (tCons (tVar 8) tNil))) [11, 8]) tNil))))) tNever
  tNext)
  (tSeq (sFld K (tVar 0) (tCB (rTup1 K) (tCons (tLc (iList K (tVar 1)) (gTup K 2 (gCons (gName 9) (gCons (gName 8) gNil))) tYes (tTup (tCons (tVar 9) (tCons (tVar 8) tNil))) [9, 8]) tNil)) "cells")
  (tSeq (sFld K (tVar 0) (tCB (rTup1 K) (tCons (tLc (iList K (tVar 2)) (gTup K 3 (gCons (gName 9) (gCons (gName 6) (gCons (gName 7) gNil)))) tYes (tTup (tCons (tVar 9) (tCons (tCB (rTup1 K) (tCons (tVar 6) tNil)) (tCons (tCB (rTup1 K) (tCons (tVar 7) tNil)) tNil)))) [9, 6, 7]) tNil)) "deeds")
  (sFld K (tVar 0) (tCB (rTup1 K) (tCons (tVar 3) tNil)) "first"))))))))))
/-- Machine.full; slots: self=0 _=1 size=2 -/
def t_Machine_full (K : PySem.W.Frag) : L2.TS := (tRet (tCB (rTup1 K) (tCons (tLc (iTup K (tFld K (tVar 0) "cells")) (gTup K 2 (gCons (gName 1) (gCons (gName 2) gNil))) tYes (tOp rSubN (tOp rShlN (tC (nV 1)) (tVar 2)) (tC (nV 1))) [1, 2]) tNil)))
/-- check_sketch; slots: machine=0 sketch=1 mask=2 _=3 size=4 -/
def t_check_sketch (K : PySem.W.Frag) : L2.TS := (tSeq (tIfS (tTest (tOp rNeN (tCB (rLenS K) (tCons (tVar 1) tNil)) (tCB (rLenS K) (tCons (tFld K (tVar 0) "cells") tNil)))) tNever
  tNext)
  (tFor (RZ.iZipA K (tCons (tVar 1) (tCons (tFld K (tVar 0) "cells") tNil))) (gTup K 2 (gCons (gName 2) (gCons (gTup K 2 (gCons (gName 3) (gCons (gName 4) gNil))) gNil)))
  (tIfS (tNot (tB (tCall (spIsMask) [] E0 (tCons (tVar 2) (tCons (tVar 4) tNil))))) tNever
  tNext)))
/-- sketch_before; slots: machine=0 sketch=1 deed=2 _=3 guard=4 changes=5 masks=6 full=7 cell=8 kind=9 number=10 mask=11 -/
def t_sketch_before (K : PySem.W.Frag) (c : Cs) : L2.TS := (tSeq (tAsg (tOp (rIxT K) (tFld K (tVar 0) "deeds") (tVar 2)) (gTup K 3 (gCons (gName 3) (gCons (gName 4) (gCons (gName 5) gNil)))))
  (tSeq (tAsg (tCB (rList1 K) (tCons (tVar 1) tNil)) (gName 6))
  (tSeq (tAsg (tProp c.M (spFull c) [] E0 (tVar 0)) (gName 7))
  (tSeq (tFor (iTup K (tVar 5)) (gTup K 2 (gCons (gName 8) (gCons (gName 3) gNil)))
  (tAsg (tOp (rIxT K) (tVar 7) (tVar 8)) (gSub (tVar 6) (tVar 8) rSetL)))
  (tSeq (tFor (iTup K (tVar 5)) (gTup K 2 (gCons (gName 8) (gCons (gTup K 2 (gCons (gName 9) (gCons (gName 10) gNil))) gNil)))
  (tIfS (tTest (tOp rEq (tVar 9) (tC (.str "set")))) (tIfS (tTest (tOp rEqN (tOp rAndN (tOp rShrN (tOp (rIxT K) (tVar 1) (tVar 8)) (tVar 10)) (tC (nV 1))) (tC (nV 0)))) (tRet (tC .non))
  tNext)
  (tAugS (tVar 6) (tVar 10) (tOp (rIxT K) (tVar 1) (tVar 8)) (rIxN K) rAndN rSetL)))
  (tSeq (tFor (iTup K (tVar 4)) (gTup K 2 (gCons (gName 8) (gCons (gName 11) gNil)))
  (tAugS (tVar 6) (tVar 8) (tVar 11) (rIxN K) rAndN rSetL))
  (tRet (tIf (tB (tCB (rAll K) (tCons (tLc (iList K (tVar 6)) (gName 11) tYes (tOp rNeN (tVar 11) (tC (nV 0))) [11]) tNil))) (tCB (rTup1 K) (tCons (tVar 6) tNil)) (tC .non)))))))))
/-- meet; slots: a=0 b=1 masks=2 left=3 right=4 -/
def t_meet (K : PySem.W.Frag) : L2.TS := (tSeq (tAsg (tLst tNil) (gName 2))
  (tSeq (tFor (RZ.iZipA K (tCons (tVar 0) (tCons (tVar 1) tNil))) (gTup K 2 (gCons (gName 3) (gCons (gName 4) gNil)))
  (tSeq (tIfS (tTest (tOp rEqN (tOp rAndN (tVar 3) (tVar 4)) (tC (nV 0)))) (tRet (tC .non))
  tNext)
  (tDrop (tBM K "list" rAppend (tVar 2) (tCons (tOp rAndN (tVar 3) (tVar 4)) tNil)))))
  (tRet (tCB (rTup1 K) (tCons (tVar 2) tNil)))))
/-- _split; slots: a=0 b=1 both=2 parts=3 cell=4 mask=5 rest=6 -/
def t_split (K : PySem.W.Frag) : L2.TS := (tSeq (tAsg (tCall (spMeet) [] E0 (tCons (tVar 0) (tCons (tVar 1) tNil))) (gName 2))
  (tSeq (tIfS (tB (tIsN (tVar 2))) (tRet (tLst (tCons (tVar 0) tNil)))
  tNext)
  (tSeq (tAsg (tLst tNil) (gName 3))
  (tSeq (tFor (iEnumU K (tCons (tVar 0) tNil)) (gTup K 2 (gCons (gName 4) (gCons (gName 5) gNil)))
  (tSeq (tAsg (tOp rXorN (tVar 5) (tOp (rIxT K) (tVar 2) (tVar 4))) (gName 6))
  (tIfS (tTest (tOp rNeN (tVar 6) (tC (nV 0)))) (tDrop (tBM K "list" rAppend (tVar 3) (tCons (tOp (rCatA K) (tOp (rCatA K) (tSl (rSlA K) (tVar 2) tNoPart (tPart (tVar 4))) (tTup (tCons (tVar 6) tNil))) (tSl (rSlA K) (tVar 0) (tPart (tOp rAddN (tVar 4) (tC (nV 1)))) tNoPart)) tNil)))
  tNext)))
  (tRet (tVar 3))))))
/-- without; slots: a=0 piece=1 parts=2 sketch=3 other=4 part=5 -/
def t_without (K : PySem.W.Frag) : L2.TS := (tSeq (tAsg (tLst (tCons (tVar 0) tNil)) (gName 2))
  (tSeq (tFor (iList K (tVar 1)) (gName 3)
  (tAsg (tLc2 (iList K (tVar 2)) (gName 4) tYes (iList K (tCall (spSplit) [] E0 (tCons (tVar 4) (tCons (tVar 3) tNil)))) (gName 5) tYes (tVar 5) [4, 5] [5]) (gName 2)))
  (tRet (tVar 2))))
/-- values_of; slots: mask=0 value=1 -/
def t_values_of (K : PySem.W.Frag) : L2.TS := (tRet (tLc (iRng1 (tCons (tBits (tVar 0)) tNil)) (gName 1) (tTru K (tOp rAndN (tOp rShrN (tVar 0) (tVar 1)) (tC (nV 1)))) (tVar 1) [1]))
/-- least_disk; slots: sketch=0 mask=1 -/
def t_least_disk (K : PySem.W.Frag) : L2.TS := (tRet (tCB (rTup1 K) (tCons (tLc (iTup K (tVar 0)) (gName 1) tYes (tOp (rIxL K) (tCall (spValues) [] E0 (tCons (tVar 1) tNil)) (tC (nV 0))) [1]) tNil)))
/-- Paper.__init__; slots: self=0 sketches=1 cover=2 table=3 sketch=4 row=5 entry=6 -/
def t_Paper_init (K : PySem.W.Frag) : L2.TS := (tSeq (sFld K (tVar 0) (tCB (rTup1 K) (tCons (tLc (iList K (tVar 1)) (gName 4) tYes (tCB (rTup1 K) (tCons (tVar 4) tNil)) [4]) tNil)) "sketches")
  (tSeq (sFld K (tVar 0) (tCB (rTup1 K) (tCons (tVar 2) tNil)) "cover")
  (sFld K (tVar 0) (tCB (rTup1 K) (tCons (tLc (iList K (tVar 3)) (gName 5) tYes (tCB (rTup1 K) (tCons (tLc (iList K (tVar 5)) (gName 6) tYes (tCB (rTup1 K) (tCons (tVar 6) tNil)) [6]) tNil)) [5]) tNil)) "table")))
/-- check_question; slots: machine=0 image=1 piece=2 sketch=3 -/
def t_check_question (K : PySem.W.Frag) (c : Cs) : L2.TS := (tSeq (tDrop (tCall (spCheckSketch c) [] E0 (tCons (tVar 0) (tCons (tVar 1) tNil))))
  (tFor (iList K (tVar 2)) (gName 3)
  (tDrop (tCall (spCheckSketch c) [] E0 (tCons (tVar 0) (tCons (tVar 3) tNil))))))
/-- packed_sketch; slots: sketch=0 packed=1 mask=2 -/
def t_packed_sketch (K : PySem.W.Frag) : L2.TS := (tSeq (tAsg (tC (nV 0)) (gName 1))
  (tSeq (tFor (iTup K (tVar 0)) (gName 2)
  (tAsg (tOp rOrN (tOp rShlN (tVar 1) (tC (nV 16))) (tVar 2)) (gName 1)))
  (tRet (tVar 1))))
/-- Search.__init__; slots: self=0 machine=1 piece=2 -/
def t_Search_init (K : PySem.W.Frag) : L2.TS := (tSeq (sFld K (tVar 0) (tVar 1) "_machine")
  (tSeq (sFld K (tVar 0) (tVar 2) "_piece")
  (tSeq (sFld K (tVar 0) (tLst tNil) "_packed")
  (tSeq (sFld K (tVar 0) (tLst tNil) "sketches")
  (tSeq (sFld K (tVar 0) (tLst tNil) "origins")
  (sFld K (tVar 0) (tUn rNeg (tC (.int 1))) "found"))))))
/-- Search.place; slots: self=0 sketch=1 origin=2 packed=3 number=4 other=5 -/
def t_Search_place (K : PySem.W.Frag) : L2.TS := (tSeq (tAsg (tCall (spPacked) [] E0 (tCons (tVar 1) tNil)) (gName 3))
  (tSeq (tFor (iEnum K (tCons (tFld K (tVar 0) "_packed") tNil)) (gTup K 2 (gCons (gName 4) (gCons (gName 5) gNil)))
  (tIfS (tTest (tOp rEqN (tOp rAndN (tVar 3) (tVar 5)) (tVar 3))) (tRet (tVar 4))
  tNext))
  (tSeq (tDrop (tBM K "list" rAppend (tFld K (tVar 0) "_packed") (tCons (tVar 3) tNil)))
  (tSeq (tDrop (tBM K "list" rAppend (tFld K (tVar 0) "sketches") (tCons (tVar 1) tNil)))
  (tSeq (tDrop (tBM K "list" rAppend (tFld K (tVar 0) "origins") (tCons (tVar 2) tNil)))
  (tSeq (tIfS (tAnd (tTest (tOp rLtI (tFld K (tVar 0) "found") (tC (nV 0)))) (tB (tNotN (tCall (spMeet) [] E0 (tCons (tVar 1) (tCons (tFld K (tFld K (tVar 0) "_machine") "first") tNil)))))) (sFld K (tVar 0) (tOp rSubN (tCB (rLenS K) (tCons (tFld K (tVar 0) "sketches") tNil)) (tC (nV 1))) "found")
  tNext)
  (tRet (tOp rSubN (tCB (rLenS K) (tCons (tFld K (tVar 0) "sketches") tNil)) (tC (nV 1))))))))))
/-- Search.places; slots: self=0 sketch=1 origin=2 part=3 -/
def t_Search_places (K : PySem.W.Frag) (c : Cs) : L2.TS := (tRet (tLc (iList K (tCall (spWithout) [] E0 (tCons (tVar 1) (tCons (tFld K (tVar 0) "_piece") tNil)))) (gName 3) tYes (tMeth c.S "place" (spPlace c) [] E0 (tVar 0) (tCons (tVar 3) (tCons (tVar 2) tNil))) [3]))
/-- Search.row; slots: self=0 number=1 entries=2 deed=3 earlier=4 -/
def t_Search_row (K : PySem.W.Frag) (c : Cs) : L2.TS := (tSeq (tAsg (tLst tNil) (gName 2))
  (tSeq (tFor (iRng1 (tCons (tCB (rLenS K) (tCons (tFld K (tFld K (tVar 0) "_machine") "deeds") tNil)) tNil)) (gName 3)
  (tSeq (tAsg (tCall (spBefore c) [] E0 (tCons (tFld K (tVar 0) "_machine") (tCons (tOp (rIxL K) (tFld K (tVar 0) "sketches") (tVar 1)) (tCons (tVar 3) tNil)))) (gName 4))
  (tDrop (tBM K "list" rAppend (tVar 2) (tCons (tIf (tB (tIsN (tVar 4))) (tLst tNil) (tMeth c.S "places" (spPlaces c) [] E0 (tVar 0) (tCons (tVar 4) (tCons (tTup (tCons (tVar 3) (tCons (tVar 1) tNil))) tNil)))) tNil)))))
  (tRet (tVar 2))))
/-- Search.history; slots: self=0 number=1 disk=2 deeds=3 deed=4 -/
def t_Search_history (K : PySem.W.Frag) : L2.TS := (tSeq (tAsg (tFld K (tVar 0) "found") (gName 1))
  (tSeq (tAsg (tCall (spLeast) [] E0 (tCons (tCall (spMeet) [] E0 (tCons (tOp (rIxL K) (tFld K (tVar 0) "sketches") (tVar 1)) (tCons (tFld K (tFld K (tVar 0) "_machine") "first") tNil))) tNil)) (gName 2))
  (tSeq (tAsg (tLst tNil) (gName 3))
  (tSeq (tWhile (tB (tNotN (tOp (rIxL K) (tFld K (tVar 0) "origins") (tVar 1)))) (tSeq (tAsg (tOp (rIxL K) (tFld K (tVar 0) "origins") (tVar 1)) (gTup K 2 (gCons (gName 4) (gCons (gName 1) gNil))))
  (tDrop (tBM K "list" rAppend (tVar 3) (tCons (tVar 4) tNil)))))
  (tRet (tTup (tCons (tVar 2) (tCons (tVar 3) tNil))))))))
/-- OrderPaper.__init__; slots: self=0 reach=1 cover=2 table=3 sketches=4 links=5 steps=6 first=7 second=8 entry=9 -/
def t_OrderPaper_init (K : PySem.W.Frag) (c : Cs) : L2.TS := (tSeq (tAsg (tMake c.P (spPaper c) [] E0 (tCons (tVar 1) (tCons (tVar 2) (tCons (tVar 3) tNil)))) (gName 7))
  (tSeq (tAsg (tMake c.P (spPaper c) [] E0 (tCons (tVar 4) (tCons (tTup tNil) (tCons (tVar 6) tNil)))) (gName 8))
  (tSeq (sFld K (tVar 0) (tFld K (tVar 7) "sketches") "reach")
  (tSeq (sFld K (tVar 0) (tFld K (tVar 7) "cover") "cover")
  (tSeq (sFld K (tVar 0) (tFld K (tVar 7) "table") "table")
  (tSeq (sFld K (tVar 0) (tFld K (tVar 8) "sketches") "sketches")
  (tSeq (sFld K (tVar 0) (tCB (rTup1 K) (tCons (tLc (iList K (tVar 5)) (gName 9) tYes (tCB (rTup1 K) (tCons (tVar 9) tNil)) [9]) tNil)) "links")
  (sFld K (tVar 0) (tFld K (tVar 8) "table") "steps"))))))))
/-- OrderAnswer.__init__; slots: self=0 told=1 paper=2 disk=3 deeds=4 moment=5 -/
def t_OrderAnswer_init (K : PySem.W.Frag) : L2.TS := (tSeq (sFld K (tVar 0) (tVar 1) "told")
  (tSeq (sFld K (tVar 0) (tVar 2) "paper")
  (tSeq (sFld K (tVar 0) (tVar 3) "disk")
  (tSeq (sFld K (tVar 0) (tIf (tB (tIsN (tVar 4))) (tC .non) (tCB (rTup1 K) (tCons (tVar 4) tNil))) "deeds")
  (sFld K (tVar 0) (tVar 5) "moment")))))
/-- _late_parts; slots: sketch=0 early=1 late=2 parts=3 other=4 both=5 -/
def t_late_parts (K : PySem.W.Frag) : L2.TS := (tSeq (tAsg (tLst tNil) (gName 3))
  (tSeq (tFor (iList K (tVar 2)) (gName 4)
  (tSeq (tAsg (tCall (spMeet) [] E0 (tCons (tVar 0) (tCons (tVar 4) tNil))) (gName 5))
  (tIfS (tB (tNotN (tVar 5))) (tAug 3 (tCall (spWithout) [] E0 (tCons (tVar 5) (tCons (tVar 1) tNil))) rExt2)
  tNext)))
  (tRet (tVar 3))))
/-- _way; slots: search=0 number=1 deeds=2 deed=3 -/
def t_way (K : PySem.W.Frag) : L2.TS := (tSeq (tAsg (tLst tNil) (gName 2))
  (tSeq (tWhile (tB (tNotN (tOp (rIxL K) (tFld K (tVar 0) "origins") (tVar 1)))) (tSeq (tAsg (tOp (rIxL K) (tFld K (tVar 0) "origins") (tVar 1)) (gTup K 2 (gCons (gName 3) (gCons (gName 1) gNil))))
  (tDrop (tBM K "list" rAppend (tVar 2) (tCons (tVar 3) tNil)))))
  (tRet (tVar 2))))
/-- tell_order; slots: machine=0 image=1 early=2 late=3 reach=4 cover=5 table=6 search=7 links=8 owners=9 number=10 sketch=11 steps=12 paper=13 disk=14 deeds=15 start=16 part=17 -/
def t_tell_order (K : PySem.W.Frag) (c : Cs) : L2.TS := (tSeq (tDrop (tCall (spCheckQ c) [] E0 (tCons (tVar 0) (tCons (tVar 1) (tCons (tVar 2) tNil)))))
  (tSeq (tDrop (tCall (spCheckQ c) [] E0 (tCons (tVar 0) (tCons (tVar 1) (tCons (tVar 3) tNil)))))
  (tSeq (tAsg (tMake c.S (spSearch c) [] E0 (tCons (tVar 0) (tCons (tLst tNil) tNil))) (gName 4))
  (tSeq (tAsg (tMeth c.S "places" (spPlaces c) [] E0 (tVar 4) (tCons (tVar 1) (tCons (tC .non) tNil))) (gName 5))
  (tSeq (tAsg (tLst tNil) (gName 6))
  (tSeq (tWhile (tTest (tOp rLtN (tCB (rLenS K) (tCons (tVar 6) tNil)) (tCB (rLenS K) (tCons (tFld K (tVar 4) "sketches") tNil)))) (tDrop (tBM K "list" rAppend (tVar 6) (tCons (tMeth c.S "row" (spRow c) [] E0 (tVar 4) (tCons (tCB (rLenS K) (tCons (tVar 6) tNil)) tNil)) tNil))))
  (tSeq (tAsg (tMake c.S (spSearch c) [] E0 (tCons (tVar 0) (tCons (tVar 2) tNil))) (gName 7))
  (tSeq (tAsg (tLst tNil) (gName 8))
  (tSeq (tAsg (tLst tNil) (gName 9))
  (tSeq (tFor (iEnum K (tCons (tFld K (tVar 4) "sketches") tNil)) (gTup K 2 (gCons (gName 10) (gCons (gName 11) gNil)))
  (tSeq (tDrop (tBM K "list" rAppend (tVar 8) (tCons (tLc (iList K (tCall (spLateParts) [] E0 (tCons (tVar 11) (tCons (tVar 2) (tCons (tVar 3) tNil))))) (gName 17) tYes (tMeth c.S "place" (spPlace c) [] E0 (tVar 7) (tCons (tVar 17) (tCons (tC .non) tNil))) [17]) tNil)))
  (tAug 9 (tOp rRep (tLst (tCons (tVar 10) tNil)) (tOp rSubN (tCB (rLenS K) (tCons (tFld K (tVar 7) "sketches") tNil)) (tCB (rLenS K) (tCons (tVar 9) tNil)))) rExt2)))
  (tSeq (tAsg (tLst tNil) (gName 12))
  (tSeq (tWhile (tAnd (tTest (tOp rLtI (tFld K (tVar 7) "found") (tC (nV 0)))) (tTest (tOp rLtN (tCB (rLenS K) (tCons (tVar 12) tNil)) (tCB (rLenS K) (tCons (tFld K (tVar 7) "sketches") tNil))))) (tDrop (tBM K "list" rAppend (tVar 12) (tCons (tMeth c.S "row" (spRow c) [] E0 (tVar 7) (tCons (tCB (rLenS K) (tCons (tVar 12) tNil)) tNil)) tNil))))
  (tSeq (tIfS (tTest (tOp rLtI (tFld K (tVar 7) "found") (tC (nV 0)))) (tSeq (tAsg (tMake c.OP (spOPaper c) [] E0 (tCons (tFld K (tVar 4) "sketches") (tCons (tVar 5) (tCons (tVar 6) (tCons (tFld K (tVar 7) "sketches") (tCons (tVar 8) (tCons (tVar 12) tNil))))))) (gName 13))
  (tRet (tMake c.OA (spOAnswer c) [] E0 (tCons (tC (.bl true)) (tCons (tVar 13) (tCons (tC .non) (tCons (tC .non) (tCons (tC .non) tNil))))))))
  tNext)
  (tSeq (tAsg (tMeth c.S "history" (spHistory c) [] E0 (tVar 7) tNil) (gTup K 2 (gCons (gName 14) (gCons (gName 15) gNil))))
  (tSeq (tAsg (tFld K (tVar 7) "found") (gName 16))
  (tSeq (tWhile (tB (tNotN (tOp (rIxL K) (tFld K (tVar 7) "origins") (tVar 16)))) (tAsg (tOp (rIxT K) (tOp (rIxL K) (tFld K (tVar 7) "origins") (tVar 16)) (tC (nV 1))) (gName 16)))
  (tRet (tMake c.OA (spOAnswer c) [] E0 (tCons (tC (.bl false)) (tCons (tC .non) (tCons (tVar 14) (tCons (tOp rCat (tVar 15) (tCall (spWay c) [] E0 (tCons (tVar 4) (tCons (tOp (rIxL K) (tVar 9) (tVar 16)) tNil)))) (tCons (tCB (rLenS K) (tCons (tVar 15) tNil)) tNil)))))))))))))))))))))))
/-- _law_cell; slots: _law_script=0 _law_k=1 -/
def t_l_cell (K : PySem.W.Frag) : L2.TS := (tSeq (tIfS (tTest (tOp rLtN (tVar 1) (tCB (rLenS K) (tCons (tVar 0) tNil)))) (tRet (tCB rInt1 (tCons (tOp (rIxL K) (tVar 0) (tVar 1)) tNil)))
  tNext)
  (tRet (tC (nV 0))))
/-- _law_mix; slots: _law_cell_here=0 _law_k=1 _law_number=2 -/
def t_l_mix (K : PySem.W.Frag) : L2.TS := (tSeq (tAsg (tOp rModI (tCB rInt1 (tCons (tOp rAddI (tOp rAddI (tOp rMulI (tVar 0) (tC (nV 48271))) (tOp rMulN (tVar 1) (tC (nV 69621)))) (tC (nV 12345))) tNil)) (tC (nV 2147483647))) (gName 2))
  (tSeq (tAsg (tOp rModI (tCB rInt1 (tCons (tOp rAddN (tOp rAddN (tOp rMulN (tVar 2) (tC (nV 16807))) (tOp rMulN (tVar 1) (tC (nV 40692)))) (tC (nV 777))) tNil)) (tC (nV 2147483629))) (gName 2))
  (tRet (tOp rDivN (tVar 2) (tC (nV 997))))))
/-- _law_is_int; slots: _law_value=0 -/
def t_l_is_int (K : PySem.W.Frag) : L2.TS := (tRet (tAndV (tCB (rIsi1 K "int") (tCons (tVar 0) (tCons (tC (.ty "int")) tNil))) (tNotV (tCB (rIsi1 K "bool") (tCons (tVar 0) (tCons (tC (.ty "bool")) tNil))))))
/-- _law_mask; slots: _law_number=0 _law_size=1 -/
def t_l_mask (K : PySem.W.Frag) : L2.TS := (tRet (tOp rAddN (tC (nV 1)) (tOp rModN (tVar 0) (tOp rSubN (tOp rShlN (tC (nV 1)) (tVar 1)) (tC (nV 1))))))
/-- _law_deed; slots: _law_cell_here=0 _law_sizes=1 _law_number=2 _law_count=3 _law_guard=4 _law_changes=5 _law_k=6 _law_kind=7 _law_other=8 -/
def t_l_deed (K : PySem.W.Frag) : L2.TS := (tSeq (tAsg (tCB (rLenS K) (tCons (tVar 1) tNil)) (gName 3))
  (tSeq (tAsg (tLst tNil) (gName 4))
  (tSeq (tAsg (tLst tNil) (gName 5))
  (tSeq (tFor (iRng1 (tCons (tVar 3) tNil)) (gName 6)
  (tSeq (tIfS (tTest (tOp rLtN (tOp rModN (tCall (spMix) [] E0 (tCons (tVar 0) (tCons (tOp rMulN (tC (nV 4)) (tVar 6)) tNil))) (tC (nV 5))) (tC (nV 2)))) (tDrop (tBM K "list" rAppend (tVar 4) (tCons (tTup (tCons (tVar 6) (tCons (tCall (spMask) [] E0 (tCons (tCall (spMix) [] E0 (tCons (tVar 0) (tCons (tOp rAddN (tOp rMulN (tC (nV 4)) (tVar 6)) (tC (nV 1))) tNil))) (tCons (tOp (rIxL K) (tVar 1) (tVar 6)) tNil))) tNil))) tNil)))
  tNext)
  (tSeq (tAsg (tOp rModN (tCall (spMix) [] E0 (tCons (tVar 0) (tCons (tOp rAddN (tOp rMulN (tC (nV 4)) (tVar 6)) (tC (nV 2))) tNil))) (tC (nV 6))) (gName 7))
  (tSeq (tAsg (tOp rModN (tCall (spMix) [] E0 (tCons (tVar 0) (tCons (tOp rAddN (tOp rMulN (tC (nV 4)) (tVar 6)) (tC (nV 3))) tNil))) (tVar 3)) (gName 8))
  (tIfS (tTest (tOp rLtN (tVar 7) (tC (nV 2)))) (tDrop (tBM K "list" rAppend (tVar 5) (tCons (tTup (tCons (tVar 6) (tCons (tTup (tCons (tC (.str "set")) (tCons (tOp rModN (tCall (spMix) [] E0 (tCons (tVar 0) (tCons (tOp rAddN (tOp rMulN (tC (nV 4)) (tVar 6)) (tC (nV 3))) tNil))) (tOp (rIxL K) (tVar 1) (tVar 6))) tNil))) tNil))) tNil)))
  (tIfS (tAnd (tTest (tOp rEqN (tVar 7) (tC (nV 2)))) (tTest (tOp rLeN (tOp (rIxL K) (tVar 1) (tVar 8)) (tOp (rIxL K) (tVar 1) (tVar 6))))) (tDrop (tBM K "list" rAppend (tVar 5) (tCons (tTup (tCons (tVar 6) (tCons (tTup (tCons (tC (.str "copy")) (tCons (tVar 8) tNil))) tNil))) tNil)))
  tNext))))))
  (tRet (tTup (tCons (tOp rAddS1 (tC (.str "m")) (tCB rStr1 (tCons (tVar 2) tNil))) (tCons (tCB (rTup1 K) (tCons (tVar 4) tNil)) (tCons (tCB (rTup1 K) (tCons (tVar 5) tNil)) tNil)))))))))
/-- _law_parts; slots: _law_script=0 _law_first=1 _law_most=2 _law_count=3 _law_sizes=4 _law_cells=5 _law_deeds=6 _law_k=7 _law_initial=8 _law_mask_here=9 -/
def t_l_parts (K : PySem.W.Frag) : L2.TS := (tSeq (tAsg (tOp rAddN (tC (nV 1)) (tOp rModI (tCall (spCell K) [] E0 (tCons (tVar 0) (tCons (tVar 1) tNil))) (tC (nV 4)))) (gName 3))
  (tSeq (tAsg (tLc (iRng1 (tCons (tVar 3) tNil)) (gName 7) tYes (tOp rAddN (tC (nV 1)) (tOp rModN (tCall (spMix) [] E0 (tCons (tCall (spCell K) [] E0 (tCons (tVar 0) (tCons (tVar 1) tNil))) (tCons (tVar 7) tNil))) (tC (nV 3)))) [7]) (gName 4))
  (tSeq (tAsg (tLc (iRng1 (tCons (tVar 3) tNil)) (gName 7) tYes (tTup (tCons (tOp rIxS (tC (.str "abcd")) (tVar 7)) (tCons (tOp (rIxL K) (tVar 4) (tVar 7)) tNil))) [7]) (gName 5))
  (tSeq (tAsg (tLst tNil) (gName 6))
  (tSeq (tFor (iRng1 (tCons (tOp rModI (tCall (spCell K) [] E0 (tCons (tVar 0) (tCons (tOp rAddN (tVar 1) (tC (nV 1))) tNil))) (tOp rAddN (tVar 2) (tC (nV 1)))) tNil)) (gName 7)
  (tDrop (tBM K "list" rAppend (tVar 6) (tCons (tCall (lDeed) [] E0 (tCons (tCall (spCell K) [] E0 (tCons (tVar 0) (tCons (tOp rAddN (tOp rAddN (tVar 1) (tC (nV 2))) (tVar 7)) tNil))) (tCons (tVar 4) (tCons (tVar 7) tNil)))) tNil))))
  (tSeq (tAsg (tLst tNil) (gName 8))
  (tSeq (tFor (iRng1 (tCons (tVar 3) tNil)) (gName 7)
  (tSeq (tAsg (tCall (spMask) [] E0 (tCons (tCall (spMix) [] E0 (tCons (tCall (spCell K) [] E0 (tCons (tVar 0) (tCons (tOp rAddN (tVar 1) (tC (nV 1))) tNil))) (tCons (tVar 7) tNil))) (tCons (tOp (rIxL K) (tVar 4) (tVar 7)) tNil))) (gName 9))
  (tSeq (tIfS (tTest (tOp rEqN (tOp rModI (tOp rDivI (tCall (spCell K) [] E0 (tCons (tVar 0) (tCons (tOp rAddN (tVar 1) (tC (nV 1))) tNil))) (tC (nV 64))) (tC (nV 2))) (tC (nV 1)))) (tAsg (tOp rShlN (tC (nV 1)) (tOp rModN (tCall (spMix) [] E0 (tCons (tCall (spCell K) [] E0 (tCons (tVar 0) (tCons (tOp rAddN (tVar 1) (tC (nV 1))) tNil))) (tCons (tVar 7) tNil))) (tOp (rIxL K) (tVar 4) (tVar 7)))) (gName 9))
  tNext)
  (tDrop (tBM K "list" rAppend (tVar 8) (tCons (tVar 9) tNil))))))
  (tRet (tTup (tCons (tVar 5) (tCons (tVar 6) (tCons (tCB (rTup1 K) (tCons (tVar 8) tNil)) tNil))))))))))))
/-- _law_sketch; slots: _law_cell_here=0 _law_sizes=1 _law_masks=2 _law_k=3 _law_number=4 _law_mask_here=5 -/
def t_l_sketch (K : PySem.W.Frag) : L2.TS := (tSeq (tAsg (tLst tNil) (gName 2))
  (tSeq (tFor (iRng1 (tCons (tCB (rLenS K) (tCons (tVar 1) tNil)) tNil)) (gName 3)
  (tSeq (tAsg (tCall (spMix) [] E0 (tCons (tVar 0) (tCons (tOp rMulN (tC (nV 3)) (tVar 3)) tNil))) (gName 4))
  (tSeq (tAsg (tCall (spMask) [] E0 (tCons (tVar 4) (tCons (tOp (rIxL K) (tVar 1) (tVar 3)) tNil))) (gName 5))
  (tSeq (tIfS (tTest (tOp rEqN (tOp rModN (tOp rDivN (tVar 4) (tC (nV 16))) (tC (nV 3))) (tC (nV 0)))) (tAsg (tOp rSubN (tOp rShlN (tC (nV 1)) (tOp (rIxL K) (tVar 1) (tVar 3))) (tC (nV 1))) (gName 5))
  tNext)
  (tSeq (tIfS (tTest (tOp rEqN (tOp rModI (tVar 0) (tC (nV 4))) (tC (nV 1)))) (tAsg (tOp rShlN (tC (nV 1)) (tOp rModN (tVar 4) (tOp (rIxL K) (tVar 1) (tVar 3)))) (gName 5))
  tNext)
  (tDrop (tBM K "list" rAppend (tVar 2) (tCons (tVar 5) tNil))))))))
  (tRet (tCB (rTup1 K) (tCons (tVar 2) tNil)))))
/-- _law_piece; slots: _law_cell_here=0 _law_sizes=1 _law_k=2 -/
def t_l_piece (K : PySem.W.Frag) : L2.TS := (tRet (tLc (iRng1 (tCons (tOp (rIxT K) (tTup (tCons (tC (nV 0)) (tCons (tC (nV 1)) (tCons (tC (nV 1)) (tCons (tC (nV 2)) tNil))))) (tOp rModI (tVar 0) (tC (nV 4)))) tNil)) (gName 2) tYes (tCall (lSketch) [] E0 (tCons (tOp rAddI (tOp rDivI (tVar 0) (tC (nV 3))) (tOp rMulN (tC (nV 1000)) (tVar 2))) (tCons (tVar 1) tNil))) [2]))
/-- _law_in; slots: _law_sketch_here=0 _law_disk=1 _law_mask_here=2 _law_value=3 -/
def t_l_in (K : PySem.W.Frag) : L2.TS := (tSeq (tFor (RZ.iZipA K (tCons (tVar 0) (tCons (tVar 1) tNil))) (gTup K 2 (gCons (gName 2) (gCons (gName 3) gNil)))
  (tIfS (tTest (tOp rEqN (tOp rAndN (tOp rShrN (tVar 2) (tVar 3)) (tC (nV 1))) (tC (nV 0)))) (tRet (tC (.bl false)))
  tNext))
  (tRet (tC (.bl true))))
/-- _law_has; slots: _law_piece_here=0 _law_disk=1 _law_sketch_here=2 -/
def t_l_has (K : PySem.W.Frag) : L2.TS := (tSeq (tFor (iList K (tVar 0)) (gName 2)
  (tIfS (tB (tCall (lIn) [] E0 (tCons (tVar 2) (tCons (tVar 1) tNil)))) (tRet (tC (.bl true)))
  tNext))
  (tRet (tC (.bl false))))
/-- _law_disks; slots: _law_sketch_here=0 _law_disks_here=1 _law_mask_here=2 _law_longer=3 _law_disk=4 _law_value=5 -/
def t_l_disks (K : PySem.W.Frag) : L2.TS := (tSeq (tAsg (tLst (tCons (tTup tNil) tNil)) (gName 1))
  (tSeq (tFor (iTup K (tVar 0)) (gName 2)
  (tSeq (tAsg (tLst tNil) (gName 3))
  (tSeq (tFor (iList K (tVar 1)) (gName 4)
  (tFor (iRng1 (tCons (tC (nV 16)) tNil)) (gName 5)
  (tIfS (tTest (tOp rEqN (tOp rAndN (tOp rShrN (tVar 2) (tVar 5)) (tC (nV 1))) (tC (nV 1)))) (tDrop (tBM K "list" rAppend (tVar 3) (tCons (tOp (rCatA K) (tVar 4) (tTup (tCons (tVar 5) tNil))) tNil)))
  tNext)))
  (tAsg (tVar 3) (gName 1)))))
  (tRet (tVar 1))))
/-- _law_can; slots: _law_deeds=0 _law_disk=1 _law_deed_here=2 _law_cell_here=3 _law_mask_here=4 -/
def t_l_can (K : PySem.W.Frag) : L2.TS := (tSeq (tFor (iTup K (tOp (rIxT K) (tOp (rIxL K) (tVar 0) (tVar 2)) (tC (nV 1)))) (gTup K 2 (gCons (gName 3) (gCons (gName 4) gNil)))
  (tIfS (tTest (tOp rEqN (tOp rAndN (tOp rShrN (tVar 4) (tOp (rIxT K) (tVar 1) (tVar 3))) (tC (nV 1))) (tC (nV 0)))) (tRet (tC (.bl false)))
  tNext))
  (tRet (tC (.bl true))))
/-- _law_after; slots: _law_deeds=0 _law_disk=1 _law_deed_here=2 _law_values=3 _law_cell_here=4 _law_source=5 -/
def t_l_after (K : PySem.W.Frag) : L2.TS := (tSeq (tAsg (tCB (rList1 K) (tCons (tVar 1) tNil)) (gName 3))
  (tSeq (tFor (iTup K (tOp (rIxT K) (tOp (rIxL K) (tVar 0) (tVar 2)) (tC (nV 2)))) (gTup K 2 (gCons (gName 4) (gCons (gName 5) gNil)))
  (tAsg (tIf (tTest (tOp rEq (tOp (rIxT K) (tVar 5) (tC (nV 0))) (tC (.str "set")))) (tOp (rIxT K) (tVar 5) (tC (nV 1))) (tOp (rIxT K) (tVar 1) (tOp (rIxT K) (tVar 5) (tC (nV 1))))) (gSub (tVar 3) (tVar 4) rSetL)))
  (tRet (tCB (rTup1 K) (tCons (tVar 3) tNil)))))
/-- _law_steps; slots: _law_deeds=0 _law_first=1 _law_piece_here=2 _law_steps_here=3 _law_order=4 _law_disk=5 _law_k=6 _law_deed_here=7 _law_following=8 -/
def t_l_steps (K : PySem.W.Frag) : L2.TS := (tSeq (tAsg tDNewT (gName 3))
  (tSeq (tAsg (tLst tNil) (gName 4))
  (tSeq (tFor (iList K (tCall (lDisks) [] E0 (tCons (tVar 1) tNil))) (gName 5)
  (tIfS (tNot (tB (tCall (lHas) [] E0 (tCons (tVar 2) (tCons (tVar 5) tNil))))) (tSeq (sDPut (tVar 3) (tVar 5) (tC (nV 0)))
  (tDrop (tBM K "list" rAppend (tVar 4) (tCons (tVar 5) tNil))))
  tNext))
  (tSeq (tFor (iRng1 (tCons (tC (nV 5000)) tNil)) (gName 6)
  (tIfS (tTest (tOp rLtN (tVar 6) (tCB (rLenS K) (tCons (tVar 4) tNil)))) (tFor (iRng1 (tCons (tCB (rLenS K) (tCons (tVar 0) tNil)) tNil)) (gName 7)
  (tIfS (tB (tCall (lCan) [] E0 (tCons (tVar 0) (tCons (tOp (rIxL K) (tVar 4) (tVar 6)) (tCons (tVar 7) tNil))))) (tSeq (tAsg (tCall (lAfter) [] E0 (tCons (tVar 0) (tCons (tOp (rIxL K) (tVar 4) (tVar 6)) (tCons (tVar 7) tNil)))) (gName 8))
  (tIfS (tAnd (tB (tDNotIn (tVar 8) (tVar 3))) (tNot (tB (tCall (lHas) [] E0 (tCons (tVar 2) (tCons (tVar 8) tNil)))))) (tSeq (sDPut (tVar 3) (tVar 8) (tOp rAddN (tDGet (tVar 3) (tOp (rIxL K) (tVar 4) (tVar 6))) (tC (nV 1))))
  (tDrop (tBM K "list" rAppend (tVar 4) (tCons (tVar 8) tNil))))
  tNext))
  tNext))
  tNext))
  (tRet (tVar 3))))))
/-- _law_forward; slots: _law_deeds=0 _law_starts=1 _law_seen=2 _law_order=3 _law_disk=4 _law_k=5 _law_deed_here=6 _law_following=7 -/
def t_l_forward (K : PySem.W.Frag) : L2.TS := (tSeq (tAsg tDNewT (gName 2))
  (tSeq (tAsg (tLst tNil) (gName 3))
  (tSeq (tFor (iList K (tVar 1)) (gName 4)
  (tIfS (tB (tDNotIn (tVar 4) (tVar 2))) (tSeq (sDPut (tVar 2) (tVar 4) (tC (.bl true)))
  (tDrop (tBM K "list" rAppend (tVar 3) (tCons (tVar 4) tNil))))
  tNext))
  (tSeq (tFor (iRng1 (tCons (tC (nV 5000)) tNil)) (gName 5)
  (tIfS (tTest (tOp rLtN (tVar 5) (tCB (rLenS K) (tCons (tVar 3) tNil)))) (tFor (iRng1 (tCons (tCB (rLenS K) (tCons (tVar 0) tNil)) tNil)) (gName 6)
  (tIfS (tB (tCall (lCan) [] E0 (tCons (tVar 0) (tCons (tOp (rIxL K) (tVar 3) (tVar 5)) (tCons (tVar 6) tNil))))) (tSeq (tAsg (tCall (lAfter) [] E0 (tCons (tVar 0) (tCons (tOp (rIxL K) (tVar 3) (tVar 5)) (tCons (tVar 6) tNil)))) (gName 7))
  (tIfS (tB (tDNotIn (tVar 7) (tVar 2))) (tSeq (sDPut (tVar 2) (tVar 7) (tC (.bl true)))
  (tDrop (tBM K "list" rAppend (tVar 3) (tCons (tVar 7) tNil))))
  tNext))
  tNext))
  tNext))
  (tRet (tVar 2))))))
/-- _law_is_disordered; slots: _law_deeds=0 _law_first=1 _law_image=2 _law_early=3 _law_late_here=4 _law_steps_here=5 _law_starts=6 _law_disk=7 -/
def t_l_is_disordered (K : PySem.W.Frag) : L2.TS := (tSeq (tAsg (tCall (lSteps) [] E0 (tCons (tVar 0) (tCons (tVar 1) (tCons (tVar 3) tNil)))) (gName 5))
  (tSeq (tAsg (tLc (iKeys (tFrz (tVar 5))) (gName 7) (tB (tCall (lHas) [] E0 (tCons (tVar 4) (tCons (tVar 7) tNil)))) (tVar 7) [7]) (gName 6))
  (tSeq (tFor (iKeys (tFrz (tCall (lForward) [] E0 (tCons (tVar 0) (tCons (tVar 6) tNil))))) (gName 7)
  (tIfS (tB (tCall (lIn) [] E0 (tCons (tVar 2) (tCons (tVar 7) tNil)))) (tRet (tC (.bl true)))
  tNext))
  (tRet (tC (.bl false))))))
/-- _law_meet; slots: _law_a=0 _law_b=1 _law_both=2 _law_left=3 _law_right=4 -/
def t_l_meet (K : PySem.W.Frag) : L2.TS := (tSeq (tAsg (tCB (rTup1 K) (tCons (tLc (RZ.iZipA K (tCons (tVar 0) (tCons (tVar 1) tNil))) (gTup K 2 (gCons (gName 3) (gCons (gName 4) gNil))) tYes (tOp rAndN (tVar 3) (tVar 4)) [3, 4]) tNil)) (gName 2))
  (tRet (tIf (tTest (tOp (rIn K false) (tC (nV 0)) (tVar 2))) (tC .non) (tVar 2))))
/-- _law_split; slots: _law_a=0 _law_b=1 _law_both=2 _law_parts_here=3 _law_k=4 -/
def t_l_split (K : PySem.W.Frag) : L2.TS := (tSeq (tAsg (tCall (lMeet) [] E0 (tCons (tVar 0) (tCons (tVar 1) tNil))) (gName 2))
  (tSeq (tIfS (tB (tIsN (tVar 2))) (tRet (tLst (tCons (tVar 0) tNil)))
  tNext)
  (tSeq (tAsg (tLst tNil) (gName 3))
  (tSeq (tFor (iRng1 (tCons (tCB (rLenS K) (tCons (tVar 0) tNil)) tNil)) (gName 4)
  (tIfS (tTest (tOp rNeN (tOp (rIxT K) (tVar 0) (tVar 4)) (tOp (rIxT K) (tVar 2) (tVar 4)))) (tDrop (tBM K "list" rAppend (tVar 3) (tCons (tOp (rCatA K) (tOp (rCatA K) (tSl (rSlA K) (tVar 2) tNoPart (tPart (tVar 4))) (tTup (tCons (tOp rSubN (tOp (rIxT K) (tVar 0) (tVar 4)) (tOp (rIxT K) (tVar 2) (tVar 4))) tNil))) (tSl (rSlA K) (tVar 0) (tPart (tOp rAddN (tVar 4) (tC (nV 1)))) tNoPart)) tNil)))
  tNext))
  (tRet (tVar 3))))))
/-- _law_without; slots: _law_a=0 _law_piece_here=1 _law_parts_here=2 _law_sketch_here=3 _law_following=4 _law_part=5 -/
def t_l_without (K : PySem.W.Frag) : L2.TS := (tSeq (tAsg (tLst (tCons (tVar 0) tNil)) (gName 2))
  (tSeq (tFor (iList K (tVar 1)) (gName 3)
  (tSeq (tAsg (tLst tNil) (gName 4))
  (tSeq (tFor (iList K (tVar 2)) (gName 5)
  (tAsg (tOp rCat (tVar 4) (tCall (lSplit) [] E0 (tCons (tVar 5) (tCons (tVar 3) tNil)))) (gName 4)))
  (tAsg (tVar 4) (gName 2)))))
  (tRet (tVar 2))))
/-- _law_before; slots: _law_deeds=0 _law_sizes=1 _law_sketch_here=2 _law_deed_here=3 _law_name=4 _law_guard=5 _law_changes=6 _law_masks=7 _law_cell_here=8 _law_source=9 _law_mask_here=10 -/
def t_l_before (K : PySem.W.Frag) : L2.TS := (tSeq (tAsg (tOp (rIxL K) (tVar 0) (tVar 3)) (gTup K 3 (gCons (gName 4) (gCons (gName 5) (gCons (gName 6) gNil)))))
  (tSeq (tAsg (tCB (rList1 K) (tCons (tVar 2) tNil)) (gName 7))
  (tSeq (tFor (iTup K (tVar 6)) (gTup K 2 (gCons (gName 8) (gCons (gName 9) gNil)))
  (tAsg (tOp rSubN (tOp rShlN (tC (nV 1)) (tOp (rIxL K) (tVar 1) (tVar 8))) (tC (nV 1))) (gSub (tVar 7) (tVar 8) rSetL)))
  (tSeq (tFor (iTup K (tVar 6)) (gTup K 2 (gCons (gName 8) (gCons (gName 9) gNil)))
  (tIfS (tTest (tOp rEq (tOp (rIxT K) (tVar 9) (tC (nV 0))) (tC (.str "copy")))) (tAsg (tOp rAndN (tOp (rIxL K) (tVar 7) (tOp (rIxT K) (tVar 9) (tC (nV 1)))) (tOp (rIxT K) (tVar 2) (tVar 8))) (gSub (tVar 7) (tOp (rIxT K) (tVar 9) (tC (nV 1))) rSetL))
  (tIfS (tTest (tOp rEqN (tOp rAndN (tOp rShrN (tOp (rIxT K) (tVar 2) (tVar 8)) (tOp (rIxT K) (tVar 9) (tC (nV 1)))) (tC (nV 1))) (tC (nV 0)))) (tRet (tC .non))
  tNext)))
  (tSeq (tFor (iTup K (tVar 5)) (gTup K 2 (gCons (gName 8) (gCons (gName 10) gNil)))
  (tAsg (tOp rAndN (tOp (rIxL K) (tVar 7) (tVar 8)) (tVar 10)) (gSub (tVar 7) (tVar 8) rSetL)))
  (tRet (tIf (tTest (tOp (rIn K false) (tC (nV 0)) (tVar 7))) (tC .non) (tCB (rTup1 K) (tCons (tVar 7) tNil)))))))))
/-- _law_included; slots: _law_a=0 _law_b=1 _law_left=2 _law_right=3 -/
def t_l_included (K : PySem.W.Frag) : L2.TS := (tSeq (tFor (RZ.iZipA K (tCons (tVar 0) (tCons (tVar 1) tNil))) (gTup K 2 (gCons (gName 2) (gCons (gName 3) gNil)))
  (tIfS (tTest (tOp rNeN (tOp rAndN (tVar 2) (tVar 3)) (tVar 2))) (tRet (tC (.bl false)))
  tNext))
  (tRet (tC (.bl true))))
/-- _law_covers; slots: _law_sketches=0 _law_entry=1 _law_parts_here=2 _law_number=3 _law_part=4 -/
def t_l_covers (K : PySem.W.Frag) : L2.TS := (tSeq (tIfS (tOr (tNot (tB (tCB (rIsi1 K "tuple") (tCons (tVar 1) (tCons (tC (.ty "tuple")) tNil))))) (tTest (tOp rNeN (tCB (rLenS K) (tCons (tVar 1) tNil)) (tCB (rLenS K) (tCons (tVar 2) tNil))))) (tRet (tC (.bl false)))
  tNext)
  (tSeq (tFor (iZipM K (tCons (tVar 1) (tCons (tVar 2) tNil))) (gTup K 2 (gCons (gName 3) (gCons (gName 4) gNil)))
  (tIfS (tOr (tNot (tB (tCall (spIsInt) [] E0 (tCons (tVar 3) tNil)))) (tOr (tNot (tTest (tChain rLeN rLtN (tC (nV 0)) (tVar 3) (tCB (rLenS K) (tCons (tVar 0) tNil))))) (tNot (tB (tCall (lIncl) [] E0 (tCons (tVar 4) (tCons (tOp (rIxT K) (tVar 0) (tVar 3)) tNil))))))) (tRet (tC (.bl false)))
  tNext))
  (tRet (tC (.bl true)))))
/-- _law_are_sketches; slots: _law_sketches=0 _law_sizes=1 _law_sketch_here=2 _law_mask_here=3 _law_size=4 -/
def t_l_are_sketches (K : PySem.W.Frag) : L2.TS := (tSeq (tIfS (tNot (tB (tCB (rIsi1 K "tuple") (tCons (tVar 0) (tCons (tC (.ty "tuple")) tNil))))) (tRet (tC (.bl false)))
  tNext)
  (tSeq (tFor (iTup K (tVar 0)) (gName 2)
  (tSeq (tIfS (tOr (tNot (tB (tCB (rIsi1 K "tuple") (tCons (tVar 2) (tCons (tC (.ty "tuple")) tNil))))) (tTest (tOp rNeN (tCB (rLenS K) (tCons (tVar 2) tNil)) (tCB (rLenS K) (tCons (tVar 1) tNil))))) (tRet (tC (.bl false)))
  tNext)
  (tFor (iZipM K (tCons (tVar 2) (tCons (tVar 1) tNil))) (gTup K 2 (gCons (gName 3) (gCons (gName 4) gNil)))
  (tIfS (tOr (tNot (tB (tCall (spIsInt) [] E0 (tCons (tVar 3) tNil)))) (tOr (tTest (tOp rLtN (tVar 3) (tC (nV 1)))) (tTest (tOp rGeN (tVar 3) (tOp rShlN (tC (nV 1)) (tVar 4)))))) (tRet (tC (.bl false)))
  tNext))))
  (tRet (tC (.bl true)))))
/-- _law_is_closed; slots: _law_deeds=0 _law_sizes=1 _law_sketches=2 _law_table=3 _law_piece_here=4 _law_k=5 _law_deed_here=6 _law_place=7 _law_parts_here=8 -/
def t_l_is_closed (K : PySem.W.Frag) : L2.TS := (tSeq (tIfS (tOr (tNot (tB (tCB (rIsi1 K "tuple") (tCons (tVar 3) (tCons (tC (.ty "tuple")) tNil))))) (tTest (tOp rNeN (tCB (rLenS K) (tCons (tVar 3) tNil)) (tCB (rLenS K) (tCons (tVar 2) tNil))))) (tRet (tC (.bl false)))
  tNext)
  (tSeq (tFor (iRng1 (tCons (tCB (rLenS K) (tCons (tVar 2) tNil)) tNil)) (gName 5)
  (tSeq (tIfS (tOr (tNot (tB (tCB (rIsi1 K "tuple") (tCons (tOp (rIxT K) (tVar 3) (tVar 5)) (tCons (tC (.ty "tuple")) tNil))))) (tTest (tOp rNeN (tCB (rLenS K) (tCons (tOp (rIxT K) (tVar 3) (tVar 5)) tNil)) (tCB (rLenS K) (tCons (tVar 0) tNil))))) (tRet (tC (.bl false)))
  tNext)
  (tFor (iRng1 (tCons (tCB (rLenS K) (tCons (tVar 0) tNil)) tNil)) (gName 6)
  (tSeq (tAsg (tCall (lBefore) [] E0 (tCons (tVar 0) (tCons (tVar 1) (tCons (tOp (rIxT K) (tVar 2) (tVar 5)) (tCons (tVar 6) tNil))))) (gName 7))
  (tSeq (tAsg (tIf (tB (tIsN (tVar 7))) (tLst tNil) (tCall (lWithout) [] E0 (tCons (tVar 7) (tCons (tVar 4) tNil)))) (gName 8))
  (tIfS (tNot (tB (tCall (lCovers) [] E0 (tCons (tVar 2) (tCons (tOp (rIxT K) (tOp (rIxT K) (tVar 3) (tVar 5)) (tVar 6)) (tCons (tVar 8) tNil)))))) (tRet (tC (.bl false)))
  tNext))))))
  (tRet (tC (.bl true)))))
/-- _law_is_history; slots: _law_deeds=0 _law_first=1 _law_image=2 _law_piece_here=3 _law_disk=4 _law_numbers=5 _law_number=6 -/
def t_l_is_history (K : PySem.W.Frag) : L2.TS := (tSeq (tIfS (tOr (tNot (tB (tCB (rIsi1 K "tuple") (tCons (tVar 4) (tCons (tC (.ty "tuple")) tNil))))) (tOr (tNot (tB (tCB (rIsi1 K "tuple") (tCons (tVar 5) (tCons (tC (.ty "tuple")) tNil))))) (tOr (tNot (tB (tCall (lIn) [] E0 (tCons (tVar 1) (tCons (tVar 4) tNil))))) (tB (tCall (lHas) [] E0 (tCons (tVar 3) (tCons (tVar 4) tNil))))))) (tRet (tC (.bl false)))
  tNext)
  (tSeq (tFor (iTup K (tVar 5)) (gName 6)
  (tSeq (tIfS (tOr (tNot (tB (tCall (spIsInt) [] E0 (tCons (tVar 6) tNil)))) (tOr (tNot (tTest (tChain rLeN rLtN (tC (nV 0)) (tVar 6) (tCB (rLenS K) (tCons (tVar 0) tNil))))) (tNot (tB (tCall (lCan) [] E0 (tCons (tVar 0) (tCons (tVar 4) (tCons (tVar 6) tNil)))))))) (tRet (tC (.bl false)))
  tNext)
  (tSeq (tAsg (tCall (lAfter) [] E0 (tCons (tVar 0) (tCons (tVar 4) (tCons (tVar 6) tNil)))) (gName 4))
  (tIfS (tB (tCall (lHas) [] E0 (tCons (tVar 3) (tCons (tVar 4) tNil)))) (tRet (tC (.bl false)))
  tNext))))
  (tRet (tCall (lIn) [] E0 (tCons (tVar 2) (tCons (tVar 4) tNil))))))
/-- _law_late; slots: _law_sketch_here=0 _law_early=1 _law_late_here=2 _law_parts_here=3 _law_other=4 _law_both=5 -/
def t_l_late (K : PySem.W.Frag) : L2.TS := (tSeq (tAsg (tLst tNil) (gName 3))
  (tSeq (tFor (iList K (tVar 2)) (gName 4)
  (tSeq (tAsg (tCall (lMeet) [] E0 (tCons (tVar 0) (tCons (tVar 4) tNil))) (gName 5))
  (tIfS (tB (tNotN (tVar 5))) (tAsg (tOp rCat (tVar 3) (tCall (lWithout) [] E0 (tCons (tVar 5) (tCons (tVar 1) tNil)))) (gName 3))
  tNext)))
  (tRet (tVar 3))))
/-- _law_is_order; slots: _law_deeds=0 _law_sizes=1 _law_first=2 _law_image=3 _law_early=4 _law_late_here=5 _law_paper=6 _law_sketch_here=7 _law_k=8 -/
def t_l_is_order (K : PySem.W.Frag) : L2.TS := (tSeq (tIfS (tOr (tNot (tB (tCall (lAreSk) [] E0 (tCons (tFld K (tVar 6) "reach") (tCons (tVar 1) tNil))))) (tNot (tB (tCall (lAreSk) [] E0 (tCons (tFld K (tVar 6) "sketches") (tCons (tVar 1) tNil)))))) (tRet (tC (.bl false)))
  tNext)
  (tSeq (tFor (iTup K (tFld K (tVar 6) "sketches")) (gName 7)
  (tIfS (tB (tNotN (tCall (lMeet) [] E0 (tCons (tVar 7) (tCons (tVar 2) tNil))))) (tRet (tC (.bl false)))
  tNext))
  (tSeq (tIfS (tNot (tB (tCall (lCovers) [] E0 (tCons (tFld K (tVar 6) "reach") (tCons (tFld K (tVar 6) "cover") (tCons (tLst (tCons (tVar 3) tNil)) tNil)))))) (tRet (tC (.bl false)))
  tNext)
  (tSeq (tIfS (tNot (tB (tCall (lClosed) [] E0 (tCons (tVar 0) (tCons (tVar 1) (tCons (tFld K (tVar 6) "reach") (tCons (tFld K (tVar 6) "table") (tCons (tLst tNil) tNil)))))))) (tRet (tC (.bl false)))
  tNext)
  (tSeq (tIfS (tOr (tNot (tB (tCB (rIsi1 K "tuple") (tCons (tFld K (tVar 6) "links") (tCons (tC (.ty "tuple")) tNil))))) (tTest (tOp rNeN (tCB (rLenS K) (tCons (tFld K (tVar 6) "links") tNil)) (tCB (rLenS K) (tCons (tFld K (tVar 6) "reach") tNil))))) (tRet (tC (.bl false)))
  tNext)
  (tSeq (tFor (iRng1 (tCons (tCB (rLenS K) (tCons (tFld K (tVar 6) "reach") tNil)) tNil)) (gName 8)
  (tIfS (tNot (tB (tCall (lCovers) [] E0 (tCons (tFld K (tVar 6) "sketches") (tCons (tOp (rIxT K) (tFld K (tVar 6) "links") (tVar 8)) (tCons (tCall (lLate) [] E0 (tCons (tOp (rIxT K) (tFld K (tVar 6) "reach") (tVar 8)) (tCons (tVar 4) (tCons (tVar 5) tNil)))) tNil)))))) (tRet (tC (.bl false)))
  tNext))
  (tRet (tCall (lClosed) [] E0 (tCons (tVar 0) (tCons (tVar 1) (tCons (tFld K (tVar 6) "sketches") (tCons (tFld K (tVar 6) "steps") (tCons (tVar 4) tNil)))))))))))))
/-- law; slots: _law_script=0 _law_cells=1 _law_deeds=2 _law_first=3 _law_sizes=4 _law_machine=5 _law_image=6 _law_early=7 _law_late_here=8 _law_copies=9 _law_answer=10 _law_bad=11 _law_disk=12 _law_number=13 _law_name=14 _law_size=15 -/
def t_law (K : PySem.W.Frag) (c : Cs) : L2.TS := (tSeq (tAsg (tCall (lParts K) [] E0 (tCons (tVar 0) (tCons (tC (nV 4)) (tCons (tC (nV 7)) tNil)))) (gTup K 3 (gCons (gName 1) (gCons (gName 2) (gCons (gName 3) gNil)))))
  (tSeq (tAsg (tLc (iList K (tVar 1)) (gTup K 2 (gCons (gName 14) (gCons (gName 15) gNil))) tYes (tVar 15) [14, 15]) (gName 4))
  (tSeq (tAsg (tMake c.M (spMachine c) [] E0 (tCons (tVar 1) (tCons (tVar 2) (tCons (tVar 3) tNil)))) (gName 5))
  (tSeq (tAsg (tCall (lSketch) [] E0 (tCons (tCall (spCell K) [] E0 (tCons (tVar 0) (tCons (tC (nV 0)) tNil))) (tCons (tVar 4) tNil))) (gName 6))
  (tSeq (tAsg (tCall (lPiece) [] E0 (tCons (tCall (spCell K) [] E0 (tCons (tVar 0) (tCons (tC (nV 1)) tNil))) (tCons (tVar 4) tNil))) (gName 7))
  (tSeq (tAsg (tCall (lPiece) [] E0 (tCons (tCall (spCell K) [] E0 (tCons (tVar 0) (tCons (tC (nV 2)) tNil))) (tCons (tVar 4) tNil))) (gName 8))
  (tSeq (tIfS (tTest (tOp rEqN (tOp rModI (tCall (spCell K) [] E0 (tCons (tVar 0) (tCons (tC (nV 3)) tNil))) (tC (nV 6))) (tC (nV 1)))) (tAsg (tCB (rList1 K) (tCons (tVar 7) tNil)) (gName 8))
  tNext)
  (tSeq (tAsg (tTup (tCons (tCB (rList1 K) (tCons (tVar 7) tNil)) (tCons (tCB (rList1 K) (tCons (tVar 8) tNil)) tNil))) (gName 9))
  (tSeq (tAsg (tCall (spTell c) [] E0 (tCons (tVar 5) (tCons (tVar 6) (tCons (tOp (rIxT K) (tVar 9) (tC (nV 0))) (tCons (tOp (rIxT K) (tVar 9) (tC (nV 1))) tNil))))) (gName 10))
  (tSeq (tAsg (tCall (lDis) [] E0 (tCons (tVar 2) (tCons (tVar 3) (tCons (tVar 6) (tCons (tVar 7) (tCons (tVar 8) tNil)))))) (gName 11))
  (tSeq (tIfS (tOr (tTest (tOp (rNeD K) (tVar 9) (tTup (tCons (tVar 7) (tCons (tVar 8) tNil))))) (tOr (tNot (tB (tCB (rIsi1 K "bool") (tCons (tFld K (tVar 10) "told") (tCons (tC (.ty "bool")) tNil))))) (tTest (tOp rEq (tFld K (tVar 10) "told") (tVar 11))))) (tRet (tC (.bl false)))
  tNext)
  (tSeq (tIfS (tB (tFld K (tVar 10) "told")) (tSeq (tIfS (tTest (tOp (rNeD K) (tTup (tCons (tFld K (tVar 10) "disk") (tCons (tFld K (tVar 10) "deeds") (tCons (tFld K (tVar 10) "moment") tNil)))) (tTup (tCons (tC .non) (tCons (tC .non) (tCons (tC .non) tNil)))))) (tRet (tC (.bl false)))
  tNext)
  (tRet (tCall (lOrder c) [] E0 (tCons (tVar 2) (tCons (tVar 4) (tCons (tVar 3) (tCons (tVar 6) (tCons (tVar 7) (tCons (tVar 8) (tCons (tFld K (tVar 10) "paper") tNil))))))))))
  tNext)
  (tSeq (tIfS (tOr (tB (tNotN (tFld K (tVar 10) "paper"))) (tOr (tNot (tB (tCB (rIsi1 K "tuple") (tCons (tFld K (tVar 10) "deeds") (tCons (tC (.ty "tuple")) tNil))))) (tNot (tB (tCall (spIsInt) [] E0 (tCons (tFld K (tVar 10) "moment") tNil)))))) (tRet (tC (.bl false)))
  tNext)
  (tSeq (tIfS (tNot (tTest (tChain rLeN rLeN (tC (nV 0)) (tFld K (tVar 10) "moment") (tCB (rLenS K) (tCons (tFld K (tVar 10) "deeds") tNil))))) (tRet (tC (.bl false)))
  tNext)
  (tSeq (tIfS (tNot (tB (tCall (lHistory) [] E0 (tCons (tVar 2) (tCons (tVar 3) (tCons (tVar 6) (tCons (tLst tNil) (tCons (tFld K (tVar 10) "disk") (tCons (tFld K (tVar 10) "deeds") tNil))))))))) (tRet (tC (.bl false)))
  tNext)
  (tSeq (tAsg (tFld K (tVar 10) "disk") (gName 12))
  (tSeq (tFor (iTup K (tSl (rSlA K) (tFld K (tVar 10) "deeds") tNoPart (tPart (tFld K (tVar 10) "moment")))) (gName 13)
  (tSeq (tIfS (tB (tCall (lHas) [] E0 (tCons (tVar 7) (tCons (tVar 12) tNil)))) (tRet (tC (.bl false)))
  tNext)
  (tAsg (tCall (lAfter) [] E0 (tCons (tVar 2) (tCons (tVar 12) (tCons (tVar 13) tNil)))) (gName 12))))
  (tRet (tAndV (tNotV (tCall (lHas) [] E0 (tCons (tVar 7) (tCons (tVar 12) tNil)))) (tCall (lHas) [] E0 (tCons (tVar 8) (tCons (tVar 12) tNil))))))))))))))))))))))
end
end RwW
/-! each def's derivation (printed by gen.py) -/
namespace RwW
open PySem L2 RwR

def top (i : Nat) : Stmt := PySem.Challenge.pw_raisedwreck_k12_whole_order.main.body.getD i (.Pass ⟨0, 0, 0, 0⟩)
section
variable {P : Program} {w : World} {K : PySem.W.Frag} {mg : Str → Option Value} {base : Heap} {c : Cs} {f : Addr} {fd : FuncData}
abbrev s_is_name : Stmt := top 12
theorem sc_is_name : FnScope ["text", "char"] ["text"] (defScope s_is_name) := ⟨rfl, rfl, rfl, by decide +kernel, rfl, by decide +kernel, by decide +kernel⟩
theorem ok_is_name (T : Gs K mg) (F : FunD K "is_name" "is_name" (defArgs s_is_name) (defBody s_is_name) (defScope s_is_name) [] [] f fd)
    (R : ∀ (vs : List V) (H : Hp) (Q : VK) (E : XK), (spIsName) vs H Q E → t_is_name K { nx := fun _ H1 => Q .non H1, rt := Q } (start ["text", "char"] vs) H) : FnOk P w K mg base CX0 1 f fd ["text"] (spIsName) := by
  refine F.ok sc_is_name (fun vs H Q E h => ?_) (fun cdv A outer s H vs Q E hr h => ⟨t_is_name K, PSs.nox ?_, R vs H Q E h⟩)
  · obtain ⟨_, rfl, _⟩ := h
    rfl
  · have sc := sc_is_name
    exact (pss_cons (ps_if (PW.pt (pw_or (pt_cmpR opn_eq (pe_callB cl_lenT rfl T.b_len PySem.boot_len (pa_cons (pv 0) pa_nil)) (pe_nat 0) (nomark _)) (pw_or (pt_cmpR opn_gt (pe_callB cl_lenT rfl T.b_len PySem.boot_len (pa_cons (pv 0) pa_nil)) (pe_gnat T.LONGEST_NAME rfl) (nomark _)) (pw_or1 (pt_cmpR op_notInS1 (pe_ix ix_str (pv 0) (pe_nat 0) (fun _ _ => rfl)) (pe_gstr T.LOWER rfl) (by rfl)))))) (pss_one (ps_ret pe_bl))
      pss_nil)
      (pss_one (ps_ret (pe_callB (cr_all rfl) rfl T.b_all PyProof.Rows.boot_all (pa_cons (pe_lc (own := [("char", 1)]) rfl sc.nd (pi_str (pv 0)) (blkOk_by (N := ["text", "char"]) (sc := defScope s_is_name) (by decide +kernel)) (fun _ _ _ _ _ => (pg_name (i := 1) sc.nd rfl (Or.inl rfl))) (fun _ _ _ _ _ => pts_nil) (fun _ _ _ _ _ => (pe_or (pe_cmpR op_inS1 (pv 1) (pe_gstr T.LOWER rfl) (by rfl)) (pe_one (pe_cmpR op_inS1 (pv 1) (pe_gstr T.DIGITS rfl) (by rfl)))))) pa_nil)))))
abbrev s_check_names : Stmt := top 13
theorem sc_check_names : FnScope ["names", "name"] ["names"] (defScope s_check_names) := ⟨rfl, rfl, rfl, by decide +kernel, rfl, by decide +kernel, by decide +kernel⟩
theorem ok_check_names (T : Gs K mg) (F : FunD K "_check_names" "_check_names" (defArgs s_check_names) (defBody s_check_names) (defScope s_check_names) [] [] f fd) (G_is_name : GD P w K mg base "is_name" 1 ["text"] (spIsName))
    (R : ∀ (vs : List V) (H : Hp) (Q : VK) (E : XK), (spCheckNames K) vs H Q E → t_check_names K { nx := fun _ H1 => Q .non H1, rt := Q } (start ["names", "name"] vs) H) : FnOk P w K mg base CX0 2 f fd ["names"] (spCheckNames K) := by
  refine F.ok sc_check_names (fun vs H Q E h => ?_) (fun cdv A outer s H vs Q E hr h => ⟨t_check_names K, PSs.nox ?_, R vs H Q E h⟩)
  · obtain ⟨_, _, rfl, _⟩ := h
    rfl
  · have sc := sc_check_names
    exact (pss_one (ps_if (PW.pt (pw_or (pt_not (pt_val (pe_callB (cr_all rfl) rfl T.b_all PyProof.Rows.boot_all (pa_cons (pe_lc (own := [("name", 1)]) rfl sc.nd (pi_list (pv 0)) (blkOk_by (N := ["names", "name"]) (sc := defScope s_check_names) (by decide +kernel)) (fun _ _ _ _ _ => (pg_name (i := 1) sc.nd rfl (Or.inl rfl))) (fun _ _ _ _ _ => pts_nil) (fun _ _ _ _ _ => (pe_cl G_is_name (hr.mono (by decide)) rfl (pa_cons (pv 1) pa_nil)))) pa_nil)))) (pw_or1 (pt_cmpR opn_ne (pe_lenSetS rfl T.b_len rfl T.b_set (pv 0)) (pe_callB cl_lenS rfl T.b_len PySem.boot_len (pa_cons (pv 0) pa_nil)) (nomark _))))) pss_never
      pss_nil))
abbrev s_is_mask : Stmt := top 14
theorem sc_is_mask : FnScope ["mask", "size"] ["mask", "size"] (defScope s_is_mask) := ⟨rfl, rfl, rfl, by decide +kernel, rfl, by decide +kernel, by decide +kernel⟩
theorem ok_is_mask (T : Gs K mg) (F : FunD K "is_mask" "is_mask" (defArgs s_is_mask) (defBody s_is_mask) (defScope s_is_mask) [] [] f fd)
    (R : ∀ (vs : List V) (H : Hp) (Q : VK) (E : XK), (spIsMask) vs H Q E → t_is_mask K { nx := fun _ H1 => Q .non H1, rt := Q } (start ["mask", "size"] vs) H) : FnOk P w K mg base CX0 1 f fd ["mask", "size"] (spIsMask) := by
  refine F.ok sc_is_mask (fun vs H Q E h => ?_) (fun cdv A outer s H vs Q E hr h => ⟨t_is_mask K, PSs.nox ?_, R vs H Q E h⟩)
  · obtain ⟨_, _, rfl, _⟩ := h
    rfl
  · have sc := sc_is_mask
    exact (pss_one (ps_ret (pe_chain opn_lt opn_lt (pe_nat 0) (pv 0) (pe_op opn_shl (pe_nat 1) (pv 1)))))
abbrev s_check_order : Stmt := top 15
theorem sc_check_order : FnScope ["pairs", "count", "before", "cell", "_"] ["pairs", "count"] (defScope s_check_order) := ⟨rfl, rfl, rfl, by decide +kernel, rfl, by decide +kernel, by decide +kernel⟩
theorem ok_check_order (T : Gs K mg) (F : FunD K "_check_order" "_check_order" (defArgs s_check_order) (defBody s_check_order) (defScope s_check_order) [] [] f fd)
    (R : ∀ (vs : List V) (H : Hp) (Q : VK) (E : XK), (spCheckOrder) vs H Q E → t_check_order K { nx := fun _ H1 => Q .non H1, rt := Q } (start ["pairs", "count", "before", "cell", "_"] vs) H) : FnOk P w K mg base CX0 1 f fd ["pairs", "count"] (spCheckOrder) := by
  refine F.ok sc_check_order (fun vs H Q E h => ?_) (fun cdv A outer s H vs Q E hr h => ⟨t_check_order K, PSs.nox ?_, R vs H Q E h⟩)
  · obtain ⟨_, _, _, rfl, _⟩ := h
    rfl
  · have sc := sc_check_order
    exact (pss_cons (ps_set (i := 2) sc.nd rfl (Or.inl rfl) (pe_un un_neg pe_int))
      (pss_one (ps_for PassesOwn.never rfl (pi_tup (pv 0)) (pg_tup rfl (pgs_cons (pg_name (i := 3) sc.nd rfl (Or.inl rfl)) (pgs_cons (pg_name (i := 4) sc.nd rfl (Or.inl rfl)) pgs_nil)))
      (pss_cons (ps_if (PW.pt (pw_or (pt_cmpR op_le (pv 3) (pv 2) (nomark _)) (pw_or1 (pt_cmpR opn_ge (pv 3) (pv 1) (nomark _))))) pss_never
      pss_nil)
      (pss_one (ps_set (i := 2) sc.nd rfl (Or.inl rfl) (pv 3)))))))
abbrev s_Machine__check_deed : Stmt := inClass (top 16) 1
theorem sc_Machine__check_deed : FnScope ["self", "sizes", "guard", "changes", "cell", "mask", "kind", "number"] ["self", "sizes", "guard", "changes"] (defScope s_Machine__check_deed) := ⟨rfl, rfl, rfl, by decide +kernel, rfl, by decide +kernel, by decide +kernel⟩
theorem ok_Machine__check_deed (T : Gs K mg) (F : FunD K "_check_deed" "Machine._check_deed" (defArgs s_Machine__check_deed) (defBody s_Machine__check_deed) (defScope s_Machine__check_deed) [] [] f fd) (G_is_mask : GD P w K mg base "is_mask" 1 ["mask", "size"] (spIsMask))
    (R : ∀ (vs : List V) (H : Hp) (Q : VK) (E : XK), (spCheckDeed) vs H Q E → t_Machine__check_deed K { nx := fun _ H1 => Q .non H1, rt := Q } (start ["self", "sizes", "guard", "changes", "cell", "mask", "kind", "number"] vs) H) : FnOk P w K mg base CX0 2 f fd ["self", "sizes", "guard", "changes"] (spCheckDeed) := by
  refine F.ok sc_Machine__check_deed (fun vs H Q E h => ?_) (fun cdv A outer s H vs Q E hr h => ⟨t_Machine__check_deed K, PSs.nox ?_, R vs H Q E h⟩)
  · obtain ⟨_, _, _, _, _, _, rfl, _⟩ := h
    rfl
  · have sc := sc_Machine__check_deed
    exact (pss_cons (ps_for PassesOwn.never rfl (pi_tup (pv 2)) (pg_tup rfl (pgs_cons (pg_name (i := 4) sc.nd rfl (Or.inl rfl)) (pgs_cons (pg_name (i := 5) sc.nd rfl (Or.inl rfl)) pgs_nil)))
      (pss_one (ps_if (pt_not (pt_val (pe_cl G_is_mask (hr.mono (by decide)) rfl (pa_cons (pv 5) (pa_cons (pe_ix ix_list (pv 1) (pv 4) (fun _ _ => rfl)) pa_nil))))) pss_never
      pss_nil)))
      (pss_one (ps_for PassesOwn.never rfl (pi_tup (pv 3)) (pg_tup rfl (pgs_cons (pg_name (i := 4) sc.nd rfl (Or.inl rfl)) (pgs_cons (pg_tup rfl (pgs_cons (pg_name (i := 6) sc.nd rfl (Or.inl rfl)) (pgs_cons (pg_name (i := 7) sc.nd rfl (Or.inl rfl)) pgs_nil))) pgs_nil)))
      (pss_cons (ps_if (PW.pt (pw_and (pt_cmpR op_eq (pv 6) pe_str (nomark _)) (pw_and1 (pt_chain opn_le opn_lt (pe_nat 0) (pv 7) (pe_ix ix_list (pv 1) (pv 4) (fun _ _ => rfl)))))) (pss_one ps_continue)
      pss_nil)
      (pss_one (ps_if (PW.pt (pw_or (pt_cmpR op_ne (pv 6) pe_str (nomark _)) (pw_or (pt_cmpR opn_lt (pv 7) (pe_nat 0) (nomark _)) (pw_or (pt_cmpR opn_ge (pv 7) (pe_callB cl_lenS rfl T.b_len PySem.boot_len (pa_cons (pv 1) pa_nil)) (nomark _)) (pw_or1 (pt_cmpR opn_gt (pe_ix ix_list (pv 1) (pv 7) (fun _ _ => rfl)) (pe_ix ix_list (pv 1) (pv 4) (fun _ _ => rfl)) (nomark _))))))) pss_never
      pss_nil))))))
abbrev s_Machine_init : Stmt := inClass (top 16) 0
theorem sc_Machine_init : FnScope ["self", "cells", "deeds", "first", "sizes", "_", "guard", "changes", "size", "name", "deed", "mask"] ["self", "cells", "deeds", "first"] (defScope s_Machine_init) := ⟨rfl, rfl, rfl, by decide +kernel, rfl, by decide +kernel, by decide +kernel⟩
theorem ok_Machine_init (T : Gs K mg) (F : FunD K "__init__" "Machine.__init__" (defArgs s_Machine_init) (defBody s_Machine_init) (defScope s_Machine_init) [] [] f fd) (G_check_names : GD P w K mg base "_check_names" 2 ["names"] (spCheckNames K)) (G_check_order : GD P w K mg base "_check_order" 1 ["pairs", "count"] (spCheckOrder)) (G_is_mask : GD P w K mg base "is_mask" 1 ["mask", "size"] (spIsMask)) (G_Machine__check_deed : GM P w K mg base c.M "_check_deed" 2 ["self", "sizes", "guard", "changes"] (spCheckDeed))
    (R : ∀ (vs : List V) (H : Hp) (Q : VK) (E : XK), (spMachine c) vs H Q E → t_Machine_init K c { nx := fun _ H1 => Q .non H1, rt := Q } (start ["self", "cells", "deeds", "first", "sizes", "_", "guard", "changes", "size", "name", "deed", "mask"] vs) H) : FnOk P w K mg base CX0 3 f fd ["self", "cells", "deeds", "first"] (spMachine c) := by
  refine F.ok sc_Machine_init (fun vs H Q E h => ?_) (fun cdv A outer s H vs Q E hr h => ⟨t_Machine_init K c, PSs.nox ?_, R vs H Q E h⟩)
  · obtain ⟨_, _, _, _, _, _, _, rfl, _⟩ := h
    rfl
  · have sc := sc_Machine_init
    exact (pss_cons (ps_if (PW.pt (pw_or (pt_cmpR opn_lt (pe_callB cl_lenS rfl T.b_len PySem.boot_len (pa_cons (pv 1) pa_nil)) (pe_nat 1) (nomark _)) (pw_or (pt_cmpR opn_gt (pe_callB cl_lenS rfl T.b_len PySem.boot_len (pa_cons (pv 1) pa_nil)) (pe_gnat T.MOST_CELLS rfl) (nomark _)) (pw_or1 (pt_cmpR opn_gt (pe_callB cl_lenS rfl T.b_len PySem.boot_len (pa_cons (pv 2) pa_nil)) (pe_gnat T.MOST_DEEDS rfl) (nomark _)))))) pss_never
      pss_nil)
      (pss_cons (ps_expr (pe_cl G_check_names (hr.mono (by decide)) rfl (pa_cons (pe_lc (own := [("name", 9), ("_", 5)]) rfl sc.nd (pi_list (pv 1)) (blkOk_by (N := ["self", "cells", "deeds", "first", "sizes", "_", "guard", "changes", "size", "name", "deed", "mask"]) (sc := defScope s_Machine_init) (by decide +kernel)) (fun _ _ _ _ _ => (pg_tup rfl (pgs_cons (pg_name (i := 9) sc.nd rfl (Or.inl rfl)) (pgs_cons (pg_name (i := 5) sc.nd rfl (Or.inl rfl)) pgs_nil)))) (fun _ _ _ _ _ => pts_nil) (fun _ _ _ _ _ => (pv 9))) pa_nil)))
      (pss_cons (ps_setLc (i := 4) (own := [("_", 5), ("size", 8)]) rfl sc.nd rfl rfl (sw_true rfl rfl rfl (by decide +kernel)) (pi_list (pv 1)) (blkOk_by (N := ["self", "cells", "deeds", "first", "sizes", "_", "guard", "changes", "size", "name", "deed", "mask"]) (sc := defScope s_Machine_init) (by decide +kernel)) (fun _ _ _ _ _ => (pg_tup rfl (pgs_cons (pg_name (i := 5) sc.nd rfl (Or.inl rfl)) (pgs_cons (pg_name (i := 8) sc.nd rfl (Or.inl rfl)) pgs_nil)))) (fun _ _ _ _ _ => pts_nil) (fun _ _ _ _ _ => (pv 8)))
      (pss_cons (ps_if (pt_not (pt_val (pe_callB (cr_all rfl) rfl T.b_all PyProof.Rows.boot_all (pa_cons (pe_lc (own := [("size", 8)]) rfl sc.nd (pi_list (pv 4)) (blkOk_by (N := ["self", "cells", "deeds", "first", "sizes", "_", "guard", "changes", "size", "name", "deed", "mask"]) (sc := defScope s_Machine_init) (by decide +kernel)) (fun _ _ _ _ _ => (pg_name (i := 8) sc.nd rfl (Or.inl rfl))) (fun _ _ _ _ _ => pts_nil) (fun _ _ _ _ _ => (pe_chain opn_le opn_le (pe_nat 1) (pv 8) (pe_gnat T.MOST_VALUES rfl)))) pa_nil)))) pss_never
      pss_nil)
      (pss_cons (ps_expr (pe_cl G_check_names (hr.mono (by decide)) rfl (pa_cons (pe_lc (own := [("deed", 10)]) rfl sc.nd (pi_list (pv 2)) (blkOk_by (N := ["self", "cells", "deeds", "first", "sizes", "_", "guard", "changes", "size", "name", "deed", "mask"]) (sc := defScope s_Machine_init) (by decide +kernel)) (fun _ _ _ _ _ => (pg_name (i := 10) sc.nd rfl (Or.inl rfl))) (fun _ _ _ _ _ => pts_nil) (fun _ _ _ _ _ => (pe_ix ix_tup (pv 10) (pe_nat 0) (fun _ _ => rfl)))) pa_nil)))
      (pss_cons (ps_for PassesOwn.never rfl (pi_list (pv 2)) (pg_tup rfl (pgs_cons (pg_name (i := 5) sc.nd rfl (Or.inl rfl)) (pgs_cons (pg_name (i := 6) sc.nd rfl (Or.inl rfl)) (pgs_cons (pg_name (i := 7) sc.nd rfl (Or.inl rfl)) pgs_nil))))
      (pss_cons (ps_expr (pe_cl G_check_order (hr.mono (by decide)) rfl (pa_cons (pv 6) (pa_cons (pe_callB cl_lenS rfl T.b_len PySem.boot_len (pa_cons (pv 1) pa_nil)) pa_nil))))
      (pss_cons (ps_expr (pe_cl G_check_order (hr.mono (by decide)) rfl (pa_cons (pv 7) (pa_cons (pe_callB cl_lenS rfl T.b_len PySem.boot_len (pa_cons (pv 1) pa_nil)) pa_nil))))
      (pss_one (ps_expr (pe_mt (pv 0) G_Machine__check_deed (hr.mono (by decide)) (pa_cons (pv 4) (pa_cons (pv 6) (pa_cons (pv 7) pa_nil)))))))))
      (pss_cons (ps_if (PW.pt (pw_or (pt_cmpR opn_ne (pe_callB cl_lenS rfl T.b_len PySem.boot_len (pa_cons (pv 3) pa_nil)) (pe_callB cl_lenS rfl T.b_len PySem.boot_len (pa_cons (pv 1) pa_nil)) (nomark _)) (pw_or1 (pt_not (pt_val (pe_callB (cr_all rfl) rfl T.b_all PyProof.Rows.boot_all (pa_cons (pe_lc (own := [("mask", 11), ("size", 8)]) rfl sc.nd (pi_zipM rfl T.b_zip (pa_cons (pv 3) (pa_cons (pv 4) pa_nil))) (blkOk_by (N := ["self", "cells", "deeds", "first", "sizes", "_", "guard", "changes", "size", "name", "deed", "mask"]) (sc := defScope s_Machine_init) (by decide +kernel)) (fun _ _ _ _ _ => (pg_tup rfl (pgs_cons (pg_name (i := 11) sc.nd rfl (Or.inl rfl)) (pgs_cons (pg_name (i := 8) sc.nd rfl (Or.inl rfl)) pgs_nil)))) (fun _ _ _ _ _ => pts_nil) (fun _ _ _ _ _ => (pe_cl G_is_mask (hr.mono (by decide)) rfl (pa_cons (pv 11) (pa_cons (pv 8) pa_nil))))) pa_nil))))))) pss_never
      pss_nil)
      (pss_cons (ps_fld (pv 0) (pe_callTy cl_tup rfl T.b_tuple PyProof.Rows.boot_tuple (pa_cons (pe_lc (own := [("name", 9), ("size", 8)]) rfl sc.nd (pi_list (pv 1)) (blkOk_by (N := ["self", "cells", "deeds", "first", "sizes", "_", "guard", "changes", "size", "name", "deed", "mask"]) (sc := defScope s_Machine_init) (by decide +kernel)) (fun _ _ _ _ _ => (pg_tup rfl (pgs_cons (pg_name (i := 9) sc.nd rfl (Or.inl rfl)) (pgs_cons (pg_name (i := 8) sc.nd rfl (Or.inl rfl)) pgs_nil)))) (fun _ _ _ _ _ => pts_nil) (fun _ _ _ _ _ => (pe_tup (pa_cons (pv 9) (pa_cons (pv 8) pa_nil))))) pa_nil)) rfl)
      (pss_cons (ps_fld (pv 0) (pe_callTy cl_tup rfl T.b_tuple PyProof.Rows.boot_tuple (pa_cons (pe_lc (own := [("name", 9), ("guard", 6), ("changes", 7)]) rfl sc.nd (pi_list (pv 2)) (blkOk_by (N := ["self", "cells", "deeds", "first", "sizes", "_", "guard", "changes", "size", "name", "deed", "mask"]) (sc := defScope s_Machine_init) (by decide +kernel)) (fun _ _ _ _ _ => (pg_tup rfl (pgs_cons (pg_name (i := 9) sc.nd rfl (Or.inl rfl)) (pgs_cons (pg_name (i := 6) sc.nd rfl (Or.inl rfl)) (pgs_cons (pg_name (i := 7) sc.nd rfl (Or.inl rfl)) pgs_nil))))) (fun _ _ _ _ _ => pts_nil) (fun _ _ _ _ _ => (pe_tup (pa_cons (pv 9) (pa_cons (pe_callTy cl_tup rfl T.b_tuple PyProof.Rows.boot_tuple (pa_cons (pv 6) pa_nil)) (pa_cons (pe_callTy cl_tup rfl T.b_tuple PyProof.Rows.boot_tuple (pa_cons (pv 7) pa_nil)) pa_nil)))))) pa_nil)) rfl)
      (pss_one (ps_fld (pv 0) (pe_callTy cl_tup rfl T.b_tuple PyProof.Rows.boot_tuple (pa_cons (pv 3) pa_nil)) rfl)))))))))))
abbrev s_Machine_full : Stmt := inClass (top 16) 2
theorem sc_Machine_full : FnScope ["self", "_", "size"] ["self"] (defScope s_Machine_full) := ⟨rfl, rfl, rfl, by decide +kernel, rfl, by decide +kernel, by decide +kernel⟩
theorem ok_Machine_full (T : Gs K mg) (F : FunD K "full" "Machine.full" (defArgs s_Machine_full) (defBody s_Machine_full) (defScope s_Machine_full) [] [] f fd)
    (R : ∀ (vs : List V) (H : Hp) (Q : VK) (E : XK), (spFull c) vs H Q E → t_Machine_full K { nx := fun _ H1 => Q .non H1, rt := Q } (start ["self", "_", "size"] vs) H) : FnOk P w K mg base CX0 1 f fd ["self"] (spFull c) := by
  refine F.ok sc_Machine_full (fun vs H Q E h => ?_) (fun cdv A outer s H vs Q E hr h => ⟨t_Machine_full K, PSs.nox ?_, R vs H Q E h⟩)
  · obtain ⟨_, _, rfl, _⟩ := h
    rfl
  · have sc := sc_Machine_full
    exact (pss_one (ps_ret (pe_callTy cl_tup rfl T.b_tuple PyProof.Rows.boot_tuple (pa_cons (pe_lc (own := [("_", 1), ("size", 2)]) rfl sc.nd (pi_tup (pe_fld (pv 0) rfl)) (blkOk_by (N := ["self", "_", "size"]) (sc := defScope s_Machine_full) (by decide +kernel)) (fun _ _ _ _ _ => (pg_tup rfl (pgs_cons (pg_name (i := 1) sc.nd rfl (Or.inl rfl)) (pgs_cons (pg_name (i := 2) sc.nd rfl (Or.inl rfl)) pgs_nil)))) (fun _ _ _ _ _ => pts_nil) (fun _ _ _ _ _ => (pe_op opn_sub (pe_op opn_shl (pe_nat 1) (pv 2)) (pe_nat 1)))) pa_nil))))
abbrev s_check_sketch : Stmt := top 17
theorem sc_check_sketch : FnScope ["machine", "sketch", "mask", "_", "size"] ["machine", "sketch"] (defScope s_check_sketch) := ⟨rfl, rfl, rfl, by decide +kernel, rfl, by decide +kernel, by decide +kernel⟩
theorem ok_check_sketch (T : Gs K mg) (F : FunD K "check_sketch" "check_sketch" (defArgs s_check_sketch) (defBody s_check_sketch) (defScope s_check_sketch) [] [] f fd) (G_is_mask : GD P w K mg base "is_mask" 1 ["mask", "size"] (spIsMask))
    (R : ∀ (vs : List V) (H : Hp) (Q : VK) (E : XK), (spCheckSketch c) vs H Q E → t_check_sketch K { nx := fun _ H1 => Q .non H1, rt := Q } (start ["machine", "sketch", "mask", "_", "size"] vs) H) : FnOk P w K mg base CX0 2 f fd ["machine", "sketch"] (spCheckSketch c) := by
  refine F.ok sc_check_sketch (fun vs H Q E h => ?_) (fun cdv A outer s H vs Q E hr h => ⟨t_check_sketch K, PSs.nox ?_, R vs H Q E h⟩)
  · obtain ⟨_, _, _, _, rfl, _⟩ := h
    rfl
  · have sc := sc_check_sketch
    exact (pss_cons (ps_if (pt_cmpR opn_ne (pe_callB cl_lenS rfl T.b_len PySem.boot_len (pa_cons (pv 1) pa_nil)) (pe_callB cl_lenS rfl T.b_len PySem.boot_len (pa_cons (pe_fld (pv 0) rfl) pa_nil)) (nomark _)) pss_never
      pss_nil)
      (pss_one (ps_for PassesOwn.never rfl (RZ.pi_zipA rfl T.b_zip (pa_cons (pv 1) (pa_cons (pe_fld (pv 0) rfl) pa_nil))) (pg_tup rfl (pgs_cons (pg_name (i := 2) sc.nd rfl (Or.inl rfl)) (pgs_cons (pg_tup rfl (pgs_cons (pg_name (i := 3) sc.nd rfl (Or.inl rfl)) (pgs_cons (pg_name (i := 4) sc.nd rfl (Or.inl rfl)) pgs_nil))) pgs_nil)))
      (pss_one (ps_if (pt_not (pt_val (pe_cl G_is_mask (hr.mono (by decide)) rfl (pa_cons (pv 2) (pa_cons (pv 4) pa_nil))))) pss_never
      pss_nil)))))
abbrev s_sketch_before : Stmt := top 19
theorem sc_sketch_before : FnScope ["machine", "sketch", "deed", "_", "guard", "changes", "masks", "full", "cell", "kind", "number", "mask"] ["machine", "sketch", "deed"] (defScope s_sketch_before) := ⟨rfl, rfl, rfl, by decide +kernel, rfl, by decide +kernel, by decide +kernel⟩
theorem ok_sketch_before (T : Gs K mg) (F : FunD K "sketch_before" "sketch_before" (defArgs s_sketch_before) (defBody s_sketch_before) (defScope s_sketch_before) [] [] f fd) (G_Machine_full : GP P w K mg base c.M "full" 1 ["self"] (spFull c))
    (R : ∀ (vs : List V) (H : Hp) (Q : VK) (E : XK), (spBefore c) vs H Q E → t_sketch_before K c { nx := fun _ H1 => Q .non H1, rt := Q } (start ["machine", "sketch", "deed", "_", "guard", "changes", "masks", "full", "cell", "kind", "number", "mask"] vs) H) : FnOk P w K mg base CX0 3 f fd ["machine", "sketch", "deed"] (spBefore c) := by
  refine F.ok sc_sketch_before (fun vs H Q E h => ?_) (fun cdv A outer s H vs Q E hr h => ⟨t_sketch_before K c, PSs.nox ?_, R vs H Q E h⟩)
  · obtain ⟨_, _, _, _, _, _, rfl, _⟩ := h
    rfl
  · have sc := sc_sketch_before
    exact (pss_cons (ps_asg (pe_ix ix_tup (pe_fld (pv 0) rfl) (pv 2) (fun _ _ => rfl)) (pg_tup rfl (pgs_cons (pg_name (i := 3) sc.nd rfl (Or.inl rfl)) (pgs_cons (pg_name (i := 4) sc.nd rfl (Or.inl rfl)) (pgs_cons (pg_name (i := 5) sc.nd rfl (Or.inl rfl)) pgs_nil)))))
      (pss_cons (ps_set (i := 6) sc.nd rfl (Or.inl rfl) (pe_callTy cl_list rfl T.b_list PyProof.Rows.boot_list (pa_cons (pv 1) pa_nil)))
      (pss_cons (ps_set (i := 7) sc.nd rfl (Or.inl rfl) (pe_pr (pv 0) G_Machine_full (hr.mono (by decide)) rfl))
      (pss_cons (ps_for PassesOwn.never rfl (pi_tup (pv 5)) (pg_tup rfl (pgs_cons (pg_name (i := 8) sc.nd rfl (Or.inl rfl)) (pgs_cons (pg_name (i := 3) sc.nd rfl (Or.inl rfl)) pgs_nil)))
      (pss_one (ps_asg (pe_ix ix_tup (pv 7) (pv 8) (fun _ _ => rfl)) (pg_sub (pv 6) (pv 8) set_list))))
      (pss_cons (ps_for PassesOwn.never rfl (pi_tup (pv 5)) (pg_tup rfl (pgs_cons (pg_name (i := 8) sc.nd rfl (Or.inl rfl)) (pgs_cons (pg_tup rfl (pgs_cons (pg_name (i := 9) sc.nd rfl (Or.inl rfl)) (pgs_cons (pg_name (i := 10) sc.nd rfl (Or.inl rfl)) pgs_nil))) pgs_nil)))
      (pss_one (ps_if (pt_cmpR op_eq (pv 9) pe_str (nomark _)) (pss_one (ps_if (pt_cmpR opn_eq (pe_op opn_and (pe_op opn_shr (pe_ix ix_tup (pv 1) (pv 8) (fun _ _ => rfl)) (pv 10)) (pe_nat 1)) (pe_nat 0) (nomark _)) (pss_one (ps_ret pe_non))
      pss_nil))
      (pss_one (ps_augS (pv 6) (pv 10) get_list (pe_ix ix_tup (pv 1) (pv 8) (fun _ _ => rfl)) ion_and set_list)))))
      (pss_cons (ps_for PassesOwn.never rfl (pi_tup (pv 4)) (pg_tup rfl (pgs_cons (pg_name (i := 8) sc.nd rfl (Or.inl rfl)) (pgs_cons (pg_name (i := 11) sc.nd rfl (Or.inl rfl)) pgs_nil)))
      (pss_one (ps_augS (pv 6) (pv 8) get_list (pv 11) ion_and set_list)))
      (pss_one (ps_ret (pe_ifExp (pt_val (pe_callB (cr_all rfl) rfl T.b_all PyProof.Rows.boot_all (pa_cons (pe_lc (own := [("mask", 11)]) rfl sc.nd (pi_list (pv 6)) (blkOk_by (N := ["machine", "sketch", "deed", "_", "guard", "changes", "masks", "full", "cell", "kind", "number", "mask"]) (sc := defScope s_sketch_before) (by decide +kernel)) (fun _ _ _ _ _ => (pg_name (i := 11) sc.nd rfl (Or.inl rfl))) (fun _ _ _ _ _ => pts_nil) (fun _ _ _ _ _ => (pe_cmpR opn_ne (pv 11) (pe_nat 0) (nomark _)))) pa_nil))) (pe_callTy cl_tup rfl T.b_tuple PyProof.Rows.boot_tuple (pa_cons (pv 6) pa_nil)) pe_non)))))))))
abbrev s_meet : Stmt := top 21
theorem sc_meet : FnScope ["a", "b", "masks", "left", "right"] ["a", "b"] (defScope s_meet) := ⟨rfl, rfl, rfl, by decide +kernel, rfl, by decide +kernel, by decide +kernel⟩
theorem ok_meet (T : Gs K mg) (F : FunD K "meet" "meet" (defArgs s_meet) (defBody s_meet) (defScope s_meet) [] [] f fd)
    (R : ∀ (vs : List V) (H : Hp) (Q : VK) (E : XK), (spMeet) vs H Q E → t_meet K { nx := fun _ H1 => Q .non H1, rt := Q } (start ["a", "b", "masks", "left", "right"] vs) H) : FnOk P w K mg base CX0 1 f fd ["a", "b"] (spMeet) := by
  refine F.ok sc_meet (fun vs H Q E h => ?_) (fun cdv A outer s H vs Q E hr h => ⟨t_meet K, PSs.nox ?_, R vs H Q E h⟩)
  · obtain ⟨_, _, _, _, rfl, _⟩ := h
    rfl
  · have sc := sc_meet
    exact (pss_cons (ps_set (i := 2) sc.nd rfl (Or.inl rfl) (pe_lst pa_nil))
      (pss_cons (ps_for PassesOwn.never rfl (RZ.pi_zipA rfl T.b_zip (pa_cons (pv 0) (pa_cons (pv 1) pa_nil))) (pg_tup rfl (pgs_cons (pg_name (i := 3) sc.nd rfl (Or.inl rfl)) (pgs_cons (pg_name (i := 4) sc.nd rfl (Or.inl rfl)) pgs_nil)))
      (pss_cons (ps_if (pt_cmpR opn_eq (pe_op opn_and (pv 3) (pv 4)) (pe_nat 0) (nomark _)) (pss_one (ps_ret pe_non))
      pss_nil)
      (pss_one (ps_expr (pe_bm PySem.F.plainAttrs_list PySem.F.slot_list_append PySem.F.type_list_append mt_append (pv 2) (pa_cons (pe_op opn_and (pv 3) (pv 4)) pa_nil))))))
      (pss_one (ps_ret (pe_callTy cl_tup rfl T.b_tuple PyProof.Rows.boot_tuple (pa_cons (pv 2) pa_nil))))))
abbrev s_split : Stmt := top 22
theorem sc_split : FnScope ["a", "b", "both", "parts", "cell", "mask", "rest"] ["a", "b"] (defScope s_split) := ⟨rfl, rfl, rfl, by decide +kernel, rfl, by decide +kernel, by decide +kernel⟩
theorem ok_split (T : Gs K mg) (F : FunD K "_split" "_split" (defArgs s_split) (defBody s_split) (defScope s_split) [] [] f fd) (G_meet : GD P w K mg base "meet" 1 ["a", "b"] (spMeet))
    (R : ∀ (vs : List V) (H : Hp) (Q : VK) (E : XK), (spSplit) vs H Q E → t_split K { nx := fun _ H1 => Q .non H1, rt := Q } (start ["a", "b", "both", "parts", "cell", "mask", "rest"] vs) H) : FnOk P w K mg base CX0 2 f fd ["a", "b"] (spSplit) := by
  refine F.ok sc_split (fun vs H Q E h => ?_) (fun cdv A outer s H vs Q E hr h => ⟨t_split K, PSs.nox ?_, R vs H Q E h⟩)
  · obtain ⟨_, _, _, _, rfl, _⟩ := h
    rfl
  · have sc := sc_split
    exact (pss_cons (ps_set (i := 2) sc.nd rfl (Or.inl rfl) (pe_cl G_meet (hr.mono (by decide)) rfl (pa_cons (pv 0) (pa_cons (pv 1) pa_nil))))
      (pss_cons (ps_if (pt_cmp (pc_isN (pv 2))) (pss_one (ps_ret (pe_lst (pa_cons (pv 0) pa_nil))))
      pss_nil)
      (pss_cons (ps_set (i := 3) sc.nd rfl (Or.inl rfl) (pe_lst pa_nil))
      (pss_cons (ps_for PassesOwn.never rfl (pi_enumU rfl T.b_enumerate (pa_cons (pv 0) pa_nil)) (pg_tup rfl (pgs_cons (pg_name (i := 4) sc.nd rfl (Or.inl rfl)) (pgs_cons (pg_name (i := 5) sc.nd rfl (Or.inl rfl)) pgs_nil)))
      (pss_cons (ps_set (i := 6) sc.nd rfl (Or.inl rfl) (pe_op opn_xor (pv 5) (pe_ix ix_tup (pv 2) (pv 4) (fun _ _ => rfl))))
      (pss_one (ps_if (pt_cmpR opn_ne (pv 6) (pe_nat 0) (nomark _)) (pss_one (ps_expr (pe_bm PySem.F.plainAttrs_list PySem.F.slot_list_append PySem.F.type_list_append mt_append (pv 3) (pa_cons (pe_op op_catA (pe_op op_catA (pe_slice sl_tupA (pv 2) po_none (po_some (pv 4))) (pe_tup (pa_cons (pv 6) pa_nil))) (pe_slice sl_tupA (pv 0) (po_some (pe_op opn_add (pv 4) (pe_nat 1))) po_none)) pa_nil))))
      pss_nil))))
      (pss_one (ps_ret (pv 3)))))))
abbrev s_without : Stmt := top 23
theorem sc_without : FnScope ["a", "piece", "parts", "sketch", "other", "part"] ["a", "piece"] (defScope s_without) := ⟨rfl, rfl, rfl, by decide +kernel, rfl, by decide +kernel, by decide +kernel⟩
theorem ok_without (T : Gs K mg) (F : FunD K "without" "without" (defArgs s_without) (defBody s_without) (defScope s_without) [] [] f fd) (G_split : GD P w K mg base "_split" 2 ["a", "b"] (spSplit))
    (R : ∀ (vs : List V) (H : Hp) (Q : VK) (E : XK), (spWithout) vs H Q E → t_without K { nx := fun _ H1 => Q .non H1, rt := Q } (start ["a", "piece", "parts", "sketch", "other", "part"] vs) H) : FnOk P w K mg base CX0 3 f fd ["a", "piece"] (spWithout) := by
  refine F.ok sc_without (fun vs H Q E h => ?_) (fun cdv A outer s H vs Q E hr h => ⟨t_without K, PSs.nox ?_, R vs H Q E h⟩)
  · obtain ⟨_, _, _, _, rfl, _⟩ := h
    rfl
  · have sc := sc_without
    exact (pss_cons (ps_set (i := 2) sc.nd rfl (Or.inl rfl) (pe_lst (pa_cons (pv 0) pa_nil)))
      (pss_cons (ps_for PassesOwn.never rfl (pi_list (pv 1)) (pg_name (i := 3) sc.nd rfl (Or.inr rfl))
      (pss_one (ps_setLc2 (i := 2) (own := [("other", 4), ("part", 5)]) (vs1 := [5]) rfl sc.nd rfl rfl (sw_true rfl rfl rfl (by decide +kernel)) (pi_list (pv 2)) (blkOk_by (N := ["a", "piece", "parts", "sketch", "other", "part"]) (sc := defScope s_without) (by decide +kernel)) (by decide) (fun _ _ _ _ _ => (pg_name (i := 4) sc.nd rfl (Or.inl rfl))) (fun _ _ _ _ _ => pts_nil) (fun _ _ _ _ _ => (pi_list (pe_cl G_split (hr.mono (by decide)) rfl (pa_cons (pv 4) (pa_cons (pv 3) pa_nil))))) (fun _ _ _ _ _ => (pg_name (i := 5) sc.nd rfl (Or.inl rfl))) (fun _ _ _ _ _ => pts_nil) (fun _ _ _ _ _ => (pv 5)))))
      (pss_one (ps_ret (pv 2)))))
abbrev s_values_of : Stmt := top 24
theorem sc_values_of : FnScope ["mask", "value"] ["mask"] (defScope s_values_of) := ⟨rfl, rfl, rfl, by decide +kernel, rfl, by decide +kernel, by decide +kernel⟩
theorem ok_values_of (T : Gs K mg) (F : FunD K "values_of" "values_of" (defArgs s_values_of) (defBody s_values_of) (defScope s_values_of) [] [] f fd)
    (R : ∀ (vs : List V) (H : Hp) (Q : VK) (E : XK), (spValues) vs H Q E → t_values_of K { nx := fun _ H1 => Q .non H1, rt := Q } (start ["mask", "value"] vs) H) : FnOk P w K mg base CX0 1 f fd ["mask"] (spValues) := by
  refine F.ok sc_values_of (fun vs H Q E h => ?_) (fun cdv A outer s H vs Q E hr h => ⟨t_values_of K, PSs.nox ?_, R vs H Q E h⟩)
  · obtain ⟨_, rfl, _⟩ := h
    rfl
  · have sc := sc_values_of
    exact (pss_one (ps_ret (pe_lc (own := [("value", 1)]) rfl sc.nd (pi_range1 rfl T.b_range (pa_cons (pe_bits (pv 0)) pa_nil)) (blkOk_by (N := ["mask", "value"]) (sc := defScope s_values_of) (by decide +kernel)) (fun _ _ _ _ _ => (pg_name (i := 1) sc.nd rfl (Or.inl rfl))) (fun _ _ _ _ _ => (pts_one (pt_tru (pe_op opn_and (pe_op opn_shr (pv 0) (pv 1)) (pe_nat 1))))) (fun _ _ _ _ _ => (pv 1)))))
abbrev s_least_disk : Stmt := top 25
theorem sc_least_disk : FnScope ["sketch", "mask"] ["sketch"] (defScope s_least_disk) := ⟨rfl, rfl, rfl, by decide +kernel, rfl, by decide +kernel, by decide +kernel⟩
theorem ok_least_disk (T : Gs K mg) (F : FunD K "least_disk" "least_disk" (defArgs s_least_disk) (defBody s_least_disk) (defScope s_least_disk) [] [] f fd) (G_values_of : GD P w K mg base "values_of" 1 ["mask"] (spValues))
    (R : ∀ (vs : List V) (H : Hp) (Q : VK) (E : XK), (spLeast) vs H Q E → t_least_disk K { nx := fun _ H1 => Q .non H1, rt := Q } (start ["sketch", "mask"] vs) H) : FnOk P w K mg base CX0 2 f fd ["sketch"] (spLeast) := by
  refine F.ok sc_least_disk (fun vs H Q E h => ?_) (fun cdv A outer s H vs Q E hr h => ⟨t_least_disk K, PSs.nox ?_, R vs H Q E h⟩)
  · obtain ⟨_, _, rfl, _⟩ := h
    rfl
  · have sc := sc_least_disk
    exact (pss_one (ps_ret (pe_callTy cl_tup rfl T.b_tuple PyProof.Rows.boot_tuple (pa_cons (pe_lc (own := [("mask", 1)]) rfl sc.nd (pi_tup (pv 0)) (blkOk_by (N := ["sketch", "mask"]) (sc := defScope s_least_disk) (by decide +kernel)) (fun _ _ _ _ _ => (pg_name (i := 1) sc.nd rfl (Or.inl rfl))) (fun _ _ _ _ _ => pts_nil) (fun _ _ _ _ _ => (pe_ix ix_list (pe_cl G_values_of (hr.mono (by decide)) rfl (pa_cons (pv 1) pa_nil)) (pe_nat 0) (fun _ _ => rfl)))) pa_nil))))
abbrev s_Paper_init : Stmt := inClass (top 27) 0
theorem sc_Paper_init : FnScope ["self", "sketches", "cover", "table", "sketch", "row", "entry"] ["self", "sketches", "cover", "table"] (defScope s_Paper_init) := ⟨rfl, rfl, rfl, by decide +kernel, rfl, by decide +kernel, by decide +kernel⟩
theorem ok_Paper_init (T : Gs K mg) (F : FunD K "__init__" "Paper.__init__" (defArgs s_Paper_init) (defBody s_Paper_init) (defScope s_Paper_init) [] [] f fd)
    (R : ∀ (vs : List V) (H : Hp) (Q : VK) (E : XK), (spPaper c) vs H Q E → t_Paper_init K { nx := fun _ H1 => Q .non H1, rt := Q } (start ["self", "sketches", "cover", "table", "sketch", "row", "entry"] vs) H) : FnOk P w K mg base CX0 1 f fd ["self", "sketches", "cover", "table"] (spPaper c) := by
  refine F.ok sc_Paper_init (fun vs H Q E h => ?_) (fun cdv A outer s H vs Q E hr h => ⟨t_Paper_init K, PSs.nox ?_, R vs H Q E h⟩)
  · obtain ⟨_, _, _, _, _, _, _, _, _, rfl, _⟩ := h
    rfl
  · have sc := sc_Paper_init
    exact (pss_cons (ps_fld (pv 0) (pe_callTy cl_tup rfl T.b_tuple PyProof.Rows.boot_tuple (pa_cons (pe_lc (own := [("sketch", 4)]) rfl sc.nd (pi_list (pv 1)) (blkOk_by (N := ["self", "sketches", "cover", "table", "sketch", "row", "entry"]) (sc := defScope s_Paper_init) (by decide +kernel)) (fun _ _ _ _ _ => (pg_name (i := 4) sc.nd rfl (Or.inl rfl))) (fun _ _ _ _ _ => pts_nil) (fun _ _ _ _ _ => (pe_callTy cl_tup rfl T.b_tuple PyProof.Rows.boot_tuple (pa_cons (pv 4) pa_nil)))) pa_nil)) rfl)
      (pss_cons (ps_fld (pv 0) (pe_callTy cl_tup rfl T.b_tuple PyProof.Rows.boot_tuple (pa_cons (pv 2) pa_nil)) rfl)
      (pss_one (ps_fld (pv 0) (pe_callTy cl_tup rfl T.b_tuple PyProof.Rows.boot_tuple (pa_cons (pe_lc (own := [("row", 5)]) rfl sc.nd (pi_list (pv 3)) (blkOk_by (N := ["self", "sketches", "cover", "table", "sketch", "row", "entry"]) (sc := defScope s_Paper_init) (by decide +kernel)) (fun _ _ _ _ _ => (pg_name (i := 5) sc.nd rfl (Or.inl rfl))) (fun _ _ _ _ _ => pts_nil) (fun _ _ _ _ _ => (pe_callTy cl_tup rfl T.b_tuple PyProof.Rows.boot_tuple (pa_cons (pe_lc (own := [("entry", 6)]) rfl sc.nd (pi_list (pv 5)) (blk_in (N := ["self", "sketches", "cover", "table", "sketch", "row", "entry"]) (by decide +kernel)) (fun _ _ _ _ _ => (pg_name (i := 6) sc.nd rfl (Or.inl rfl))) (fun _ _ _ _ _ => pts_nil) (fun _ _ _ _ _ => (pe_callTy cl_tup rfl T.b_tuple PyProof.Rows.boot_tuple (pa_cons (pv 6) pa_nil)))) pa_nil)))) pa_nil)) rfl))))
abbrev s_check_question : Stmt := top 28
theorem sc_check_question : FnScope ["machine", "image", "piece", "sketch"] ["machine", "image", "piece"] (defScope s_check_question) := ⟨rfl, rfl, rfl, by decide +kernel, rfl, by decide +kernel, by decide +kernel⟩
theorem ok_check_question (T : Gs K mg) (F : FunD K "check_question" "check_question" (defArgs s_check_question) (defBody s_check_question) (defScope s_check_question) [] [] f fd) (G_check_sketch : GD P w K mg base "check_sketch" 2 ["machine", "sketch"] (spCheckSketch c))
    (R : ∀ (vs : List V) (H : Hp) (Q : VK) (E : XK), (spCheckQ c) vs H Q E → t_check_question K c { nx := fun _ H1 => Q .non H1, rt := Q } (start ["machine", "image", "piece", "sketch"] vs) H) : FnOk P w K mg base CX0 3 f fd ["machine", "image", "piece"] (spCheckQ c) := by
  refine F.ok sc_check_question (fun vs H Q E h => ?_) (fun cdv A outer s H vs Q E hr h => ⟨t_check_question K c, PSs.nox ?_, R vs H Q E h⟩)
  · obtain ⟨_, _, _, _, _, _, rfl, _⟩ := h
    rfl
  · have sc := sc_check_question
    exact (pss_cons (ps_expr (pe_cl G_check_sketch (hr.mono (by decide)) rfl (pa_cons (pv 0) (pa_cons (pv 1) pa_nil))))
      (pss_one (ps_for PassesOwn.never rfl (pi_list (pv 2)) (pg_name (i := 3) sc.nd rfl (Or.inl rfl))
      (pss_one (ps_expr (pe_cl G_check_sketch (hr.mono (by decide)) rfl (pa_cons (pv 0) (pa_cons (pv 3) pa_nil))))))))
abbrev s_packed_sketch : Stmt := top 29
theorem sc_packed_sketch : FnScope ["sketch", "packed", "mask"] ["sketch"] (defScope s_packed_sketch) := ⟨rfl, rfl, rfl, by decide +kernel, rfl, by decide +kernel, by decide +kernel⟩
theorem ok_packed_sketch (T : Gs K mg) (F : FunD K "packed_sketch" "packed_sketch" (defArgs s_packed_sketch) (defBody s_packed_sketch) (defScope s_packed_sketch) [] [] f fd)
    (R : ∀ (vs : List V) (H : Hp) (Q : VK) (E : XK), (spPacked) vs H Q E → t_packed_sketch K { nx := fun _ H1 => Q .non H1, rt := Q } (start ["sketch", "packed", "mask"] vs) H) : FnOk P w K mg base CX0 1 f fd ["sketch"] (spPacked) := by
  refine F.ok sc_packed_sketch (fun vs H Q E h => ?_) (fun cdv A outer s H vs Q E hr h => ⟨t_packed_sketch K, PSs.nox ?_, R vs H Q E h⟩)
  · obtain ⟨_, _, rfl, _⟩ := h
    rfl
  · have sc := sc_packed_sketch
    exact (pss_cons (ps_set (i := 1) sc.nd rfl (Or.inl rfl) (pe_nat 0))
      (pss_cons (ps_for PassesOwn.never rfl (pi_tup (pv 0)) (pg_name (i := 2) sc.nd rfl (Or.inl rfl))
      (pss_one (ps_set (i := 1) sc.nd rfl (Or.inl rfl) (pe_op opn_or (pe_op opn_shl (pv 1) (pe_gnat T.MOST_VALUES rfl)) (pv 2)))))
      (pss_one (ps_ret (pv 1)))))
abbrev s_Search_init : Stmt := inClass (top 30) 0
theorem sc_Search_init : FnScope ["self", "machine", "piece"] ["self", "machine", "piece"] (defScope s_Search_init) := ⟨rfl, rfl, rfl, by decide +kernel, rfl, by decide +kernel, by decide +kernel⟩
theorem ok_Search_init (T : Gs K mg) (F : FunD K "__init__" "Search.__init__" (defArgs s_Search_init) (defBody s_Search_init) (defScope s_Search_init) [] [] f fd)
    (R : ∀ (vs : List V) (H : Hp) (Q : VK) (E : XK), (spSearch c) vs H Q E → t_Search_init K { nx := fun _ H1 => Q .non H1, rt := Q } (start ["self", "machine", "piece"] vs) H) : FnOk P w K mg base CX0 1 f fd ["self", "machine", "piece"] (spSearch c) := by
  refine F.ok sc_Search_init (fun vs H Q E h => ?_) (fun cdv A outer s H vs Q E hr h => ⟨t_Search_init K, PSs.nox ?_, R vs H Q E h⟩)
  · obtain ⟨_, _, _, _, _, _, _, rfl, _⟩ := h
    rfl
  · have sc := sc_Search_init
    exact (pss_cons (ps_fld (pv 0) (pv 1) rfl)
      (pss_cons (ps_fld (pv 0) (pv 2) rfl)
      (pss_cons (ps_fld (pv 0) (pe_lst pa_nil) rfl)
      (pss_cons (ps_fld (pv 0) (pe_lst pa_nil) rfl)
      (pss_cons (ps_fld (pv 0) (pe_lst pa_nil) rfl)
      (pss_one (ps_fld (pv 0) (pe_un un_neg pe_int) rfl)))))))
abbrev s_Search_place : Stmt := inClass (top 30) 1
theorem sc_Search_place : FnScope ["self", "sketch", "origin", "packed", "number", "other"] ["self", "sketch", "origin"] (defScope s_Search_place) := ⟨rfl, rfl, rfl, by decide +kernel, rfl, by decide +kernel, by decide +kernel⟩
theorem ok_Search_place (T : Gs K mg) (F : FunD K "place" "Search.place" (defArgs s_Search_place) (defBody s_Search_place) (defScope s_Search_place) [] [] f fd) (G_meet : GD P w K mg base "meet" 1 ["a", "b"] (spMeet)) (G_packed_sketch : GD P w K mg base "packed_sketch" 1 ["sketch"] (spPacked))
    (R : ∀ (vs : List V) (H : Hp) (Q : VK) (E : XK), (spPlace c) vs H Q E → t_Search_place K { nx := fun _ H1 => Q .non H1, rt := Q } (start ["self", "sketch", "origin", "packed", "number", "other"] vs) H) : FnOk P w K mg base CX0 2 f fd ["self", "sketch", "origin"] (spPlace c) := by
  refine F.ok sc_Search_place (fun vs H Q E h => ?_) (fun cdv A outer s H vs Q E hr h => ⟨t_Search_place K, PSs.nox ?_, R vs H Q E h⟩)
  · obtain ⟨_, _, _, _, _, _, _, _, _, rfl, _⟩ := h
    rfl
  · have sc := sc_Search_place
    exact (pss_cons (ps_set (i := 3) sc.nd rfl (Or.inl rfl) (pe_cl G_packed_sketch (hr.mono (by decide)) rfl (pa_cons (pv 1) pa_nil)))
      (pss_cons (ps_for PassesOwn.never rfl (pi_enum rfl T.b_enumerate (pa_cons (pe_fld (pv 0) rfl) pa_nil)) (pg_tup rfl (pgs_cons (pg_name (i := 4) sc.nd rfl (Or.inl rfl)) (pgs_cons (pg_name (i := 5) sc.nd rfl (Or.inl rfl)) pgs_nil)))
      (pss_one (ps_if (pt_cmpR opn_eq (pe_op opn_and (pv 3) (pv 5)) (pv 3) (nomark _)) (pss_one (ps_ret (pv 4)))
      pss_nil)))
      (pss_cons (ps_expr (pe_bm PySem.F.plainAttrs_list PySem.F.slot_list_append PySem.F.type_list_append mt_append (pe_fld (pv 0) rfl) (pa_cons (pv 3) pa_nil)))
      (pss_cons (ps_expr (pe_bm PySem.F.plainAttrs_list PySem.F.slot_list_append PySem.F.type_list_append mt_append (pe_fld (pv 0) rfl) (pa_cons (pv 1) pa_nil)))
      (pss_cons (ps_expr (pe_bm PySem.F.plainAttrs_list PySem.F.slot_list_append PySem.F.type_list_append mt_append (pe_fld (pv 0) rfl) (pa_cons (pv 2) pa_nil)))
      (pss_cons (ps_if (PW.pt (pw_and (pt_cmpR op_lt (pe_fld (pv 0) rfl) (pe_nat 0) (nomark _)) (pw_and1 (pt_cmp (pc_notN (pe_cl G_meet (hr.mono (by decide)) rfl (pa_cons (pv 1) (pa_cons (pe_fld (pe_fld (pv 0) rfl) rfl) pa_nil)))))))) (pss_one (ps_fld (pv 0) (pe_op opn_sub (pe_callB cl_lenS rfl T.b_len PySem.boot_len (pa_cons (pe_fld (pv 0) rfl) pa_nil)) (pe_nat 1)) rfl))
      pss_nil)
      (pss_one (ps_ret (pe_op opn_sub (pe_callB cl_lenS rfl T.b_len PySem.boot_len (pa_cons (pe_fld (pv 0) rfl) pa_nil)) (pe_nat 1))))))))))
abbrev s_Search_places : Stmt := inClass (top 30) 2
theorem sc_Search_places : FnScope ["self", "sketch", "origin", "part"] ["self", "sketch", "origin"] (defScope s_Search_places) := ⟨rfl, rfl, rfl, by decide +kernel, rfl, by decide +kernel, by decide +kernel⟩
theorem ok_Search_places (T : Gs K mg) (F : FunD K "places" "Search.places" (defArgs s_Search_places) (defBody s_Search_places) (defScope s_Search_places) [] [] f fd) (G_without : GD P w K mg base "without" 3 ["a", "piece"] (spWithout)) (G_Search_place : GM P w K mg base c.S "place" 2 ["self", "sketch", "origin"] (spPlace c))
    (R : ∀ (vs : List V) (H : Hp) (Q : VK) (E : XK), (spPlaces c) vs H Q E → t_Search_places K c { nx := fun _ H1 => Q .non H1, rt := Q } (start ["self", "sketch", "origin", "part"] vs) H) : FnOk P w K mg base CX0 4 f fd ["self", "sketch", "origin"] (spPlaces c) := by
  refine F.ok sc_Search_places (fun vs H Q E h => ?_) (fun cdv A outer s H vs Q E hr h => ⟨t_Search_places K c, PSs.nox ?_, R vs H Q E h⟩)
  · obtain ⟨_, _, _, _, _, _, _, _, _, _, rfl, _⟩ := h
    rfl
  · have sc := sc_Search_places
    exact (pss_one (ps_ret (pe_lc (own := [("part", 3)]) rfl sc.nd (pi_list (pe_cl G_without (hr.mono (by decide)) rfl (pa_cons (pv 1) (pa_cons (pe_fld (pv 0) rfl) pa_nil)))) (blkOk_by (N := ["self", "sketch", "origin", "part"]) (sc := defScope s_Search_places) (by decide +kernel)) (fun _ _ _ _ _ => (pg_name (i := 3) sc.nd rfl (Or.inl rfl))) (fun _ _ _ _ _ => pts_nil) (fun _ _ _ _ _ => (pe_mt (pv 0) G_Search_place (hr.mono (by decide)) (pa_cons (pv 3) (pa_cons (pv 2) pa_nil)))))))
abbrev s_Search_row : Stmt := inClass (top 30) 3
theorem sc_Search_row : FnScope ["self", "number", "entries", "deed", "earlier"] ["self", "number"] (defScope s_Search_row) := ⟨rfl, rfl, rfl, by decide +kernel, rfl, by decide +kernel, by decide +kernel⟩
theorem ok_Search_row (T : Gs K mg) (F : FunD K "row" "Search.row" (defArgs s_Search_row) (defBody s_Search_row) (defScope s_Search_row) [] [] f fd) (G_sketch_before : GD P w K mg base "sketch_before" 3 ["machine", "sketch", "deed"] (spBefore c)) (G_Search_places : GM P w K mg base c.S "places" 4 ["self", "sketch", "origin"] (spPlaces c))
    (R : ∀ (vs : List V) (H : Hp) (Q : VK) (E : XK), (spRow c) vs H Q E → t_Search_row K c { nx := fun _ H1 => Q .non H1, rt := Q } (start ["self", "number", "entries", "deed", "earlier"] vs) H) : FnOk P w K mg base CX0 5 f fd ["self", "number"] (spRow c) := by
  refine F.ok sc_Search_row (fun vs H Q E h => ?_) (fun cdv A outer s H vs Q E hr h => ⟨t_Search_row K c, PSs.nox ?_, R vs H Q E h⟩)
  · obtain ⟨_, _, _, _, _, _, _, _, rfl, _⟩ := h
    rfl
  · have sc := sc_Search_row
    exact (pss_cons (ps_set (i := 2) sc.nd rfl (Or.inl rfl) (pe_lst pa_nil))
      (pss_cons (ps_for PassesOwn.never rfl (pi_range1 rfl T.b_range (pa_cons (pe_callB cl_lenS rfl T.b_len PySem.boot_len (pa_cons (pe_fld (pe_fld (pv 0) rfl) rfl) pa_nil)) pa_nil)) (pg_name (i := 3) sc.nd rfl (Or.inl rfl))
      (pss_cons (ps_set (i := 4) sc.nd rfl (Or.inl rfl) (pe_cl G_sketch_before (hr.mono (by decide)) rfl (pa_cons (pe_fld (pv 0) rfl) (pa_cons (pe_ix ix_list (pe_fld (pv 0) rfl) (pv 1) (fun _ _ => rfl)) (pa_cons (pv 3) pa_nil)))))
      (pss_one (ps_expr (pe_bm PySem.F.plainAttrs_list PySem.F.slot_list_append PySem.F.type_list_append mt_append (pv 2) (pa_cons (pe_ifExp (pt_cmp (pc_isN (pv 4))) (pe_lst pa_nil) (pe_mt (pv 0) G_Search_places (hr.mono (by decide)) (pa_cons (pv 4) (pa_cons (pe_tup (pa_cons (pv 3) (pa_cons (pv 1) pa_nil))) pa_nil)))) pa_nil))))))
      (pss_one (ps_ret (pv 2)))))
abbrev s_Search_history : Stmt := inClass (top 30) 4
theorem sc_Search_history : FnScope ["self", "number", "disk", "deeds", "deed"] ["self"] (defScope s_Search_history) := ⟨rfl, rfl, rfl, by decide +kernel, rfl, by decide +kernel, by decide +kernel⟩
theorem ok_Search_history (T : Gs K mg) (F : FunD K "history" "Search.history" (defArgs s_Search_history) (defBody s_Search_history) (defScope s_Search_history) [] [] f fd) (G_least_disk : GD P w K mg base "least_disk" 2 ["sketch"] (spLeast)) (G_meet : GD P w K mg base "meet" 1 ["a", "b"] (spMeet))
    (R : ∀ (vs : List V) (H : Hp) (Q : VK) (E : XK), (spHistory c) vs H Q E → t_Search_history K { nx := fun _ H1 => Q .non H1, rt := Q } (start ["self", "number", "disk", "deeds", "deed"] vs) H) : FnOk P w K mg base CX0 3 f fd ["self"] (spHistory c) := by
  refine F.ok sc_Search_history (fun vs H Q E h => ?_) (fun cdv A outer s H vs Q E hr h => ⟨t_Search_history K, PSs.nox ?_, R vs H Q E h⟩)
  · obtain ⟨_, _, _, _, _, _, _, _, _, _, _, rfl, _⟩ := h
    rfl
  · have sc := sc_Search_history
    exact (pss_cons (ps_set (i := 1) sc.nd rfl (Or.inl rfl) (pe_fld (pv 0) rfl))
      (pss_cons (ps_set (i := 2) sc.nd rfl (Or.inl rfl) (pe_cl G_least_disk (hr.mono (by decide)) rfl (pa_cons (pe_cl G_meet (hr.mono (by decide)) rfl (pa_cons (pe_ix ix_list (pe_fld (pv 0) rfl) (pv 1) (fun _ _ => rfl)) (pa_cons (pe_fld (pe_fld (pv 0) rfl) rfl) pa_nil))) pa_nil)))
      (pss_cons (ps_set (i := 3) sc.nd rfl (Or.inl rfl) (pe_lst pa_nil))
      (pss_cons (ps_while PassesOwn.never (pt_cmp (pc_notN (pe_ix ix_list (pe_fld (pv 0) rfl) (pv 1) (fun _ _ => rfl)))) (pss_cons (ps_asg (pe_ix ix_list (pe_fld (pv 0) rfl) (pv 1) (fun _ _ => rfl)) (pg_tup rfl (pgs_cons (pg_name (i := 4) sc.nd rfl (Or.inl rfl)) (pgs_cons (pg_name (i := 1) sc.nd rfl (Or.inl rfl)) pgs_nil))))
      (pss_one (ps_expr (pe_bm PySem.F.plainAttrs_list PySem.F.slot_list_append PySem.F.type_list_append mt_append (pv 3) (pa_cons (pv 4) pa_nil))))))
      (pss_one (ps_ret (pe_tup (pa_cons (pv 2) (pa_cons (pv 3) pa_nil)))))))))
abbrev s_OrderPaper_init : Stmt := inClass (top 32) 0
theorem sc_OrderPaper_init : FnScope ["self", "reach", "cover", "table", "sketches", "links", "steps", "first", "second", "entry"] ["self", "reach", "cover", "table", "sketches", "links", "steps"] (defScope s_OrderPaper_init) := ⟨rfl, rfl, rfl, by decide +kernel, rfl, by decide +kernel, by decide +kernel⟩
theorem ok_OrderPaper_init (T : Gs K mg) (F : FunD K "__init__" "OrderPaper.__init__" (defArgs s_OrderPaper_init) (defBody s_OrderPaper_init) (defScope s_OrderPaper_init) [] [] f fd) (G_Paper_init : GC P w K mg base "Paper" c.P 1 ["self", "sketches", "cover", "table"] (spPaper c))
    (R : ∀ (vs : List V) (H : Hp) (Q : VK) (E : XK), (spOPaper c) vs H Q E → t_OrderPaper_init K c { nx := fun _ H1 => Q .non H1, rt := Q } (start ["self", "reach", "cover", "table", "sketches", "links", "steps", "first", "second", "entry"] vs) H) : FnOk P w K mg base CX0 3 f fd ["self", "reach", "cover", "table", "sketches", "links", "steps"] (spOPaper c) := by
  refine F.ok sc_OrderPaper_init (fun vs H Q E h => ?_) (fun cdv A outer s H vs Q E hr h => ⟨t_OrderPaper_init K c, PSs.nox ?_, R vs H Q E h⟩)
  · obtain ⟨_, _, _, _, _, _, _, _, _, _, _, _, _, _, _, rfl, _⟩ := h
    rfl
  · have sc := sc_OrderPaper_init
    exact (pss_cons (ps_set (i := 7) sc.nd rfl (Or.inl rfl) (pe_mk G_Paper_init (hr.mono (by decide)) rfl (pa_cons (pv 1) (pa_cons (pv 2) (pa_cons (pv 3) pa_nil)))))
      (pss_cons (ps_set (i := 8) sc.nd rfl (Or.inl rfl) (pe_mk G_Paper_init (hr.mono (by decide)) rfl (pa_cons (pv 4) (pa_cons (pe_tup pa_nil) (pa_cons (pv 6) pa_nil)))))
      (pss_cons (ps_fld (pv 0) (pe_fld (pv 7) rfl) rfl)
      (pss_cons (ps_fld (pv 0) (pe_fld (pv 7) rfl) rfl)
      (pss_cons (ps_fld (pv 0) (pe_fld (pv 7) rfl) rfl)
      (pss_cons (ps_fld (pv 0) (pe_fld (pv 8) rfl) rfl)
      (pss_cons (ps_fld (pv 0) (pe_callTy cl_tup rfl T.b_tuple PyProof.Rows.boot_tuple (pa_cons (pe_lc (own := [("entry", 9)]) rfl sc.nd (pi_list (pv 5)) (blkOk_by (N := ["self", "reach", "cover", "table", "sketches", "links", "steps", "first", "second", "entry"]) (sc := defScope s_OrderPaper_init) (by decide +kernel)) (fun _ _ _ _ _ => (pg_name (i := 9) sc.nd rfl (Or.inl rfl))) (fun _ _ _ _ _ => pts_nil) (fun _ _ _ _ _ => (pe_callTy cl_tup rfl T.b_tuple PyProof.Rows.boot_tuple (pa_cons (pv 9) pa_nil)))) pa_nil)) rfl)
      (pss_one (ps_fld (pv 0) (pe_fld (pv 8) rfl) rfl)))))))))
abbrev s_OrderAnswer_init : Stmt := inClass (top 33) 0
theorem sc_OrderAnswer_init : FnScope ["self", "told", "paper", "disk", "deeds", "moment"] ["self", "told", "paper", "disk", "deeds", "moment"] (defScope s_OrderAnswer_init) := ⟨rfl, rfl, rfl, by decide +kernel, rfl, by decide +kernel, by decide +kernel⟩
theorem ok_OrderAnswer_init (T : Gs K mg) (F : FunD K "__init__" "OrderAnswer.__init__" (defArgs s_OrderAnswer_init) (defBody s_OrderAnswer_init) (defScope s_OrderAnswer_init) [] [] f fd)
    (R : ∀ (vs : List V) (H : Hp) (Q : VK) (E : XK), (spOAnswer c) vs H Q E → t_OrderAnswer_init K { nx := fun _ H1 => Q .non H1, rt := Q } (start ["self", "told", "paper", "disk", "deeds", "moment"] vs) H) : FnOk P w K mg base CX0 1 f fd ["self", "told", "paper", "disk", "deeds", "moment"] (spOAnswer c) := by
  refine F.ok sc_OrderAnswer_init (fun vs H Q E h => ?_) (fun cdv A outer s H vs Q E hr h => ⟨t_OrderAnswer_init K, PSs.nox ?_, R vs H Q E h⟩)
  · obtain ⟨_, _, _, _, _, _, _, _, rfl, _⟩ := h
    rfl
  · have sc := sc_OrderAnswer_init
    exact (pss_cons (ps_fld (pv 0) (pv 1) rfl)
      (pss_cons (ps_fld (pv 0) (pv 2) rfl)
      (pss_cons (ps_fld (pv 0) (pv 3) rfl)
      (pss_cons (ps_fld (pv 0) (pe_ifExp (pt_cmp (pc_isN (pv 4))) pe_non (pe_callTy cl_tup rfl T.b_tuple PyProof.Rows.boot_tuple (pa_cons (pv 4) pa_nil))) rfl)
      (pss_one (ps_fld (pv 0) (pv 5) rfl))))))
abbrev s_late_parts : Stmt := top 34
theorem sc_late_parts : FnScope ["sketch", "early", "late", "parts", "other", "both"] ["sketch", "early", "late"] (defScope s_late_parts) := ⟨rfl, rfl, rfl, by decide +kernel, rfl, by decide +kernel, by decide +kernel⟩
theorem ok_late_parts (T : Gs K mg) (F : FunD K "_late_parts" "_late_parts" (defArgs s_late_parts) (defBody s_late_parts) (defScope s_late_parts) [] [] f fd) (G_meet : GD P w K mg base "meet" 1 ["a", "b"] (spMeet)) (G_without : GD P w K mg base "without" 3 ["a", "piece"] (spWithout))
    (R : ∀ (vs : List V) (H : Hp) (Q : VK) (E : XK), (spLateParts) vs H Q E → t_late_parts K { nx := fun _ H1 => Q .non H1, rt := Q } (start ["sketch", "early", "late", "parts", "other", "both"] vs) H) : FnOk P w K mg base CX0 4 f fd ["sketch", "early", "late"] (spLateParts) := by
  refine F.ok sc_late_parts (fun vs H Q E h => ?_) (fun cdv A outer s H vs Q E hr h => ⟨t_late_parts K, PSs.nox ?_, R vs H Q E h⟩)
  · obtain ⟨_, _, _, _, _, _, rfl, _⟩ := h
    rfl
  · have sc := sc_late_parts
    exact (pss_cons (ps_set (i := 3) sc.nd rfl (Or.inl rfl) (pe_lst pa_nil))
      (pss_cons (ps_for PassesOwn.never rfl (pi_list (pv 2)) (pg_name (i := 4) sc.nd rfl (Or.inl rfl))
      (pss_cons (ps_set (i := 5) sc.nd rfl (Or.inl rfl) (pe_cl G_meet (hr.mono (by decide)) rfl (pa_cons (pv 0) (pa_cons (pv 4) pa_nil))))
      (pss_one (ps_if (pt_cmp (pc_notN (pv 5))) (pss_one (ps_aug (i := 3) sc.nd rfl (Or.inl rfl) (pe_cl G_without (hr.mono (by decide)) rfl (pa_cons (pv 5) (pa_cons (pv 1) pa_nil))) iop_ext))
      pss_nil))))
      (pss_one (ps_ret (pv 3)))))
abbrev s_way : Stmt := top 35
theorem sc_way : FnScope ["search", "number", "deeds", "deed"] ["search", "number"] (defScope s_way) := ⟨rfl, rfl, rfl, by decide +kernel, rfl, by decide +kernel, by decide +kernel⟩
theorem ok_way (T : Gs K mg) (F : FunD K "_way" "_way" (defArgs s_way) (defBody s_way) (defScope s_way) [] [] f fd)
    (R : ∀ (vs : List V) (H : Hp) (Q : VK) (E : XK), (spWay c) vs H Q E → t_way K { nx := fun _ H1 => Q .non H1, rt := Q } (start ["search", "number", "deeds", "deed"] vs) H) : FnOk P w K mg base CX0 1 f fd ["search", "number"] (spWay c) := by
  refine F.ok sc_way (fun vs H Q E h => ?_) (fun cdv A outer s H vs Q E hr h => ⟨t_way K, PSs.nox ?_, R vs H Q E h⟩)
  · obtain ⟨_, _, _, _, _, _, _, _, _, rfl, _⟩ := h
    rfl
  · have sc := sc_way
    exact (pss_cons (ps_set (i := 2) sc.nd rfl (Or.inl rfl) (pe_lst pa_nil))
      (pss_cons (ps_while PassesOwn.never (pt_cmp (pc_notN (pe_ix ix_list (pe_fld (pv 0) rfl) (pv 1) (fun _ _ => rfl)))) (pss_cons (ps_asg (pe_ix ix_list (pe_fld (pv 0) rfl) (pv 1) (fun _ _ => rfl)) (pg_tup rfl (pgs_cons (pg_name (i := 3) sc.nd rfl (Or.inl rfl)) (pgs_cons (pg_name (i := 1) sc.nd rfl (Or.inl rfl)) pgs_nil))))
      (pss_one (ps_expr (pe_bm PySem.F.plainAttrs_list PySem.F.slot_list_append PySem.F.type_list_append mt_append (pv 2) (pa_cons (pv 3) pa_nil))))))
      (pss_one (ps_ret (pv 2)))))
abbrev s_tell_order : Stmt := top 36
theorem sc_tell_order : FnScope ["machine", "image", "early", "late", "reach", "cover", "table", "search", "links", "owners", "number", "sketch", "steps", "paper", "disk", "deeds", "start", "part"] ["machine", "image", "early", "late"] (defScope s_tell_order) := ⟨rfl, rfl, rfl, by decide +kernel, rfl, by decide +kernel, by decide +kernel⟩
theorem ok_tell_order (T : Gs K mg) (F : FunD K "tell_order" "tell_order" (defArgs s_tell_order) (defBody s_tell_order) (defScope s_tell_order) [] [] f fd) (G_late_parts : GD P w K mg base "_late_parts" 4 ["sketch", "early", "late"] (spLateParts)) (G_way : GD P w K mg base "_way" 1 ["search", "number"] (spWay c)) (G_check_question : GD P w K mg base "check_question" 3 ["machine", "image", "piece"] (spCheckQ c)) (G_OrderAnswer_init : GC P w K mg base "OrderAnswer" c.OA 1 ["self", "told", "paper", "disk", "deeds", "moment"] (spOAnswer c)) (G_OrderPaper_init : GC P w K mg base "OrderPaper" c.OP 3 ["self", "reach", "cover", "table", "sketches", "links", "steps"] (spOPaper c)) (G_Search_init : GC P w K mg base "Search" c.S 1 ["self", "machine", "piece"] (spSearch c)) (G_Search_history : GM P w K mg base c.S "history" 3 ["self"] (spHistory c)) (G_Search_place : GM P w K mg base c.S "place" 2 ["self", "sketch", "origin"] (spPlace c)) (G_Search_places : GM P w K mg base c.S "places" 4 ["self", "sketch", "origin"] (spPlaces c)) (G_Search_row : GM P w K mg base c.S "row" 5 ["self", "number"] (spRow c))
    (R : ∀ (vs : List V) (H : Hp) (Q : VK) (E : XK), (spTell c) vs H Q E → t_tell_order K c { nx := fun _ H1 => Q .non H1, rt := Q } (start ["machine", "image", "early", "late", "reach", "cover", "table", "search", "links", "owners", "number", "sketch", "steps", "paper", "disk", "deeds", "start", "part"] vs) H) : FnOk P w K mg base CX0 6 f fd ["machine", "image", "early", "late"] (spTell c) := by
  refine F.ok sc_tell_order (fun vs H Q E h => ?_) (fun cdv A outer s H vs Q E hr h => ⟨t_tell_order K c, PSs.nox ?_, R vs H Q E h⟩)
  · obtain ⟨_, _, _, _, _, _, _, _, rfl, _⟩ := h
    rfl
  · have sc := sc_tell_order
    exact (pss_cons (ps_expr (pe_cl G_check_question (hr.mono (by decide)) rfl (pa_cons (pv 0) (pa_cons (pv 1) (pa_cons (pv 2) pa_nil)))))
      (pss_cons (ps_expr (pe_cl G_check_question (hr.mono (by decide)) rfl (pa_cons (pv 0) (pa_cons (pv 1) (pa_cons (pv 3) pa_nil)))))
      (pss_cons (ps_set (i := 4) sc.nd rfl (Or.inl rfl) (pe_mk G_Search_init (hr.mono (by decide)) rfl (pa_cons (pv 0) (pa_cons (pe_lst pa_nil) pa_nil))))
      (pss_cons (ps_set (i := 5) sc.nd rfl (Or.inl rfl) (pe_mt (pv 4) G_Search_places (hr.mono (by decide)) (pa_cons (pv 1) (pa_cons pe_non pa_nil))))
      (pss_cons (ps_set (i := 6) sc.nd rfl (Or.inl rfl) (pe_lst pa_nil))
      (pss_cons (ps_while PassesOwn.never (pt_cmpR opn_lt (pe_callB cl_lenS rfl T.b_len PySem.boot_len (pa_cons (pv 6) pa_nil)) (pe_callB cl_lenS rfl T.b_len PySem.boot_len (pa_cons (pe_fld (pv 4) rfl) pa_nil)) (nomark _)) (pss_one (ps_expr (pe_bm PySem.F.plainAttrs_list PySem.F.slot_list_append PySem.F.type_list_append mt_append (pv 6) (pa_cons (pe_mt (pv 4) G_Search_row (hr.mono (by decide)) (pa_cons (pe_callB cl_lenS rfl T.b_len PySem.boot_len (pa_cons (pv 6) pa_nil)) pa_nil)) pa_nil)))))
      (pss_cons (ps_set (i := 7) sc.nd rfl (Or.inr rfl) (pe_mk G_Search_init (hr.mono (by decide)) rfl (pa_cons (pv 0) (pa_cons (pv 2) pa_nil))))
      (pss_cons (ps_set (i := 8) sc.nd rfl (Or.inl rfl) (pe_lst pa_nil))
      (pss_cons (ps_set (i := 9) sc.nd rfl (Or.inl rfl) (pe_lst pa_nil))
      (pss_cons (ps_for PassesOwn.never rfl (pi_enum rfl T.b_enumerate (pa_cons (pe_fld (pv 4) rfl) pa_nil)) (pg_tup rfl (pgs_cons (pg_name (i := 10) sc.nd rfl (Or.inl rfl)) (pgs_cons (pg_name (i := 11) sc.nd rfl (Or.inl rfl)) pgs_nil)))
      (pss_cons (ps_expr (pe_bm PySem.F.plainAttrs_list PySem.F.slot_list_append PySem.F.type_list_append mt_append (pv 8) (pa_cons (pe_lc (own := [("part", 17)]) rfl sc.nd (pi_list (pe_cl G_late_parts (hr.mono (by decide)) rfl (pa_cons (pv 11) (pa_cons (pv 2) (pa_cons (pv 3) pa_nil))))) (blkOk_by (N := ["machine", "image", "early", "late", "reach", "cover", "table", "search", "links", "owners", "number", "sketch", "steps", "paper", "disk", "deeds", "start", "part"]) (sc := defScope s_tell_order) (by decide +kernel)) (fun _ _ _ _ _ => (pg_name (i := 17) sc.nd rfl (Or.inl rfl))) (fun _ _ _ _ _ => pts_nil) (fun _ _ _ _ _ => (pe_mt (pv 7) G_Search_place (hr.mono (by decide)) (pa_cons (pv 17) (pa_cons pe_non pa_nil))))) pa_nil)))
      (pss_one (ps_aug (i := 9) sc.nd rfl (Or.inl rfl) (pe_op op_rep (pe_lst (pa_cons (pv 10) pa_nil)) (pe_op opn_sub (pe_callB cl_lenS rfl T.b_len PySem.boot_len (pa_cons (pe_fld (pv 7) rfl) pa_nil)) (pe_callB cl_lenS rfl T.b_len PySem.boot_len (pa_cons (pv 9) pa_nil)))) iop_ext))))
      (pss_cons (ps_set (i := 12) sc.nd rfl (Or.inl rfl) (pe_lst pa_nil))
      (pss_cons (ps_while PassesOwn.never (PW.pt (pw_and (pt_cmpR op_lt (pe_fld (pv 7) rfl) (pe_nat 0) (nomark _)) (pw_and1 (pt_cmpR opn_lt (pe_callB cl_lenS rfl T.b_len PySem.boot_len (pa_cons (pv 12) pa_nil)) (pe_callB cl_lenS rfl T.b_len PySem.boot_len (pa_cons (pe_fld (pv 7) rfl) pa_nil)) (nomark _))))) (pss_one (ps_expr (pe_bm PySem.F.plainAttrs_list PySem.F.slot_list_append PySem.F.type_list_append mt_append (pv 12) (pa_cons (pe_mt (pv 7) G_Search_row (hr.mono (by decide)) (pa_cons (pe_callB cl_lenS rfl T.b_len PySem.boot_len (pa_cons (pv 12) pa_nil)) pa_nil)) pa_nil)))))
      (pss_cons (ps_if (pt_cmpR op_lt (pe_fld (pv 7) rfl) (pe_nat 0) (nomark _)) (pss_cons (ps_set (i := 13) sc.nd rfl (Or.inl rfl) (pe_mk G_OrderPaper_init (hr.mono (by decide)) rfl (pa_cons (pe_fld (pv 4) rfl) (pa_cons (pv 5) (pa_cons (pv 6) (pa_cons (pe_fld (pv 7) rfl) (pa_cons (pv 8) (pa_cons (pv 12) pa_nil))))))))
      (pss_one (ps_ret (pe_mk G_OrderAnswer_init (hr.mono (by decide)) rfl (pa_cons pe_bl (pa_cons (pv 13) (pa_cons pe_non (pa_cons pe_non (pa_cons pe_non pa_nil)))))))))
      pss_nil)
      (pss_cons (ps_asg (pe_mt0 (pv 7) G_Search_history (hr.mono (by decide))) (pg_tup rfl (pgs_cons (pg_name (i := 14) sc.nd rfl (Or.inl rfl)) (pgs_cons (pg_name (i := 15) sc.nd rfl (Or.inl rfl)) pgs_nil))))
      (pss_cons (ps_set (i := 16) sc.nd rfl (Or.inl rfl) (pe_fld (pv 7) rfl))
      (pss_cons (ps_while PassesOwn.never (pt_cmp (pc_notN (pe_ix ix_list (pe_fld (pv 7) rfl) (pv 16) (fun _ _ => rfl)))) (pss_one (ps_set (i := 16) sc.nd rfl (Or.inl rfl) (pe_ix ix_tup (pe_ix ix_list (pe_fld (pv 7) rfl) (pv 16) (fun _ _ => rfl)) (pe_nat 1) (fun _ _ => rfl)))))
      (pss_one (ps_ret (pe_mk G_OrderAnswer_init (hr.mono (by decide)) rfl (pa_cons pe_bl (pa_cons pe_non (pa_cons (pv 14) (pa_cons (pe_op op_cat (pv 15) (pe_cl G_way (hr.mono (by decide)) rfl (pa_cons (pv 4) (pa_cons (pe_ix ix_list (pv 9) (pv 16) (fun _ _ => rfl)) pa_nil)))) (pa_cons (pe_callB cl_lenS rfl T.b_len PySem.boot_len (pa_cons (pv 15) pa_nil)) pa_nil))))))))))))))))))))))))
abbrev s_l_cell : Stmt := top 38
theorem sc_l_cell : FnScope ["_law_script", "_law_k"] ["_law_script", "_law_k"] (defScope s_l_cell) := ⟨rfl, rfl, rfl, by decide +kernel, rfl, by decide +kernel, by decide +kernel⟩
theorem ok_l_cell (T : Gs K mg) (F : FunD K "_law_cell" "_law_cell" (defArgs s_l_cell) (defBody s_l_cell) (defScope s_l_cell) [] [] f fd)
    (R : ∀ (vs : List V) (H : Hp) (Q : VK) (E : XK), (spCell K) vs H Q E → t_l_cell K { nx := fun _ H1 => Q .non H1, rt := Q } (start ["_law_script", "_law_k"] vs) H) : FnOk P w K mg base CX0 1 f fd ["_law_script", "_law_k"] (spCell K) := by
  refine F.ok sc_l_cell (fun vs H Q E h => ?_) (fun cdv A outer s H vs Q E hr h => ⟨t_l_cell K, PSs.nox ?_, R vs H Q E h⟩)
  · obtain ⟨_, _, _, rfl, _⟩ := h
    rfl
  · have sc := sc_l_cell
    exact (pss_cons (ps_if (pt_cmpR opn_lt (pv 1) (pe_callB cl_lenS rfl T.b_len PySem.boot_len (pa_cons (pv 0) pa_nil)) (nomark _)) (pss_one (ps_ret (pe_callTy cl_int rfl T.b_int PyProof.Rows.boot_int (pa_cons (pe_ix ix_list (pv 0) (pv 1) (fun _ _ => rfl)) pa_nil))))
      pss_nil)
      (pss_one (ps_ret (pe_nat 0))))
abbrev s_l_mix : Stmt := top 39
theorem sc_l_mix : FnScope ["_law_cell_here", "_law_k", "_law_number"] ["_law_cell_here", "_law_k"] (defScope s_l_mix) := ⟨rfl, rfl, rfl, by decide +kernel, rfl, by decide +kernel, by decide +kernel⟩
theorem ok_l_mix (T : Gs K mg) (F : FunD K "_law_mix" "_law_mix" (defArgs s_l_mix) (defBody s_l_mix) (defScope s_l_mix) [] [] f fd)
    (R : ∀ (vs : List V) (H : Hp) (Q : VK) (E : XK), (spMix) vs H Q E → t_l_mix K { nx := fun _ H1 => Q .non H1, rt := Q } (start ["_law_cell_here", "_law_k", "_law_number"] vs) H) : FnOk P w K mg base CX0 1 f fd ["_law_cell_here", "_law_k"] (spMix) := by
  refine F.ok sc_l_mix (fun vs H Q E h => ?_) (fun cdv A outer s H vs Q E hr h => ⟨t_l_mix K, PSs.nox ?_, R vs H Q E h⟩)
  · obtain ⟨_, _, rfl, _⟩ := h
    rfl
  · have sc := sc_l_mix
    exact (pss_cons (ps_set (i := 2) sc.nd rfl (Or.inl rfl) (pe_op op_modI (pe_callTy cl_int rfl T.b_int PyProof.Rows.boot_int (pa_cons (pe_op op_add (pe_op op_add (pe_op op_mul (pv 0) (pe_nat 48271)) (pe_op opn_mul (pv 1) (pe_nat 69621))) (pe_nat 12345)) pa_nil)) (pe_nat 2147483647)))
      (pss_cons (ps_set (i := 2) sc.nd rfl (Or.inl rfl) (pe_op op_modI (pe_callTy cl_int rfl T.b_int PyProof.Rows.boot_int (pa_cons (pe_op opn_add (pe_op opn_add (pe_op opn_mul (pv 2) (pe_nat 16807)) (pe_op opn_mul (pv 1) (pe_nat 40692))) (pe_nat 777)) pa_nil)) (pe_nat 2147483629)))
      (pss_one (ps_ret (pe_op opn_div (pv 2) (pe_nat 997))))))
abbrev s_l_is_int : Stmt := top 41
theorem sc_l_is_int : FnScope ["_law_value"] ["_law_value"] (defScope s_l_is_int) := ⟨rfl, rfl, rfl, by decide +kernel, rfl, by decide +kernel, by decide +kernel⟩
theorem ok_l_is_int (T : Gs K mg) (F : FunD K "_law_is_int" "_law_is_int" (defArgs s_l_is_int) (defBody s_l_is_int) (defScope s_l_is_int) [] [] f fd)
    (R : ∀ (vs : List V) (H : Hp) (Q : VK) (E : XK), (spIsInt) vs H Q E → t_l_is_int K { nx := fun _ H1 => Q .non H1, rt := Q } (start ["_law_value"] vs) H) : FnOk P w K mg base CX0 1 f fd ["_law_value"] (spIsInt) := by
  refine F.ok sc_l_is_int (fun vs H Q E h => ?_) (fun cdv A outer s H vs Q E hr h => ⟨t_l_is_int K, PSs.nox ?_, R vs H Q E h⟩)
  · obtain ⟨_, rfl, _⟩ := h
    rfl
  · have sc := sc_l_is_int
    exact (pss_one (ps_ret (pe_and (pe_callB (cl_isi (n := "int")) rfl T.b_isinstance PyProof.Rows.boot_isinstance (pa_cons (pv 0) (pa_cons (pe_ty T.b_int PyProof.Rows.boot_int rfl) pa_nil))) (pe_one (pe_not (pe_callB (cl_isi (n := "bool")) rfl T.b_isinstance PyProof.Rows.boot_isinstance (pa_cons (pv 0) (pa_cons (pe_ty T.b_bool PyProof.Rows.boot_bool rfl) pa_nil))))))))
abbrev s_l_mask : Stmt := top 42
theorem sc_l_mask : FnScope ["_law_number", "_law_size"] ["_law_number", "_law_size"] (defScope s_l_mask) := ⟨rfl, rfl, rfl, by decide +kernel, rfl, by decide +kernel, by decide +kernel⟩
theorem ok_l_mask (T : Gs K mg) (F : FunD K "_law_mask" "_law_mask" (defArgs s_l_mask) (defBody s_l_mask) (defScope s_l_mask) [] [] f fd)
    (R : ∀ (vs : List V) (H : Hp) (Q : VK) (E : XK), (spMask) vs H Q E → t_l_mask K { nx := fun _ H1 => Q .non H1, rt := Q } (start ["_law_number", "_law_size"] vs) H) : FnOk P w K mg base CX0 1 f fd ["_law_number", "_law_size"] (spMask) := by
  refine F.ok sc_l_mask (fun vs H Q E h => ?_) (fun cdv A outer s H vs Q E hr h => ⟨t_l_mask K, PSs.nox ?_, R vs H Q E h⟩)
  · obtain ⟨_, _, rfl, _⟩ := h
    rfl
  · have sc := sc_l_mask
    exact (pss_one (ps_ret (pe_op opn_add (pe_nat 1) (pe_op opn_mod (pv 0) (pe_op opn_sub (pe_op opn_shl (pe_nat 1) (pv 1)) (pe_nat 1))))))
abbrev s_l_deed : Stmt := top 43
theorem sc_l_deed : FnScope ["_law_cell_here", "_law_sizes", "_law_number", "_law_count", "_law_guard", "_law_changes", "_law_k", "_law_kind", "_law_other"] ["_law_cell_here", "_law_sizes", "_law_number"] (defScope s_l_deed) := ⟨rfl, rfl, rfl, by decide +kernel, rfl, by decide +kernel, by decide +kernel⟩
theorem ok_l_deed (T : Gs K mg) (F : FunD K "_law_deed" "_law_deed" (defArgs s_l_deed) (defBody s_l_deed) (defScope s_l_deed) [] [] f fd) (G_l_mask : GD P w K mg base "_law_mask" 1 ["_law_number", "_law_size"] (spMask)) (G_l_mix : GD P w K mg base "_law_mix" 1 ["_law_cell_here", "_law_k"] (spMix))
    (R : ∀ (vs : List V) (H : Hp) (Q : VK) (E : XK), (lDeed) vs H Q E → t_l_deed K { nx := fun _ H1 => Q .non H1, rt := Q } (start ["_law_cell_here", "_law_sizes", "_law_number", "_law_count", "_law_guard", "_law_changes", "_law_k", "_law_kind", "_law_other"] vs) H) : FnOk P w K mg base CX0 2 f fd ["_law_cell_here", "_law_sizes", "_law_number"] (lDeed) := by
  refine F.ok sc_l_deed (fun vs H Q E h => ?_) (fun cdv A outer s H vs Q E hr h => ⟨t_l_deed K, PSs.nox ?_, R vs H Q E h⟩)
  · obtain ⟨_, _, _, _, rfl, _⟩ := h
    rfl
  · have sc := sc_l_deed
    exact (pss_cons (ps_set (i := 3) sc.nd rfl (Or.inl rfl) (pe_callB cl_lenS rfl T.b_len PySem.boot_len (pa_cons (pv 1) pa_nil)))
      (pss_cons (ps_set (i := 4) sc.nd rfl (Or.inl rfl) (pe_lst pa_nil))
      (pss_cons (ps_set (i := 5) sc.nd rfl (Or.inl rfl) (pe_lst pa_nil))
      (pss_cons (ps_for PassesOwn.never rfl (pi_range1 rfl T.b_range (pa_cons (pv 3) pa_nil)) (pg_name (i := 6) sc.nd rfl (Or.inl rfl))
      (pss_cons (ps_if (pt_cmpR opn_lt (pe_op opn_mod (pe_cl G_l_mix (hr.mono (by decide)) rfl (pa_cons (pv 0) (pa_cons (pe_op opn_mul (pe_nat 4) (pv 6)) pa_nil))) (pe_nat 5)) (pe_nat 2) (nomark _)) (pss_one (ps_expr (pe_bm PySem.F.plainAttrs_list PySem.F.slot_list_append PySem.F.type_list_append mt_append (pv 4) (pa_cons (pe_tup (pa_cons (pv 6) (pa_cons (pe_cl G_l_mask (hr.mono (by decide)) rfl (pa_cons (pe_cl G_l_mix (hr.mono (by decide)) rfl (pa_cons (pv 0) (pa_cons (pe_op opn_add (pe_op opn_mul (pe_nat 4) (pv 6)) (pe_nat 1)) pa_nil))) (pa_cons (pe_ix ix_list (pv 1) (pv 6) (fun _ _ => rfl)) pa_nil))) pa_nil))) pa_nil))))
      pss_nil)
      (pss_cons (ps_set (i := 7) sc.nd rfl (Or.inl rfl) (pe_op opn_mod (pe_cl G_l_mix (hr.mono (by decide)) rfl (pa_cons (pv 0) (pa_cons (pe_op opn_add (pe_op opn_mul (pe_nat 4) (pv 6)) (pe_nat 2)) pa_nil))) (pe_nat 6)))
      (pss_cons (ps_set (i := 8) sc.nd rfl (Or.inl rfl) (pe_op opn_mod (pe_cl G_l_mix (hr.mono (by decide)) rfl (pa_cons (pv 0) (pa_cons (pe_op opn_add (pe_op opn_mul (pe_nat 4) (pv 6)) (pe_nat 3)) pa_nil))) (pv 3)))
      (pss_one (ps_if (pt_cmpR opn_lt (pv 7) (pe_nat 2) (nomark _)) (pss_one (ps_expr (pe_bm PySem.F.plainAttrs_list PySem.F.slot_list_append PySem.F.type_list_append mt_append (pv 5) (pa_cons (pe_tup (pa_cons (pv 6) (pa_cons (pe_tup (pa_cons pe_str (pa_cons (pe_op opn_mod (pe_cl G_l_mix (hr.mono (by decide)) rfl (pa_cons (pv 0) (pa_cons (pe_op opn_add (pe_op opn_mul (pe_nat 4) (pv 6)) (pe_nat 3)) pa_nil))) (pe_ix ix_list (pv 1) (pv 6) (fun _ _ => rfl))) pa_nil))) pa_nil))) pa_nil))))
      (pss_one (ps_if (PW.pt (pw_and (pt_cmpR opn_eq (pv 7) (pe_nat 2) (nomark _)) (pw_and1 (pt_cmpR opn_le (pe_ix ix_list (pv 1) (pv 8) (fun _ _ => rfl)) (pe_ix ix_list (pv 1) (pv 6) (fun _ _ => rfl)) (nomark _))))) (pss_one (ps_expr (pe_bm PySem.F.plainAttrs_list PySem.F.slot_list_append PySem.F.type_list_append mt_append (pv 5) (pa_cons (pe_tup (pa_cons (pv 6) (pa_cons (pe_tup (pa_cons pe_str (pa_cons (pv 8) pa_nil))) pa_nil))) pa_nil))))
      pss_nil))))))))
      (pss_one (ps_ret (pe_tup (pa_cons (pe_op op_addS1 pe_str (pe_callTy cl_str rfl T.b_str PyProof.Rows.boot_str (pa_cons (pv 2) pa_nil))) (pa_cons (pe_callTy cl_tup rfl T.b_tuple PyProof.Rows.boot_tuple (pa_cons (pv 4) pa_nil)) (pa_cons (pe_callTy cl_tup rfl T.b_tuple PyProof.Rows.boot_tuple (pa_cons (pv 5) pa_nil)) pa_nil))))))))))
abbrev s_l_parts : Stmt := top 44
theorem sc_l_parts : FnScope ["_law_script", "_law_first", "_law_most", "_law_count", "_law_sizes", "_law_cells", "_law_deeds", "_law_k", "_law_initial", "_law_mask_here"] ["_law_script", "_law_first", "_law_most"] (defScope s_l_parts) := ⟨rfl, rfl, rfl, by decide +kernel, rfl, by decide +kernel, by decide +kernel⟩
theorem ok_l_parts (T : Gs K mg) (F : FunD K "_law_parts" "_law_parts" (defArgs s_l_parts) (defBody s_l_parts) (defScope s_l_parts) [] [] f fd) (G_l_cell : GD P w K mg base "_law_cell" 1 ["_law_script", "_law_k"] (spCell K)) (G_l_deed : GD P w K mg base "_law_deed" 2 ["_law_cell_here", "_law_sizes", "_law_number"] (lDeed)) (G_l_mask : GD P w K mg base "_law_mask" 1 ["_law_number", "_law_size"] (spMask)) (G_l_mix : GD P w K mg base "_law_mix" 1 ["_law_cell_here", "_law_k"] (spMix))
    (R : ∀ (vs : List V) (H : Hp) (Q : VK) (E : XK), (lParts K) vs H Q E → t_l_parts K { nx := fun _ H1 => Q .non H1, rt := Q } (start ["_law_script", "_law_first", "_law_most", "_law_count", "_law_sizes", "_law_cells", "_law_deeds", "_law_k", "_law_initial", "_law_mask_here"] vs) H) : FnOk P w K mg base CX0 3 f fd ["_law_script", "_law_first", "_law_most"] (lParts K) := by
  refine F.ok sc_l_parts (fun vs H Q E h => ?_) (fun cdv A outer s H vs Q E hr h => ⟨t_l_parts K, PSs.nox ?_, R vs H Q E h⟩)
  · obtain ⟨_, _, rfl, _⟩ := h
    rfl
  · have sc := sc_l_parts
    exact (pss_cons (ps_set (i := 3) sc.nd rfl (Or.inl rfl) (pe_op opn_add (pe_nat 1) (pe_op op_modI (pe_cl G_l_cell (hr.mono (by decide)) rfl (pa_cons (pv 0) (pa_cons (pv 1) pa_nil))) (pe_nat 4))))
      (pss_cons (ps_set (i := 4) sc.nd rfl (Or.inr rfl) (pe_lc (own := [("_law_k", 7)]) rfl sc.nd (pi_range1 rfl T.b_range (pa_cons (pv 3) pa_nil)) (blkOk_by (N := ["_law_script", "_law_first", "_law_most", "_law_count", "_law_sizes", "_law_cells", "_law_deeds", "_law_k", "_law_initial", "_law_mask_here"]) (sc := defScope s_l_parts) (by decide +kernel)) (fun _ _ _ _ _ => (pg_name (i := 7) sc.nd rfl (Or.inl rfl))) (fun _ _ _ _ _ => pts_nil) (fun _ _ _ _ _ => (pe_op opn_add (pe_nat 1) (pe_op opn_mod (pe_cl G_l_mix (hr.mono (by decide)) rfl (pa_cons (pe_cl G_l_cell (hr.mono (by decide)) rfl (pa_cons (pv 0) (pa_cons (pv 1) pa_nil))) (pa_cons (pv 7) pa_nil))) (pe_nat 3))))))
      (pss_cons (ps_setLc (i := 5) (own := [("_law_k", 7)]) rfl sc.nd rfl rfl (sw_true rfl rfl rfl (by decide +kernel)) (pi_range1 rfl T.b_range (pa_cons (pv 3) pa_nil)) (blkOk_by (N := ["_law_script", "_law_first", "_law_most", "_law_count", "_law_sizes", "_law_cells", "_law_deeds", "_law_k", "_law_initial", "_law_mask_here"]) (sc := defScope s_l_parts) (by decide +kernel)) (fun _ _ _ _ _ => (pg_name (i := 7) sc.nd rfl (Or.inl rfl))) (fun _ _ _ _ _ => pts_nil) (fun _ _ _ _ _ => (pe_tup (pa_cons (pe_ix ix_str pe_str (pv 7) (fun _ _ => rfl)) (pa_cons (pe_ix ix_list (pv 4) (pv 7) (fun _ _ => rfl)) pa_nil)))))
      (pss_cons (ps_set (i := 6) sc.nd rfl (Or.inl rfl) (pe_lst pa_nil))
      (pss_cons (ps_for PassesOwn.never rfl (pi_range1 rfl T.b_range (pa_cons (pe_op op_modI (pe_cl G_l_cell (hr.mono (by decide)) rfl (pa_cons (pv 0) (pa_cons (pe_op opn_add (pv 1) (pe_nat 1)) pa_nil))) (pe_op opn_add (pv 2) (pe_nat 1))) pa_nil)) (pg_name (i := 7) sc.nd rfl (Or.inl rfl))
      (pss_one (ps_expr (pe_bm PySem.F.plainAttrs_list PySem.F.slot_list_append PySem.F.type_list_append mt_append (pv 6) (pa_cons (pe_cl G_l_deed (hr.mono (by decide)) rfl (pa_cons (pe_cl G_l_cell (hr.mono (by decide)) rfl (pa_cons (pv 0) (pa_cons (pe_op opn_add (pe_op opn_add (pv 1) (pe_nat 2)) (pv 7)) pa_nil))) (pa_cons (pv 4) (pa_cons (pv 7) pa_nil)))) pa_nil)))))
      (pss_cons (ps_set (i := 8) sc.nd rfl (Or.inl rfl) (pe_lst pa_nil))
      (pss_cons (ps_for PassesOwn.never rfl (pi_range1 rfl T.b_range (pa_cons (pv 3) pa_nil)) (pg_name (i := 7) sc.nd rfl (Or.inl rfl))
      (pss_cons (ps_set (i := 9) sc.nd rfl (Or.inl rfl) (pe_cl G_l_mask (hr.mono (by decide)) rfl (pa_cons (pe_cl G_l_mix (hr.mono (by decide)) rfl (pa_cons (pe_cl G_l_cell (hr.mono (by decide)) rfl (pa_cons (pv 0) (pa_cons (pe_op opn_add (pv 1) (pe_nat 1)) pa_nil))) (pa_cons (pv 7) pa_nil))) (pa_cons (pe_ix ix_list (pv 4) (pv 7) (fun _ _ => rfl)) pa_nil))))
      (pss_cons (ps_if (pt_cmpR opn_eq (pe_op op_modI (pe_op op_fdiv (pe_cl G_l_cell (hr.mono (by decide)) rfl (pa_cons (pv 0) (pa_cons (pe_op opn_add (pv 1) (pe_nat 1)) pa_nil))) (pe_nat 64)) (pe_nat 2)) (pe_nat 1) (nomark _)) (pss_one (ps_set (i := 9) sc.nd rfl (Or.inl rfl) (pe_op opn_shl (pe_nat 1) (pe_op opn_mod (pe_cl G_l_mix (hr.mono (by decide)) rfl (pa_cons (pe_cl G_l_cell (hr.mono (by decide)) rfl (pa_cons (pv 0) (pa_cons (pe_op opn_add (pv 1) (pe_nat 1)) pa_nil))) (pa_cons (pv 7) pa_nil))) (pe_ix ix_list (pv 4) (pv 7) (fun _ _ => rfl))))))
      pss_nil)
      (pss_one (ps_expr (pe_bm PySem.F.plainAttrs_list PySem.F.slot_list_append PySem.F.type_list_append mt_append (pv 8) (pa_cons (pv 9) pa_nil)))))))
      (pss_one (ps_ret (pe_tup (pa_cons (pv 5) (pa_cons (pv 6) (pa_cons (pe_callTy cl_tup rfl T.b_tuple PyProof.Rows.boot_tuple (pa_cons (pv 8) pa_nil)) pa_nil)))))))))))))
abbrev s_l_sketch : Stmt := top 45
theorem sc_l_sketch : FnScope ["_law_cell_here", "_law_sizes", "_law_masks", "_law_k", "_law_number", "_law_mask_here"] ["_law_cell_here", "_law_sizes"] (defScope s_l_sketch) := ⟨rfl, rfl, rfl, by decide +kernel, rfl, by decide +kernel, by decide +kernel⟩
theorem ok_l_sketch (T : Gs K mg) (F : FunD K "_law_sketch" "_law_sketch" (defArgs s_l_sketch) (defBody s_l_sketch) (defScope s_l_sketch) [] [] f fd) (G_l_mask : GD P w K mg base "_law_mask" 1 ["_law_number", "_law_size"] (spMask)) (G_l_mix : GD P w K mg base "_law_mix" 1 ["_law_cell_here", "_law_k"] (spMix))
    (R : ∀ (vs : List V) (H : Hp) (Q : VK) (E : XK), (lSketch) vs H Q E → t_l_sketch K { nx := fun _ H1 => Q .non H1, rt := Q } (start ["_law_cell_here", "_law_sizes", "_law_masks", "_law_k", "_law_number", "_law_mask_here"] vs) H) : FnOk P w K mg base CX0 2 f fd ["_law_cell_here", "_law_sizes"] (lSketch) := by
  refine F.ok sc_l_sketch (fun vs H Q E h => ?_) (fun cdv A outer s H vs Q E hr h => ⟨t_l_sketch K, PSs.nox ?_, R vs H Q E h⟩)
  · obtain ⟨_, _, _, rfl, _⟩ := h
    rfl
  · have sc := sc_l_sketch
    exact (pss_cons (ps_set (i := 2) sc.nd rfl (Or.inl rfl) (pe_lst pa_nil))
      (pss_cons (ps_for PassesOwn.never rfl (pi_range1 rfl T.b_range (pa_cons (pe_callB cl_lenS rfl T.b_len PySem.boot_len (pa_cons (pv 1) pa_nil)) pa_nil)) (pg_name (i := 3) sc.nd rfl (Or.inl rfl))
      (pss_cons (ps_set (i := 4) sc.nd rfl (Or.inl rfl) (pe_cl G_l_mix (hr.mono (by decide)) rfl (pa_cons (pv 0) (pa_cons (pe_op opn_mul (pe_nat 3) (pv 3)) pa_nil))))
      (pss_cons (ps_set (i := 5) sc.nd rfl (Or.inl rfl) (pe_cl G_l_mask (hr.mono (by decide)) rfl (pa_cons (pv 4) (pa_cons (pe_ix ix_list (pv 1) (pv 3) (fun _ _ => rfl)) pa_nil))))
      (pss_cons (ps_if (pt_cmpR opn_eq (pe_op opn_mod (pe_op opn_div (pv 4) (pe_nat 16)) (pe_nat 3)) (pe_nat 0) (nomark _)) (pss_one (ps_set (i := 5) sc.nd rfl (Or.inl rfl) (pe_op opn_sub (pe_op opn_shl (pe_nat 1) (pe_ix ix_list (pv 1) (pv 3) (fun _ _ => rfl))) (pe_nat 1))))
      pss_nil)
      (pss_cons (ps_if (pt_cmpR opn_eq (pe_op op_modI (pv 0) (pe_nat 4)) (pe_nat 1) (nomark _)) (pss_one (ps_set (i := 5) sc.nd rfl (Or.inl rfl) (pe_op opn_shl (pe_nat 1) (pe_op opn_mod (pv 4) (pe_ix ix_list (pv 1) (pv 3) (fun _ _ => rfl))))))
      pss_nil)
      (pss_one (ps_expr (pe_bm PySem.F.plainAttrs_list PySem.F.slot_list_append PySem.F.type_list_append mt_append (pv 2) (pa_cons (pv 5) pa_nil)))))))))
      (pss_one (ps_ret (pe_callTy cl_tup rfl T.b_tuple PyProof.Rows.boot_tuple (pa_cons (pv 2) pa_nil))))))
abbrev s_l_piece : Stmt := top 46
theorem sc_l_piece : FnScope ["_law_cell_here", "_law_sizes", "_law_k"] ["_law_cell_here", "_law_sizes"] (defScope s_l_piece) := ⟨rfl, rfl, rfl, by decide +kernel, rfl, by decide +kernel, by decide +kernel⟩
theorem ok_l_piece (T : Gs K mg) (F : FunD K "_law_piece" "_law_piece" (defArgs s_l_piece) (defBody s_l_piece) (defScope s_l_piece) [] [] f fd) (G_l_sketch : GD P w K mg base "_law_sketch" 2 ["_law_cell_here", "_law_sizes"] (lSketch))
    (R : ∀ (vs : List V) (H : Hp) (Q : VK) (E : XK), (lPiece) vs H Q E → t_l_piece K { nx := fun _ H1 => Q .non H1, rt := Q } (start ["_law_cell_here", "_law_sizes", "_law_k"] vs) H) : FnOk P w K mg base CX0 3 f fd ["_law_cell_here", "_law_sizes"] (lPiece) := by
  refine F.ok sc_l_piece (fun vs H Q E h => ?_) (fun cdv A outer s H vs Q E hr h => ⟨t_l_piece K, PSs.nox ?_, R vs H Q E h⟩)
  · obtain ⟨_, _, _, rfl, _⟩ := h
    rfl
  · have sc := sc_l_piece
    exact (pss_one (ps_ret (pe_lc (own := [("_law_k", 2)]) rfl sc.nd (pi_range1 rfl T.b_range (pa_cons (pe_ix ix_tup (pe_tup (pa_cons (pe_nat 0) (pa_cons (pe_nat 1) (pa_cons (pe_nat 1) (pa_cons (pe_nat 2) pa_nil))))) (pe_op op_modI (pv 0) (pe_nat 4)) (fun _ _ => rfl)) pa_nil)) (blkOk_by (N := ["_law_cell_here", "_law_sizes", "_law_k"]) (sc := defScope s_l_piece) (by decide +kernel)) (fun _ _ _ _ _ => (pg_name (i := 2) sc.nd rfl (Or.inl rfl))) (fun _ _ _ _ _ => pts_nil) (fun _ _ _ _ _ => (pe_cl G_l_sketch (hr.mono (by decide)) rfl (pa_cons (pe_op op_add (pe_op op_fdiv (pv 0) (pe_nat 3)) (pe_op opn_mul (pe_nat 1000) (pv 2))) (pa_cons (pv 1) pa_nil)))))))
abbrev s_l_in : Stmt := top 47
theorem sc_l_in : FnScope ["_law_sketch_here", "_law_disk", "_law_mask_here", "_law_value"] ["_law_sketch_here", "_law_disk"] (defScope s_l_in) := ⟨rfl, rfl, rfl, by decide +kernel, rfl, by decide +kernel, by decide +kernel⟩
theorem ok_l_in (T : Gs K mg) (F : FunD K "_law_in" "_law_in" (defArgs s_l_in) (defBody s_l_in) (defScope s_l_in) [] [] f fd)
    (R : ∀ (vs : List V) (H : Hp) (Q : VK) (E : XK), (lIn) vs H Q E → t_l_in K { nx := fun _ H1 => Q .non H1, rt := Q } (start ["_law_sketch_here", "_law_disk", "_law_mask_here", "_law_value"] vs) H) : FnOk P w K mg base CX0 1 f fd ["_law_sketch_here", "_law_disk"] (lIn) := by
  refine F.ok sc_l_in (fun vs H Q E h => ?_) (fun cdv A outer s H vs Q E hr h => ⟨t_l_in K, PSs.nox ?_, R vs H Q E h⟩)
  · obtain ⟨_, _, _, _, rfl, _⟩ := h
    rfl
  · have sc := sc_l_in
    exact (pss_cons (ps_for PassesOwn.never rfl (RZ.pi_zipA rfl T.b_zip (pa_cons (pv 0) (pa_cons (pv 1) pa_nil))) (pg_tup rfl (pgs_cons (pg_name (i := 2) sc.nd rfl (Or.inl rfl)) (pgs_cons (pg_name (i := 3) sc.nd rfl (Or.inl rfl)) pgs_nil)))
      (pss_one (ps_if (pt_cmpR opn_eq (pe_op opn_and (pe_op opn_shr (pv 2) (pv 3)) (pe_nat 1)) (pe_nat 0) (nomark _)) (pss_one (ps_ret pe_bl))
      pss_nil)))
      (pss_one (ps_ret pe_bl)))
abbrev s_l_has : Stmt := top 48
theorem sc_l_has : FnScope ["_law_piece_here", "_law_disk", "_law_sketch_here"] ["_law_piece_here", "_law_disk"] (defScope s_l_has) := ⟨rfl, rfl, rfl, by decide +kernel, rfl, by decide +kernel, by decide +kernel⟩
theorem ok_l_has (T : Gs K mg) (F : FunD K "_law_has" "_law_has" (defArgs s_l_has) (defBody s_l_has) (defScope s_l_has) [] [] f fd) (G_l_in : GD P w K mg base "_law_in" 1 ["_law_sketch_here", "_law_disk"] (lIn))
    (R : ∀ (vs : List V) (H : Hp) (Q : VK) (E : XK), (lHas) vs H Q E → t_l_has K { nx := fun _ H1 => Q .non H1, rt := Q } (start ["_law_piece_here", "_law_disk", "_law_sketch_here"] vs) H) : FnOk P w K mg base CX0 2 f fd ["_law_piece_here", "_law_disk"] (lHas) := by
  refine F.ok sc_l_has (fun vs H Q E h => ?_) (fun cdv A outer s H vs Q E hr h => ⟨t_l_has K, PSs.nox ?_, R vs H Q E h⟩)
  · obtain ⟨_, _, _, _, rfl, _⟩ := h
    rfl
  · have sc := sc_l_has
    exact (pss_cons (ps_for PassesOwn.never rfl (pi_list (pv 0)) (pg_name (i := 2) sc.nd rfl (Or.inl rfl))
      (pss_one (ps_if (pt_val (pe_cl G_l_in (hr.mono (by decide)) rfl (pa_cons (pv 2) (pa_cons (pv 1) pa_nil)))) (pss_one (ps_ret pe_bl))
      pss_nil)))
      (pss_one (ps_ret pe_bl)))
abbrev s_l_disks : Stmt := top 49
theorem sc_l_disks : FnScope ["_law_sketch_here", "_law_disks_here", "_law_mask_here", "_law_longer", "_law_disk", "_law_value"] ["_law_sketch_here"] (defScope s_l_disks) := ⟨rfl, rfl, rfl, by decide +kernel, rfl, by decide +kernel, by decide +kernel⟩
theorem ok_l_disks (T : Gs K mg) (F : FunD K "_law_disks" "_law_disks" (defArgs s_l_disks) (defBody s_l_disks) (defScope s_l_disks) [] [] f fd)
    (R : ∀ (vs : List V) (H : Hp) (Q : VK) (E : XK), (lDisks) vs H Q E → t_l_disks K { nx := fun _ H1 => Q .non H1, rt := Q } (start ["_law_sketch_here", "_law_disks_here", "_law_mask_here", "_law_longer", "_law_disk", "_law_value"] vs) H) : FnOk P w K mg base CX0 1 f fd ["_law_sketch_here"] (lDisks) := by
  refine F.ok sc_l_disks (fun vs H Q E h => ?_) (fun cdv A outer s H vs Q E hr h => ⟨t_l_disks K, PSs.nox ?_, R vs H Q E h⟩)
  · obtain ⟨_, _, rfl, _⟩ := h
    rfl
  · have sc := sc_l_disks
    exact (pss_cons (ps_set (i := 1) sc.nd rfl (Or.inl rfl) (pe_lst (pa_cons (pe_tup pa_nil) pa_nil)))
      (pss_cons (ps_for PassesOwn.never rfl (pi_tup (pv 0)) (pg_name (i := 2) sc.nd rfl (Or.inl rfl))
      (pss_cons (ps_set (i := 3) sc.nd rfl (Or.inl rfl) (pe_lst pa_nil))
      (pss_cons (ps_for PassesOwn.never rfl (pi_list (pv 1)) (pg_name (i := 4) sc.nd rfl (Or.inl rfl))
      (pss_one (ps_for PassesOwn.never rfl (pi_range1 rfl T.b_range (pa_cons (pe_nat 16) pa_nil)) (pg_name (i := 5) sc.nd rfl (Or.inl rfl))
      (pss_one (ps_if (pt_cmpR opn_eq (pe_op opn_and (pe_op opn_shr (pv 2) (pv 5)) (pe_nat 1)) (pe_nat 1) (nomark _)) (pss_one (ps_expr (pe_bm PySem.F.plainAttrs_list PySem.F.slot_list_append PySem.F.type_list_append mt_append (pv 3) (pa_cons (pe_op op_catA (pv 4) (pe_tup (pa_cons (pv 5) pa_nil))) pa_nil))))
      pss_nil)))))
      (pss_one (ps_set (i := 1) sc.nd rfl (Or.inl rfl) (pv 3))))))
      (pss_one (ps_ret (pv 1)))))
abbrev s_l_can : Stmt := top 50
theorem sc_l_can : FnScope ["_law_deeds", "_law_disk", "_law_deed_here", "_law_cell_here", "_law_mask_here"] ["_law_deeds", "_law_disk", "_law_deed_here"] (defScope s_l_can) := ⟨rfl, rfl, rfl, by decide +kernel, rfl, by decide +kernel, by decide +kernel⟩
theorem ok_l_can (T : Gs K mg) (F : FunD K "_law_can" "_law_can" (defArgs s_l_can) (defBody s_l_can) (defScope s_l_can) [] [] f fd)
    (R : ∀ (vs : List V) (H : Hp) (Q : VK) (E : XK), (lCan) vs H Q E → t_l_can K { nx := fun _ H1 => Q .non H1, rt := Q } (start ["_law_deeds", "_law_disk", "_law_deed_here", "_law_cell_here", "_law_mask_here"] vs) H) : FnOk P w K mg base CX0 1 f fd ["_law_deeds", "_law_disk", "_law_deed_here"] (lCan) := by
  refine F.ok sc_l_can (fun vs H Q E h => ?_) (fun cdv A outer s H vs Q E hr h => ⟨t_l_can K, PSs.nox ?_, R vs H Q E h⟩)
  · obtain ⟨_, _, _, _, _, _, rfl, _⟩ := h
    rfl
  · have sc := sc_l_can
    exact (pss_cons (ps_for PassesOwn.never rfl (pi_tup (pe_ix ix_tup (pe_ix ix_list (pv 0) (pv 2) (fun _ _ => rfl)) (pe_nat 1) (fun _ _ => rfl))) (pg_tup rfl (pgs_cons (pg_name (i := 3) sc.nd rfl (Or.inl rfl)) (pgs_cons (pg_name (i := 4) sc.nd rfl (Or.inl rfl)) pgs_nil)))
      (pss_one (ps_if (pt_cmpR opn_eq (pe_op opn_and (pe_op opn_shr (pv 4) (pe_ix ix_tup (pv 1) (pv 3) (fun _ _ => rfl))) (pe_nat 1)) (pe_nat 0) (nomark _)) (pss_one (ps_ret pe_bl))
      pss_nil)))
      (pss_one (ps_ret pe_bl)))
abbrev s_l_after : Stmt := top 51
theorem sc_l_after : FnScope ["_law_deeds", "_law_disk", "_law_deed_here", "_law_values", "_law_cell_here", "_law_source"] ["_law_deeds", "_law_disk", "_law_deed_here"] (defScope s_l_after) := ⟨rfl, rfl, rfl, by decide +kernel, rfl, by decide +kernel, by decide +kernel⟩
theorem ok_l_after (T : Gs K mg) (F : FunD K "_law_after" "_law_after" (defArgs s_l_after) (defBody s_l_after) (defScope s_l_after) [] [] f fd)
    (R : ∀ (vs : List V) (H : Hp) (Q : VK) (E : XK), (lAfter) vs H Q E → t_l_after K { nx := fun _ H1 => Q .non H1, rt := Q } (start ["_law_deeds", "_law_disk", "_law_deed_here", "_law_values", "_law_cell_here", "_law_source"] vs) H) : FnOk P w K mg base CX0 1 f fd ["_law_deeds", "_law_disk", "_law_deed_here"] (lAfter) := by
  refine F.ok sc_l_after (fun vs H Q E h => ?_) (fun cdv A outer s H vs Q E hr h => ⟨t_l_after K, PSs.nox ?_, R vs H Q E h⟩)
  · obtain ⟨_, _, _, _, _, _, _, rfl, _⟩ := h
    rfl
  · have sc := sc_l_after
    exact (pss_cons (ps_set (i := 3) sc.nd rfl (Or.inl rfl) (pe_callTy cl_list rfl T.b_list PyProof.Rows.boot_list (pa_cons (pv 1) pa_nil)))
      (pss_cons (ps_for PassesOwn.never rfl (pi_tup (pe_ix ix_tup (pe_ix ix_list (pv 0) (pv 2) (fun _ _ => rfl)) (pe_nat 2) (fun _ _ => rfl))) (pg_tup rfl (pgs_cons (pg_name (i := 4) sc.nd rfl (Or.inl rfl)) (pgs_cons (pg_name (i := 5) sc.nd rfl (Or.inl rfl)) pgs_nil)))
      (pss_one (ps_asg (pe_ifExp (pt_cmpR op_eq (pe_ix ix_tup (pv 5) (pe_nat 0) (fun _ _ => rfl)) pe_str (nomark _)) (pe_ix ix_tup (pv 5) (pe_nat 1) (fun _ _ => rfl)) (pe_ix ix_tup (pv 1) (pe_ix ix_tup (pv 5) (pe_nat 1) (fun _ _ => rfl)) (fun _ _ => rfl))) (pg_sub (pv 3) (pv 4) set_list))))
      (pss_one (ps_ret (pe_callTy cl_tup rfl T.b_tuple PyProof.Rows.boot_tuple (pa_cons (pv 3) pa_nil))))))
abbrev s_l_steps : Stmt := top 52
theorem sc_l_steps : FnScope ["_law_deeds", "_law_first", "_law_piece_here", "_law_steps_here", "_law_order", "_law_disk", "_law_k", "_law_deed_here", "_law_following"] ["_law_deeds", "_law_first", "_law_piece_here"] (defScope s_l_steps) := ⟨rfl, rfl, rfl, by decide +kernel, rfl, by decide +kernel, by decide +kernel⟩
theorem ok_l_steps (T : Gs K mg) (F : FunD K "_law_steps" "_law_steps" (defArgs s_l_steps) (defBody s_l_steps) (defScope s_l_steps) [] [] f fd) (G_l_after : GD P w K mg base "_law_after" 1 ["_law_deeds", "_law_disk", "_law_deed_here"] (lAfter)) (G_l_can : GD P w K mg base "_law_can" 1 ["_law_deeds", "_law_disk", "_law_deed_here"] (lCan)) (G_l_disks : GD P w K mg base "_law_disks" 1 ["_law_sketch_here"] (lDisks)) (G_l_has : GD P w K mg base "_law_has" 2 ["_law_piece_here", "_law_disk"] (lHas))
    (R : ∀ (vs : List V) (H : Hp) (Q : VK) (E : XK), (lSteps) vs H Q E → t_l_steps K { nx := fun _ H1 => Q .non H1, rt := Q } (start ["_law_deeds", "_law_first", "_law_piece_here", "_law_steps_here", "_law_order", "_law_disk", "_law_k", "_law_deed_here", "_law_following"] vs) H) : FnOk P w K mg base CX0 3 f fd ["_law_deeds", "_law_first", "_law_piece_here"] (lSteps) := by
  refine F.ok sc_l_steps (fun vs H Q E h => ?_) (fun cdv A outer s H vs Q E hr h => ⟨t_l_steps K, PSs.nox ?_, R vs H Q E h⟩)
  · obtain ⟨_, _, _, _, _, rfl, _⟩ := h
    rfl
  · have sc := sc_l_steps
    exact (pss_cons (ps_set (i := 3) sc.nd rfl (Or.inl rfl) pe_dnewT)
      (pss_cons (ps_set (i := 4) sc.nd rfl (Or.inl rfl) (pe_lst pa_nil))
      (pss_cons (ps_for PassesOwn.never rfl (pi_list (pe_cl G_l_disks (hr.mono (by decide)) rfl (pa_cons (pv 1) pa_nil))) (pg_name (i := 5) sc.nd rfl (Or.inl rfl))
      (pss_one (ps_if (pt_not (pt_val (pe_cl G_l_has (hr.mono (by decide)) rfl (pa_cons (pv 2) (pa_cons (pv 5) pa_nil))))) (pss_cons (ps_dput (hu_of hr) (pv 3) (pv 5) (pe_nat 0) rfl)
      (pss_one (ps_expr (pe_bm PySem.F.plainAttrs_list PySem.F.slot_list_append PySem.F.type_list_append mt_append (pv 4) (pa_cons (pv 5) pa_nil)))))
      pss_nil)))
      (pss_cons (ps_for PassesOwn.never rfl (pi_range1 rfl T.b_range (pa_cons (pe_nat 5000) pa_nil)) (pg_name (i := 6) sc.nd rfl (Or.inl rfl))
      (pss_one (ps_if (pt_cmpR opn_lt (pv 6) (pe_callB cl_lenS rfl T.b_len PySem.boot_len (pa_cons (pv 4) pa_nil)) (nomark _)) (pss_one (ps_for PassesOwn.never rfl (pi_range1 rfl T.b_range (pa_cons (pe_callB cl_lenS rfl T.b_len PySem.boot_len (pa_cons (pv 0) pa_nil)) pa_nil)) (pg_name (i := 7) sc.nd rfl (Or.inl rfl))
      (pss_one (ps_if (pt_val (pe_cl G_l_can (hr.mono (by decide)) rfl (pa_cons (pv 0) (pa_cons (pe_ix ix_list (pv 4) (pv 6) (fun _ _ => rfl)) (pa_cons (pv 7) pa_nil))))) (pss_cons (ps_set (i := 8) sc.nd rfl (Or.inl rfl) (pe_cl G_l_after (hr.mono (by decide)) rfl (pa_cons (pv 0) (pa_cons (pe_ix ix_list (pv 4) (pv 6) (fun _ _ => rfl)) (pa_cons (pv 7) pa_nil)))))
      (pss_one (ps_if (PW.pt (pw_and (pt_cmp (pc_dnotin (hu_of hr) (pv 8) (pv 3))) (pw_and1 (pt_not (pt_val (pe_cl G_l_has (hr.mono (by decide)) rfl (pa_cons (pv 2) (pa_cons (pv 8) pa_nil)))))))) (pss_cons (ps_dput (hu_of hr) (pv 3) (pv 8) (pe_op opn_add (pe_dget (hu_of hr) (pv 3) (pe_ix ix_list (pv 4) (pv 6) (fun _ _ => rfl)) (fun _ _ => rfl)) (pe_nat 1)) rfl)
      (pss_one (ps_expr (pe_bm PySem.F.plainAttrs_list PySem.F.slot_list_append PySem.F.type_list_append mt_append (pv 4) (pa_cons (pv 8) pa_nil)))))
      pss_nil)))
      pss_nil))))
      pss_nil)))
      (pss_one (ps_ret (pv 3)))))))
abbrev s_l_forward : Stmt := top 54
theorem sc_l_forward : FnScope ["_law_deeds", "_law_starts", "_law_seen", "_law_order", "_law_disk", "_law_k", "_law_deed_here", "_law_following"] ["_law_deeds", "_law_starts"] (defScope s_l_forward) := ⟨rfl, rfl, rfl, by decide +kernel, rfl, by decide +kernel, by decide +kernel⟩
theorem ok_l_forward (T : Gs K mg) (F : FunD K "_law_forward" "_law_forward" (defArgs s_l_forward) (defBody s_l_forward) (defScope s_l_forward) [] [] f fd) (G_l_after : GD P w K mg base "_law_after" 1 ["_law_deeds", "_law_disk", "_law_deed_here"] (lAfter)) (G_l_can : GD P w K mg base "_law_can" 1 ["_law_deeds", "_law_disk", "_law_deed_here"] (lCan))
    (R : ∀ (vs : List V) (H : Hp) (Q : VK) (E : XK), (lForward) vs H Q E → t_l_forward K { nx := fun _ H1 => Q .non H1, rt := Q } (start ["_law_deeds", "_law_starts", "_law_seen", "_law_order", "_law_disk", "_law_k", "_law_deed_here", "_law_following"] vs) H) : FnOk P w K mg base CX0 2 f fd ["_law_deeds", "_law_starts"] (lForward) := by
  refine F.ok sc_l_forward (fun vs H Q E h => ?_) (fun cdv A outer s H vs Q E hr h => ⟨t_l_forward K, PSs.nox ?_, R vs H Q E h⟩)
  · obtain ⟨_, _, _, _, rfl, _⟩ := h
    rfl
  · have sc := sc_l_forward
    exact (pss_cons (ps_set (i := 2) sc.nd rfl (Or.inl rfl) pe_dnewT)
      (pss_cons (ps_set (i := 3) sc.nd rfl (Or.inl rfl) (pe_lst pa_nil))
      (pss_cons (ps_for PassesOwn.never rfl (pi_list (pv 1)) (pg_name (i := 4) sc.nd rfl (Or.inl rfl))
      (pss_one (ps_if (pt_cmp (pc_dnotin (hu_of hr) (pv 4) (pv 2))) (pss_cons (ps_dput (hu_of hr) (pv 2) (pv 4) pe_bl rfl)
      (pss_one (ps_expr (pe_bm PySem.F.plainAttrs_list PySem.F.slot_list_append PySem.F.type_list_append mt_append (pv 3) (pa_cons (pv 4) pa_nil)))))
      pss_nil)))
      (pss_cons (ps_for PassesOwn.never rfl (pi_range1 rfl T.b_range (pa_cons (pe_nat 5000) pa_nil)) (pg_name (i := 5) sc.nd rfl (Or.inl rfl))
      (pss_one (ps_if (pt_cmpR opn_lt (pv 5) (pe_callB cl_lenS rfl T.b_len PySem.boot_len (pa_cons (pv 3) pa_nil)) (nomark _)) (pss_one (ps_for PassesOwn.never rfl (pi_range1 rfl T.b_range (pa_cons (pe_callB cl_lenS rfl T.b_len PySem.boot_len (pa_cons (pv 0) pa_nil)) pa_nil)) (pg_name (i := 6) sc.nd rfl (Or.inl rfl))
      (pss_one (ps_if (pt_val (pe_cl G_l_can (hr.mono (by decide)) rfl (pa_cons (pv 0) (pa_cons (pe_ix ix_list (pv 3) (pv 5) (fun _ _ => rfl)) (pa_cons (pv 6) pa_nil))))) (pss_cons (ps_set (i := 7) sc.nd rfl (Or.inl rfl) (pe_cl G_l_after (hr.mono (by decide)) rfl (pa_cons (pv 0) (pa_cons (pe_ix ix_list (pv 3) (pv 5) (fun _ _ => rfl)) (pa_cons (pv 6) pa_nil)))))
      (pss_one (ps_if (pt_cmp (pc_dnotin (hu_of hr) (pv 7) (pv 2))) (pss_cons (ps_dput (hu_of hr) (pv 2) (pv 7) pe_bl rfl)
      (pss_one (ps_expr (pe_bm PySem.F.plainAttrs_list PySem.F.slot_list_append PySem.F.type_list_append mt_append (pv 3) (pa_cons (pv 7) pa_nil)))))
      pss_nil)))
      pss_nil))))
      pss_nil)))
      (pss_one (ps_ret (pv 2)))))))
abbrev s_l_is_disordered : Stmt := top 55
theorem sc_l_is_disordered : FnScope ["_law_deeds", "_law_first", "_law_image", "_law_early", "_law_late_here", "_law_steps_here", "_law_starts", "_law_disk"] ["_law_deeds", "_law_first", "_law_image", "_law_early", "_law_late_here"] (defScope s_l_is_disordered) := ⟨rfl, rfl, rfl, by decide +kernel, rfl, by decide +kernel, by decide +kernel⟩
theorem ok_l_is_disordered (T : Gs K mg) (F : FunD K "_law_is_disordered" "_law_is_disordered" (defArgs s_l_is_disordered) (defBody s_l_is_disordered) (defScope s_l_is_disordered) [] [] f fd) (G_l_forward : GD P w K mg base "_law_forward" 2 ["_law_deeds", "_law_starts"] (lForward)) (G_l_has : GD P w K mg base "_law_has" 2 ["_law_piece_here", "_law_disk"] (lHas)) (G_l_in : GD P w K mg base "_law_in" 1 ["_law_sketch_here", "_law_disk"] (lIn)) (G_l_steps : GD P w K mg base "_law_steps" 3 ["_law_deeds", "_law_first", "_law_piece_here"] (lSteps))
    (R : ∀ (vs : List V) (H : Hp) (Q : VK) (E : XK), (lDis) vs H Q E → t_l_is_disordered K { nx := fun _ H1 => Q .non H1, rt := Q } (start ["_law_deeds", "_law_first", "_law_image", "_law_early", "_law_late_here", "_law_steps_here", "_law_starts", "_law_disk"] vs) H) : FnOk P w K mg base CX0 4 f fd ["_law_deeds", "_law_first", "_law_image", "_law_early", "_law_late_here"] (lDis) := by
  refine F.ok sc_l_is_disordered (fun vs H Q E h => ?_) (fun cdv A outer s H vs Q E hr h => ⟨t_l_is_disordered K, PSs.nox ?_, R vs H Q E h⟩)
  · obtain ⟨_, _, _, _, _, _, _, _, _, rfl, _⟩ := h
    rfl
  · have sc := sc_l_is_disordered
    exact (pss_cons (ps_set (i := 5) sc.nd rfl (Or.inl rfl) (pe_cl G_l_steps (hr.mono (by decide)) rfl (pa_cons (pv 0) (pa_cons (pv 1) (pa_cons (pv 3) pa_nil)))))
      (pss_cons (ps_setLc (i := 6) (own := [("_law_disk", 7)]) rfl sc.nd rfl rfl (sw_true rfl rfl rfl (by decide +kernel)) (pi_keys (pe_frz (pv 5))) (blkOk_by (N := ["_law_deeds", "_law_first", "_law_image", "_law_early", "_law_late_here", "_law_steps_here", "_law_starts", "_law_disk"]) (sc := defScope s_l_is_disordered) (by decide +kernel)) (fun _ _ _ _ _ => (pg_name (i := 7) sc.nd rfl (Or.inl rfl))) (fun _ _ _ _ _ => (pts_one (pt_val (pe_cl G_l_has (hr.mono (by decide)) rfl (pa_cons (pv 4) (pa_cons (pv 7) pa_nil)))))) (fun _ _ _ _ _ => (pv 7)))
      (pss_cons (ps_for PassesOwn.never rfl (pi_keys (pe_frz (pe_cl G_l_forward (hr.mono (by decide)) rfl (pa_cons (pv 0) (pa_cons (pv 6) pa_nil))))) (pg_name (i := 7) sc.nd rfl (Or.inl rfl))
      (pss_one (ps_if (pt_val (pe_cl G_l_in (hr.mono (by decide)) rfl (pa_cons (pv 2) (pa_cons (pv 7) pa_nil)))) (pss_one (ps_ret pe_bl))
      pss_nil)))
      (pss_one (ps_ret pe_bl)))))
abbrev s_l_meet : Stmt := top 56
theorem sc_l_meet : FnScope ["_law_a", "_law_b", "_law_both", "_law_left", "_law_right"] ["_law_a", "_law_b"] (defScope s_l_meet) := ⟨rfl, rfl, rfl, by decide +kernel, rfl, by decide +kernel, by decide +kernel⟩
theorem ok_l_meet (T : Gs K mg) (F : FunD K "_law_meet" "_law_meet" (defArgs s_l_meet) (defBody s_l_meet) (defScope s_l_meet) [] [] f fd)
    (R : ∀ (vs : List V) (H : Hp) (Q : VK) (E : XK), (lMeet) vs H Q E → t_l_meet K { nx := fun _ H1 => Q .non H1, rt := Q } (start ["_law_a", "_law_b", "_law_both", "_law_left", "_law_right"] vs) H) : FnOk P w K mg base CX0 1 f fd ["_law_a", "_law_b"] (lMeet) := by
  refine F.ok sc_l_meet (fun vs H Q E h => ?_) (fun cdv A outer s H vs Q E hr h => ⟨t_l_meet K, PSs.nox ?_, R vs H Q E h⟩)
  · obtain ⟨_, _, _, _, rfl, _⟩ := h
    rfl
  · have sc := sc_l_meet
    exact (pss_cons (ps_set (i := 2) sc.nd rfl (Or.inl rfl) (pe_callTy cl_tup rfl T.b_tuple PyProof.Rows.boot_tuple (pa_cons (pe_lc (own := [("_law_left", 3), ("_law_right", 4)]) rfl sc.nd (RZ.pi_zipA rfl T.b_zip (pa_cons (pv 0) (pa_cons (pv 1) pa_nil))) (blkOk_by (N := ["_law_a", "_law_b", "_law_both", "_law_left", "_law_right"]) (sc := defScope s_l_meet) (by decide +kernel)) (fun _ _ _ _ _ => (pg_tup rfl (pgs_cons (pg_name (i := 3) sc.nd rfl (Or.inl rfl)) (pgs_cons (pg_name (i := 4) sc.nd rfl (Or.inl rfl)) pgs_nil)))) (fun _ _ _ _ _ => pts_nil) (fun _ _ _ _ _ => (pe_op opn_and (pv 3) (pv 4)))) pa_nil)))
      (pss_one (ps_ret (pe_ifExp (pt_cmpR op_in_seq (pe_nat 0) (pv 2) (by rfl)) pe_non (pv 2)))))
abbrev s_l_split : Stmt := top 57
theorem sc_l_split : FnScope ["_law_a", "_law_b", "_law_both", "_law_parts_here", "_law_k"] ["_law_a", "_law_b"] (defScope s_l_split) := ⟨rfl, rfl, rfl, by decide +kernel, rfl, by decide +kernel, by decide +kernel⟩
theorem ok_l_split (T : Gs K mg) (F : FunD K "_law_split" "_law_split" (defArgs s_l_split) (defBody s_l_split) (defScope s_l_split) [] [] f fd) (G_l_meet : GD P w K mg base "_law_meet" 1 ["_law_a", "_law_b"] (lMeet))
    (R : ∀ (vs : List V) (H : Hp) (Q : VK) (E : XK), (lSplit) vs H Q E → t_l_split K { nx := fun _ H1 => Q .non H1, rt := Q } (start ["_law_a", "_law_b", "_law_both", "_law_parts_here", "_law_k"] vs) H) : FnOk P w K mg base CX0 2 f fd ["_law_a", "_law_b"] (lSplit) := by
  refine F.ok sc_l_split (fun vs H Q E h => ?_) (fun cdv A outer s H vs Q E hr h => ⟨t_l_split K, PSs.nox ?_, R vs H Q E h⟩)
  · obtain ⟨_, _, _, _, rfl, _⟩ := h
    rfl
  · have sc := sc_l_split
    exact (pss_cons (ps_set (i := 2) sc.nd rfl (Or.inl rfl) (pe_cl G_l_meet (hr.mono (by decide)) rfl (pa_cons (pv 0) (pa_cons (pv 1) pa_nil))))
      (pss_cons (ps_if (pt_cmp (pc_isN (pv 2))) (pss_one (ps_ret (pe_lst (pa_cons (pv 0) pa_nil))))
      pss_nil)
      (pss_cons (ps_set (i := 3) sc.nd rfl (Or.inl rfl) (pe_lst pa_nil))
      (pss_cons (ps_for PassesOwn.never rfl (pi_range1 rfl T.b_range (pa_cons (pe_callB cl_lenS rfl T.b_len PySem.boot_len (pa_cons (pv 0) pa_nil)) pa_nil)) (pg_name (i := 4) sc.nd rfl (Or.inl rfl))
      (pss_one (ps_if (pt_cmpR opn_ne (pe_ix ix_tup (pv 0) (pv 4) (fun _ _ => rfl)) (pe_ix ix_tup (pv 2) (pv 4) (fun _ _ => rfl)) (nomark _)) (pss_one (ps_expr (pe_bm PySem.F.plainAttrs_list PySem.F.slot_list_append PySem.F.type_list_append mt_append (pv 3) (pa_cons (pe_op op_catA (pe_op op_catA (pe_slice sl_tupA (pv 2) po_none (po_some (pv 4))) (pe_tup (pa_cons (pe_op opn_sub (pe_ix ix_tup (pv 0) (pv 4) (fun _ _ => rfl)) (pe_ix ix_tup (pv 2) (pv 4) (fun _ _ => rfl))) pa_nil))) (pe_slice sl_tupA (pv 0) (po_some (pe_op opn_add (pv 4) (pe_nat 1))) po_none)) pa_nil))))
      pss_nil)))
      (pss_one (ps_ret (pv 3)))))))
abbrev s_l_without : Stmt := top 58
theorem sc_l_without : FnScope ["_law_a", "_law_piece_here", "_law_parts_here", "_law_sketch_here", "_law_following", "_law_part"] ["_law_a", "_law_piece_here"] (defScope s_l_without) := ⟨rfl, rfl, rfl, by decide +kernel, rfl, by decide +kernel, by decide +kernel⟩
theorem ok_l_without (T : Gs K mg) (F : FunD K "_law_without" "_law_without" (defArgs s_l_without) (defBody s_l_without) (defScope s_l_without) [] [] f fd) (G_l_split : GD P w K mg base "_law_split" 2 ["_law_a", "_law_b"] (lSplit))
    (R : ∀ (vs : List V) (H : Hp) (Q : VK) (E : XK), (lWithout) vs H Q E → t_l_without K { nx := fun _ H1 => Q .non H1, rt := Q } (start ["_law_a", "_law_piece_here", "_law_parts_here", "_law_sketch_here", "_law_following", "_law_part"] vs) H) : FnOk P w K mg base CX0 3 f fd ["_law_a", "_law_piece_here"] (lWithout) := by
  refine F.ok sc_l_without (fun vs H Q E h => ?_) (fun cdv A outer s H vs Q E hr h => ⟨t_l_without K, PSs.nox ?_, R vs H Q E h⟩)
  · obtain ⟨_, _, _, _, rfl, _⟩ := h
    rfl
  · have sc := sc_l_without
    exact (pss_cons (ps_set (i := 2) sc.nd rfl (Or.inl rfl) (pe_lst (pa_cons (pv 0) pa_nil)))
      (pss_cons (ps_for PassesOwn.never rfl (pi_list (pv 1)) (pg_name (i := 3) sc.nd rfl (Or.inl rfl))
      (pss_cons (ps_set (i := 4) sc.nd rfl (Or.inl rfl) (pe_lst pa_nil))
      (pss_cons (ps_for PassesOwn.never rfl (pi_list (pv 2)) (pg_name (i := 5) sc.nd rfl (Or.inl rfl))
      (pss_one (ps_set (i := 4) sc.nd rfl (Or.inl rfl) (pe_op op_cat (pv 4) (pe_cl G_l_split (hr.mono (by decide)) rfl (pa_cons (pv 5) (pa_cons (pv 3) pa_nil)))))))
      (pss_one (ps_set (i := 2) sc.nd rfl (Or.inl rfl) (pv 4))))))
      (pss_one (ps_ret (pv 2)))))
abbrev s_l_before : Stmt := top 59
theorem sc_l_before : FnScope ["_law_deeds", "_law_sizes", "_law_sketch_here", "_law_deed_here", "_law_name", "_law_guard", "_law_changes", "_law_masks", "_law_cell_here", "_law_source", "_law_mask_here"] ["_law_deeds", "_law_sizes", "_law_sketch_here", "_law_deed_here"] (defScope s_l_before) := ⟨rfl, rfl, rfl, by decide +kernel, rfl, by decide +kernel, by decide +kernel⟩
theorem ok_l_before (T : Gs K mg) (F : FunD K "_law_before" "_law_before" (defArgs s_l_before) (defBody s_l_before) (defScope s_l_before) [] [] f fd)
    (R : ∀ (vs : List V) (H : Hp) (Q : VK) (E : XK), (lBefore) vs H Q E → t_l_before K { nx := fun _ H1 => Q .non H1, rt := Q } (start ["_law_deeds", "_law_sizes", "_law_sketch_here", "_law_deed_here", "_law_name", "_law_guard", "_law_changes", "_law_masks", "_law_cell_here", "_law_source", "_law_mask_here"] vs) H) : FnOk P w K mg base CX0 1 f fd ["_law_deeds", "_law_sizes", "_law_sketch_here", "_law_deed_here"] (lBefore) := by
  refine F.ok sc_l_before (fun vs H Q E h => ?_) (fun cdv A outer s H vs Q E hr h => ⟨t_l_before K, PSs.nox ?_, R vs H Q E h⟩)
  · obtain ⟨_, _, _, _, _, _, _, _, rfl, _⟩ := h
    rfl
  · have sc := sc_l_before
    exact (pss_cons (ps_asg (pe_ix ix_list (pv 0) (pv 3) (fun _ _ => rfl)) (pg_tup rfl (pgs_cons (pg_name (i := 4) sc.nd rfl (Or.inl rfl)) (pgs_cons (pg_name (i := 5) sc.nd rfl (Or.inl rfl)) (pgs_cons (pg_name (i := 6) sc.nd rfl (Or.inl rfl)) pgs_nil)))))
      (pss_cons (ps_set (i := 7) sc.nd rfl (Or.inl rfl) (pe_callTy cl_list rfl T.b_list PyProof.Rows.boot_list (pa_cons (pv 2) pa_nil)))
      (pss_cons (ps_for PassesOwn.never rfl (pi_tup (pv 6)) (pg_tup rfl (pgs_cons (pg_name (i := 8) sc.nd rfl (Or.inl rfl)) (pgs_cons (pg_name (i := 9) sc.nd rfl (Or.inl rfl)) pgs_nil)))
      (pss_one (ps_asg (pe_op opn_sub (pe_op opn_shl (pe_nat 1) (pe_ix ix_list (pv 1) (pv 8) (fun _ _ => rfl))) (pe_nat 1)) (pg_sub (pv 7) (pv 8) set_list))))
      (pss_cons (ps_for PassesOwn.never rfl (pi_tup (pv 6)) (pg_tup rfl (pgs_cons (pg_name (i := 8) sc.nd rfl (Or.inl rfl)) (pgs_cons (pg_name (i := 9) sc.nd rfl (Or.inl rfl)) pgs_nil)))
      (pss_one (ps_if (pt_cmpR op_eq (pe_ix ix_tup (pv 9) (pe_nat 0) (fun _ _ => rfl)) pe_str (nomark _)) (pss_one (ps_asg (pe_op opn_and (pe_ix ix_list (pv 7) (pe_ix ix_tup (pv 9) (pe_nat 1) (fun _ _ => rfl)) (fun _ _ => rfl)) (pe_ix ix_tup (pv 2) (pv 8) (fun _ _ => rfl))) (pg_sub (pv 7) (pe_ix ix_tup (pv 9) (pe_nat 1) (fun _ _ => rfl)) set_list)))
      (pss_one (ps_if (pt_cmpR opn_eq (pe_op opn_and (pe_op opn_shr (pe_ix ix_tup (pv 2) (pv 8) (fun _ _ => rfl)) (pe_ix ix_tup (pv 9) (pe_nat 1) (fun _ _ => rfl))) (pe_nat 1)) (pe_nat 0) (nomark _)) (pss_one (ps_ret pe_non))
      pss_nil)))))
      (pss_cons (ps_for PassesOwn.never rfl (pi_tup (pv 5)) (pg_tup rfl (pgs_cons (pg_name (i := 8) sc.nd rfl (Or.inl rfl)) (pgs_cons (pg_name (i := 10) sc.nd rfl (Or.inl rfl)) pgs_nil)))
      (pss_one (ps_asg (pe_op opn_and (pe_ix ix_list (pv 7) (pv 8) (fun _ _ => rfl)) (pv 10)) (pg_sub (pv 7) (pv 8) set_list))))
      (pss_one (ps_ret (pe_ifExp (pt_cmpR op_in_seq (pe_nat 0) (pv 7) (by rfl)) pe_non (pe_callTy cl_tup rfl T.b_tuple PyProof.Rows.boot_tuple (pa_cons (pv 7) pa_nil))))))))))
abbrev s_l_included : Stmt := top 60
theorem sc_l_included : FnScope ["_law_a", "_law_b", "_law_left", "_law_right"] ["_law_a", "_law_b"] (defScope s_l_included) := ⟨rfl, rfl, rfl, by decide +kernel, rfl, by decide +kernel, by decide +kernel⟩
theorem ok_l_included (T : Gs K mg) (F : FunD K "_law_included" "_law_included" (defArgs s_l_included) (defBody s_l_included) (defScope s_l_included) [] [] f fd)
    (R : ∀ (vs : List V) (H : Hp) (Q : VK) (E : XK), (lIncl) vs H Q E → t_l_included K { nx := fun _ H1 => Q .non H1, rt := Q } (start ["_law_a", "_law_b", "_law_left", "_law_right"] vs) H) : FnOk P w K mg base CX0 1 f fd ["_law_a", "_law_b"] (lIncl) := by
  refine F.ok sc_l_included (fun vs H Q E h => ?_) (fun cdv A outer s H vs Q E hr h => ⟨t_l_included K, PSs.nox ?_, R vs H Q E h⟩)
  · obtain ⟨_, _, _, _, rfl, _⟩ := h
    rfl
  · have sc := sc_l_included
    exact (pss_cons (ps_for PassesOwn.never rfl (RZ.pi_zipA rfl T.b_zip (pa_cons (pv 0) (pa_cons (pv 1) pa_nil))) (pg_tup rfl (pgs_cons (pg_name (i := 2) sc.nd rfl (Or.inl rfl)) (pgs_cons (pg_name (i := 3) sc.nd rfl (Or.inl rfl)) pgs_nil)))
      (pss_one (ps_if (pt_cmpR opn_ne (pe_op opn_and (pv 2) (pv 3)) (pv 2) (nomark _)) (pss_one (ps_ret pe_bl))
      pss_nil)))
      (pss_one (ps_ret pe_bl)))
abbrev s_l_covers : Stmt := top 61
theorem sc_l_covers : FnScope ["_law_sketches", "_law_entry", "_law_parts_here", "_law_number", "_law_part"] ["_law_sketches", "_law_entry", "_law_parts_here"] (defScope s_l_covers) := ⟨rfl, rfl, rfl, by decide +kernel, rfl, by decide +kernel, by decide +kernel⟩
theorem ok_l_covers (T : Gs K mg) (F : FunD K "_law_covers" "_law_covers" (defArgs s_l_covers) (defBody s_l_covers) (defScope s_l_covers) [] [] f fd) (G_l_included : GD P w K mg base "_law_included" 1 ["_law_a", "_law_b"] (lIncl)) (G_l_is_int : GD P w K mg base "_law_is_int" 1 ["_law_value"] (spIsInt))
    (R : ∀ (vs : List V) (H : Hp) (Q : VK) (E : XK), (lCovers) vs H Q E → t_l_covers K { nx := fun _ H1 => Q .non H1, rt := Q } (start ["_law_sketches", "_law_entry", "_law_parts_here", "_law_number", "_law_part"] vs) H) : FnOk P w K mg base CX0 2 f fd ["_law_sketches", "_law_entry", "_law_parts_here"] (lCovers) := by
  refine F.ok sc_l_covers (fun vs H Q E h => ?_) (fun cdv A outer s H vs Q E hr h => ⟨t_l_covers K, PSs.nox ?_, R vs H Q E h⟩)
  · obtain ⟨_, _, _, _, _, _, _, rfl, _⟩ := h
    rfl
  · have sc := sc_l_covers
    exact (pss_cons (ps_if (PW.pt (pw_or (pt_not (pt_val (pe_callB (cl_isi (n := "tuple")) rfl T.b_isinstance PyProof.Rows.boot_isinstance (pa_cons (pv 1) (pa_cons (pe_ty T.b_tuple PyProof.Rows.boot_tuple rfl) pa_nil))))) (pw_or1 (pt_cmpR opn_ne (pe_callB cl_lenS rfl T.b_len PySem.boot_len (pa_cons (pv 1) pa_nil)) (pe_callB cl_lenS rfl T.b_len PySem.boot_len (pa_cons (pv 2) pa_nil)) (nomark _))))) (pss_one (ps_ret pe_bl))
      pss_nil)
      (pss_cons (ps_for PassesOwn.never rfl (pi_zipM rfl T.b_zip (pa_cons (pv 1) (pa_cons (pv 2) pa_nil))) (pg_tup rfl (pgs_cons (pg_name (i := 3) sc.nd rfl (Or.inl rfl)) (pgs_cons (pg_name (i := 4) sc.nd rfl (Or.inl rfl)) pgs_nil)))
      (pss_one (ps_if (PW.pt (pw_or (pt_not (pt_val (pe_cl G_l_is_int (hr.mono (by decide)) rfl (pa_cons (pv 3) pa_nil)))) (pw_or (pt_not (pt_chain opn_le opn_lt (pe_nat 0) (pv 3) (pe_callB cl_lenS rfl T.b_len PySem.boot_len (pa_cons (pv 0) pa_nil)))) (pw_or1 (pt_not (pt_val (pe_cl G_l_included (hr.mono (by decide)) rfl (pa_cons (pv 4) (pa_cons (pe_ix ix_tup (pv 0) (pv 3) (fun _ _ => rfl)) pa_nil))))))))) (pss_one (ps_ret pe_bl))
      pss_nil)))
      (pss_one (ps_ret pe_bl))))
abbrev s_l_are_sketches : Stmt := top 62
theorem sc_l_are_sketches : FnScope ["_law_sketches", "_law_sizes", "_law_sketch_here", "_law_mask_here", "_law_size"] ["_law_sketches", "_law_sizes"] (defScope s_l_are_sketches) := ⟨rfl, rfl, rfl, by decide +kernel, rfl, by decide +kernel, by decide +kernel⟩
theorem ok_l_are_sketches (T : Gs K mg) (F : FunD K "_law_are_sketches" "_law_are_sketches" (defArgs s_l_are_sketches) (defBody s_l_are_sketches) (defScope s_l_are_sketches) [] [] f fd) (G_l_is_int : GD P w K mg base "_law_is_int" 1 ["_law_value"] (spIsInt))
    (R : ∀ (vs : List V) (H : Hp) (Q : VK) (E : XK), (lAreSk) vs H Q E → t_l_are_sketches K { nx := fun _ H1 => Q .non H1, rt := Q } (start ["_law_sketches", "_law_sizes", "_law_sketch_here", "_law_mask_here", "_law_size"] vs) H) : FnOk P w K mg base CX0 2 f fd ["_law_sketches", "_law_sizes"] (lAreSk) := by
  refine F.ok sc_l_are_sketches (fun vs H Q E h => ?_) (fun cdv A outer s H vs Q E hr h => ⟨t_l_are_sketches K, PSs.nox ?_, R vs H Q E h⟩)
  · obtain ⟨_, _, _, _, rfl, _⟩ := h
    rfl
  · have sc := sc_l_are_sketches
    exact (pss_cons (ps_if (pt_not (pt_val (pe_callB (cl_isi (n := "tuple")) rfl T.b_isinstance PyProof.Rows.boot_isinstance (pa_cons (pv 0) (pa_cons (pe_ty T.b_tuple PyProof.Rows.boot_tuple rfl) pa_nil))))) (pss_one (ps_ret pe_bl))
      pss_nil)
      (pss_cons (ps_for PassesOwn.never rfl (pi_tup (pv 0)) (pg_name (i := 2) sc.nd rfl (Or.inl rfl))
      (pss_cons (ps_if (PW.pt (pw_or (pt_not (pt_val (pe_callB (cl_isi (n := "tuple")) rfl T.b_isinstance PyProof.Rows.boot_isinstance (pa_cons (pv 2) (pa_cons (pe_ty T.b_tuple PyProof.Rows.boot_tuple rfl) pa_nil))))) (pw_or1 (pt_cmpR opn_ne (pe_callB cl_lenS rfl T.b_len PySem.boot_len (pa_cons (pv 2) pa_nil)) (pe_callB cl_lenS rfl T.b_len PySem.boot_len (pa_cons (pv 1) pa_nil)) (nomark _))))) (pss_one (ps_ret pe_bl))
      pss_nil)
      (pss_one (ps_for PassesOwn.never rfl (pi_zipM rfl T.b_zip (pa_cons (pv 2) (pa_cons (pv 1) pa_nil))) (pg_tup rfl (pgs_cons (pg_name (i := 3) sc.nd rfl (Or.inl rfl)) (pgs_cons (pg_name (i := 4) sc.nd rfl (Or.inl rfl)) pgs_nil)))
      (pss_one (ps_if (PW.pt (pw_or (pt_not (pt_val (pe_cl G_l_is_int (hr.mono (by decide)) rfl (pa_cons (pv 3) pa_nil)))) (pw_or (pt_cmpR opn_lt (pv 3) (pe_nat 1) (nomark _)) (pw_or1 (pt_cmpR opn_ge (pv 3) (pe_op opn_shl (pe_nat 1) (pv 4)) (nomark _)))))) (pss_one (ps_ret pe_bl))
      pss_nil))))))
      (pss_one (ps_ret pe_bl))))
abbrev s_l_is_closed : Stmt := top 63
theorem sc_l_is_closed : FnScope ["_law_deeds", "_law_sizes", "_law_sketches", "_law_table", "_law_piece_here", "_law_k", "_law_deed_here", "_law_place", "_law_parts_here"] ["_law_deeds", "_law_sizes", "_law_sketches", "_law_table", "_law_piece_here"] (defScope s_l_is_closed) := ⟨rfl, rfl, rfl, by decide +kernel, rfl, by decide +kernel, by decide +kernel⟩
theorem ok_l_is_closed (T : Gs K mg) (F : FunD K "_law_is_closed" "_law_is_closed" (defArgs s_l_is_closed) (defBody s_l_is_closed) (defScope s_l_is_closed) [] [] f fd) (G_l_before : GD P w K mg base "_law_before" 1 ["_law_deeds", "_law_sizes", "_law_sketch_here", "_law_deed_here"] (lBefore)) (G_l_covers : GD P w K mg base "_law_covers" 2 ["_law_sketches", "_law_entry", "_law_parts_here"] (lCovers)) (G_l_without : GD P w K mg base "_law_without" 3 ["_law_a", "_law_piece_here"] (lWithout))
    (R : ∀ (vs : List V) (H : Hp) (Q : VK) (E : XK), (lClosed) vs H Q E → t_l_is_closed K { nx := fun _ H1 => Q .non H1, rt := Q } (start ["_law_deeds", "_law_sizes", "_law_sketches", "_law_table", "_law_piece_here", "_law_k", "_law_deed_here", "_law_place", "_law_parts_here"] vs) H) : FnOk P w K mg base CX0 4 f fd ["_law_deeds", "_law_sizes", "_law_sketches", "_law_table", "_law_piece_here"] (lClosed) := by
  refine F.ok sc_l_is_closed (fun vs H Q E h => ?_) (fun cdv A outer s H vs Q E hr h => ⟨t_l_is_closed K, PSs.nox ?_, R vs H Q E h⟩)
  · obtain ⟨_, _, _, _, _, _, _, _, _, rfl, _⟩ := h
    rfl
  · have sc := sc_l_is_closed
    exact (pss_cons (ps_if (PW.pt (pw_or (pt_not (pt_val (pe_callB (cl_isi (n := "tuple")) rfl T.b_isinstance PyProof.Rows.boot_isinstance (pa_cons (pv 3) (pa_cons (pe_ty T.b_tuple PyProof.Rows.boot_tuple rfl) pa_nil))))) (pw_or1 (pt_cmpR opn_ne (pe_callB cl_lenS rfl T.b_len PySem.boot_len (pa_cons (pv 3) pa_nil)) (pe_callB cl_lenS rfl T.b_len PySem.boot_len (pa_cons (pv 2) pa_nil)) (nomark _))))) (pss_one (ps_ret pe_bl))
      pss_nil)
      (pss_cons (ps_for PassesOwn.never rfl (pi_range1 rfl T.b_range (pa_cons (pe_callB cl_lenS rfl T.b_len PySem.boot_len (pa_cons (pv 2) pa_nil)) pa_nil)) (pg_name (i := 5) sc.nd rfl (Or.inl rfl))
      (pss_cons (ps_if (PW.pt (pw_or (pt_not (pt_val (pe_callB (cl_isi (n := "tuple")) rfl T.b_isinstance PyProof.Rows.boot_isinstance (pa_cons (pe_ix ix_tup (pv 3) (pv 5) (fun _ _ => rfl)) (pa_cons (pe_ty T.b_tuple PyProof.Rows.boot_tuple rfl) pa_nil))))) (pw_or1 (pt_cmpR opn_ne (pe_callB cl_lenS rfl T.b_len PySem.boot_len (pa_cons (pe_ix ix_tup (pv 3) (pv 5) (fun _ _ => rfl)) pa_nil)) (pe_callB cl_lenS rfl T.b_len PySem.boot_len (pa_cons (pv 0) pa_nil)) (nomark _))))) (pss_one (ps_ret pe_bl))
      pss_nil)
      (pss_one (ps_for PassesOwn.never rfl (pi_range1 rfl T.b_range (pa_cons (pe_callB cl_lenS rfl T.b_len PySem.boot_len (pa_cons (pv 0) pa_nil)) pa_nil)) (pg_name (i := 6) sc.nd rfl (Or.inl rfl))
      (pss_cons (ps_set (i := 7) sc.nd rfl (Or.inl rfl) (pe_cl G_l_before (hr.mono (by decide)) rfl (pa_cons (pv 0) (pa_cons (pv 1) (pa_cons (pe_ix ix_tup (pv 2) (pv 5) (fun _ _ => rfl)) (pa_cons (pv 6) pa_nil))))))
      (pss_cons (ps_set (i := 8) sc.nd rfl (Or.inl rfl) (pe_ifExp (pt_cmp (pc_isN (pv 7))) (pe_lst pa_nil) (pe_cl G_l_without (hr.mono (by decide)) rfl (pa_cons (pv 7) (pa_cons (pv 4) pa_nil)))))
      (pss_one (ps_if (pt_not (pt_val (pe_cl G_l_covers (hr.mono (by decide)) rfl (pa_cons (pv 2) (pa_cons (pe_ix ix_tup (pe_ix ix_tup (pv 3) (pv 5) (fun _ _ => rfl)) (pv 6) (fun _ _ => rfl)) (pa_cons (pv 8) pa_nil)))))) (pss_one (ps_ret pe_bl))
      pss_nil))))))))
      (pss_one (ps_ret pe_bl))))
abbrev s_l_is_history : Stmt := top 65
theorem sc_l_is_history : FnScope ["_law_deeds", "_law_first", "_law_image", "_law_piece_here", "_law_disk", "_law_numbers", "_law_number"] ["_law_deeds", "_law_first", "_law_image", "_law_piece_here", "_law_disk", "_law_numbers"] (defScope s_l_is_history) := ⟨rfl, rfl, rfl, by decide +kernel, rfl, by decide +kernel, by decide +kernel⟩
theorem ok_l_is_history (T : Gs K mg) (F : FunD K "_law_is_history" "_law_is_history" (defArgs s_l_is_history) (defBody s_l_is_history) (defScope s_l_is_history) [] [] f fd) (G_l_after : GD P w K mg base "_law_after" 1 ["_law_deeds", "_law_disk", "_law_deed_here"] (lAfter)) (G_l_can : GD P w K mg base "_law_can" 1 ["_law_deeds", "_law_disk", "_law_deed_here"] (lCan)) (G_l_has : GD P w K mg base "_law_has" 2 ["_law_piece_here", "_law_disk"] (lHas)) (G_l_in : GD P w K mg base "_law_in" 1 ["_law_sketch_here", "_law_disk"] (lIn)) (G_l_is_int : GD P w K mg base "_law_is_int" 1 ["_law_value"] (spIsInt))
    (R : ∀ (vs : List V) (H : Hp) (Q : VK) (E : XK), (lHistory) vs H Q E → t_l_is_history K { nx := fun _ H1 => Q .non H1, rt := Q } (start ["_law_deeds", "_law_first", "_law_image", "_law_piece_here", "_law_disk", "_law_numbers", "_law_number"] vs) H) : FnOk P w K mg base CX0 3 f fd ["_law_deeds", "_law_first", "_law_image", "_law_piece_here", "_law_disk", "_law_numbers"] (lHistory) := by
  refine F.ok sc_l_is_history (fun vs H Q E h => ?_) (fun cdv A outer s H vs Q E hr h => ⟨t_l_is_history K, PSs.nox ?_, R vs H Q E h⟩)
  · obtain ⟨_, _, _, _, _, _, _, _, _, _, _, rfl, _⟩ := h
    rfl
  · have sc := sc_l_is_history
    exact (pss_cons (ps_if (PW.pt (pw_or (pt_not (pt_val (pe_callB (cl_isi (n := "tuple")) rfl T.b_isinstance PyProof.Rows.boot_isinstance (pa_cons (pv 4) (pa_cons (pe_ty T.b_tuple PyProof.Rows.boot_tuple rfl) pa_nil))))) (pw_or (pt_not (pt_val (pe_callB (cl_isi (n := "tuple")) rfl T.b_isinstance PyProof.Rows.boot_isinstance (pa_cons (pv 5) (pa_cons (pe_ty T.b_tuple PyProof.Rows.boot_tuple rfl) pa_nil))))) (pw_or (pt_not (pt_val (pe_cl G_l_in (hr.mono (by decide)) rfl (pa_cons (pv 1) (pa_cons (pv 4) pa_nil))))) (pw_or1 (pt_val (pe_cl G_l_has (hr.mono (by decide)) rfl (pa_cons (pv 3) (pa_cons (pv 4) pa_nil))))))))) (pss_one (ps_ret pe_bl))
      pss_nil)
      (pss_cons (ps_for PassesOwn.never rfl (pi_tup (pv 5)) (pg_name (i := 6) sc.nd rfl (Or.inl rfl))
      (pss_cons (ps_if (PW.pt (pw_or (pt_not (pt_val (pe_cl G_l_is_int (hr.mono (by decide)) rfl (pa_cons (pv 6) pa_nil)))) (pw_or (pt_not (pt_chain opn_le opn_lt (pe_nat 0) (pv 6) (pe_callB cl_lenS rfl T.b_len PySem.boot_len (pa_cons (pv 0) pa_nil)))) (pw_or1 (pt_not (pt_val (pe_cl G_l_can (hr.mono (by decide)) rfl (pa_cons (pv 0) (pa_cons (pv 4) (pa_cons (pv 6) pa_nil)))))))))) (pss_one (ps_ret pe_bl))
      pss_nil)
      (pss_cons (ps_set (i := 4) sc.nd rfl (Or.inl rfl) (pe_cl G_l_after (hr.mono (by decide)) rfl (pa_cons (pv 0) (pa_cons (pv 4) (pa_cons (pv 6) pa_nil)))))
      (pss_one (ps_if (pt_val (pe_cl G_l_has (hr.mono (by decide)) rfl (pa_cons (pv 3) (pa_cons (pv 4) pa_nil)))) (pss_one (ps_ret pe_bl))
      pss_nil)))))
      (pss_one (ps_ret (pe_cl G_l_in (hr.mono (by decide)) rfl (pa_cons (pv 2) (pa_cons (pv 4) pa_nil)))))))
abbrev s_l_late : Stmt := top 66
theorem sc_l_late : FnScope ["_law_sketch_here", "_law_early", "_law_late_here", "_law_parts_here", "_law_other", "_law_both"] ["_law_sketch_here", "_law_early", "_law_late_here"] (defScope s_l_late) := ⟨rfl, rfl, rfl, by decide +kernel, rfl, by decide +kernel, by decide +kernel⟩
theorem ok_l_late (T : Gs K mg) (F : FunD K "_law_late" "_law_late" (defArgs s_l_late) (defBody s_l_late) (defScope s_l_late) [] [] f fd) (G_l_meet : GD P w K mg base "_law_meet" 1 ["_law_a", "_law_b"] (lMeet)) (G_l_without : GD P w K mg base "_law_without" 3 ["_law_a", "_law_piece_here"] (lWithout))
    (R : ∀ (vs : List V) (H : Hp) (Q : VK) (E : XK), (lLate) vs H Q E → t_l_late K { nx := fun _ H1 => Q .non H1, rt := Q } (start ["_law_sketch_here", "_law_early", "_law_late_here", "_law_parts_here", "_law_other", "_law_both"] vs) H) : FnOk P w K mg base CX0 4 f fd ["_law_sketch_here", "_law_early", "_law_late_here"] (lLate) := by
  refine F.ok sc_l_late (fun vs H Q E h => ?_) (fun cdv A outer s H vs Q E hr h => ⟨t_l_late K, PSs.nox ?_, R vs H Q E h⟩)
  · obtain ⟨_, _, _, _, _, _, rfl, _⟩ := h
    rfl
  · have sc := sc_l_late
    exact (pss_cons (ps_set (i := 3) sc.nd rfl (Or.inl rfl) (pe_lst pa_nil))
      (pss_cons (ps_for PassesOwn.never rfl (pi_list (pv 2)) (pg_name (i := 4) sc.nd rfl (Or.inl rfl))
      (pss_cons (ps_set (i := 5) sc.nd rfl (Or.inl rfl) (pe_cl G_l_meet (hr.mono (by decide)) rfl (pa_cons (pv 0) (pa_cons (pv 4) pa_nil))))
      (pss_one (ps_if (pt_cmp (pc_notN (pv 5))) (pss_one (ps_set (i := 3) sc.nd rfl (Or.inl rfl) (pe_op op_cat (pv 3) (pe_cl G_l_without (hr.mono (by decide)) rfl (pa_cons (pv 5) (pa_cons (pv 1) pa_nil))))))
      pss_nil))))
      (pss_one (ps_ret (pv 3)))))
abbrev s_l_is_order : Stmt := top 67
theorem sc_l_is_order : FnScope ["_law_deeds", "_law_sizes", "_law_first", "_law_image", "_law_early", "_law_late_here", "_law_paper", "_law_sketch_here", "_law_k"] ["_law_deeds", "_law_sizes", "_law_first", "_law_image", "_law_early", "_law_late_here", "_law_paper"] (defScope s_l_is_order) := ⟨rfl, rfl, rfl, by decide +kernel, rfl, by decide +kernel, by decide +kernel⟩
theorem ok_l_is_order (T : Gs K mg) (F : FunD K "_law_is_order" "_law_is_order" (defArgs s_l_is_order) (defBody s_l_is_order) (defScope s_l_is_order) [] [] f fd) (G_l_are_sketches : GD P w K mg base "_law_are_sketches" 2 ["_law_sketches", "_law_sizes"] (lAreSk)) (G_l_covers : GD P w K mg base "_law_covers" 2 ["_law_sketches", "_law_entry", "_law_parts_here"] (lCovers)) (G_l_is_closed : GD P w K mg base "_law_is_closed" 4 ["_law_deeds", "_law_sizes", "_law_sketches", "_law_table", "_law_piece_here"] (lClosed)) (G_l_late : GD P w K mg base "_law_late" 4 ["_law_sketch_here", "_law_early", "_law_late_here"] (lLate)) (G_l_meet : GD P w K mg base "_law_meet" 1 ["_law_a", "_law_b"] (lMeet))
    (R : ∀ (vs : List V) (H : Hp) (Q : VK) (E : XK), (lOrder c) vs H Q E → t_l_is_order K { nx := fun _ H1 => Q .non H1, rt := Q } (start ["_law_deeds", "_law_sizes", "_law_first", "_law_image", "_law_early", "_law_late_here", "_law_paper", "_law_sketch_here", "_law_k"] vs) H) : FnOk P w K mg base CX0 5 f fd ["_law_deeds", "_law_sizes", "_law_first", "_law_image", "_law_early", "_law_late_here", "_law_paper"] (lOrder c) := by
  refine F.ok sc_l_is_order (fun vs H Q E h => ?_) (fun cdv A outer s H vs Q E hr h => ⟨t_l_is_order K, PSs.nox ?_, R vs H Q E h⟩)
  · obtain ⟨_, _, _, _, _, _, _, _, _, _, _, _, _, _, _, _, _, rfl, _⟩ := h
    rfl
  · have sc := sc_l_is_order
    exact (pss_cons (ps_if (PW.pt (pw_or (pt_not (pt_val (pe_cl G_l_are_sketches (hr.mono (by decide)) rfl (pa_cons (pe_fld (pv 6) rfl) (pa_cons (pv 1) pa_nil))))) (pw_or1 (pt_not (pt_val (pe_cl G_l_are_sketches (hr.mono (by decide)) rfl (pa_cons (pe_fld (pv 6) rfl) (pa_cons (pv 1) pa_nil)))))))) (pss_one (ps_ret pe_bl))
      pss_nil)
      (pss_cons (ps_for PassesOwn.never rfl (pi_tup (pe_fld (pv 6) rfl)) (pg_name (i := 7) sc.nd rfl (Or.inl rfl))
      (pss_one (ps_if (pt_cmp (pc_notN (pe_cl G_l_meet (hr.mono (by decide)) rfl (pa_cons (pv 7) (pa_cons (pv 2) pa_nil))))) (pss_one (ps_ret pe_bl))
      pss_nil)))
      (pss_cons (ps_if (pt_not (pt_val (pe_cl G_l_covers (hr.mono (by decide)) rfl (pa_cons (pe_fld (pv 6) rfl) (pa_cons (pe_fld (pv 6) rfl) (pa_cons (pe_lst (pa_cons (pv 3) pa_nil)) pa_nil)))))) (pss_one (ps_ret pe_bl))
      pss_nil)
      (pss_cons (ps_if (pt_not (pt_val (pe_cl G_l_is_closed (hr.mono (by decide)) rfl (pa_cons (pv 0) (pa_cons (pv 1) (pa_cons (pe_fld (pv 6) rfl) (pa_cons (pe_fld (pv 6) rfl) (pa_cons (pe_lst pa_nil) pa_nil)))))))) (pss_one (ps_ret pe_bl))
      pss_nil)
      (pss_cons (ps_if (PW.pt (pw_or (pt_not (pt_val (pe_callB (cl_isi (n := "tuple")) rfl T.b_isinstance PyProof.Rows.boot_isinstance (pa_cons (pe_fld (pv 6) rfl) (pa_cons (pe_ty T.b_tuple PyProof.Rows.boot_tuple rfl) pa_nil))))) (pw_or1 (pt_cmpR opn_ne (pe_callB cl_lenS rfl T.b_len PySem.boot_len (pa_cons (pe_fld (pv 6) rfl) pa_nil)) (pe_callB cl_lenS rfl T.b_len PySem.boot_len (pa_cons (pe_fld (pv 6) rfl) pa_nil)) (nomark _))))) (pss_one (ps_ret pe_bl))
      pss_nil)
      (pss_cons (ps_for PassesOwn.never rfl (pi_range1 rfl T.b_range (pa_cons (pe_callB cl_lenS rfl T.b_len PySem.boot_len (pa_cons (pe_fld (pv 6) rfl) pa_nil)) pa_nil)) (pg_name (i := 8) sc.nd rfl (Or.inl rfl))
      (pss_one (ps_if (pt_not (pt_val (pe_cl G_l_covers (hr.mono (by decide)) rfl (pa_cons (pe_fld (pv 6) rfl) (pa_cons (pe_ix ix_tup (pe_fld (pv 6) rfl) (pv 8) (fun _ _ => rfl)) (pa_cons (pe_cl G_l_late (hr.mono (by decide)) rfl (pa_cons (pe_ix ix_tup (pe_fld (pv 6) rfl) (pv 8) (fun _ _ => rfl)) (pa_cons (pv 4) (pa_cons (pv 5) pa_nil)))) pa_nil)))))) (pss_one (ps_ret pe_bl))
      pss_nil)))
      (pss_one (ps_ret (pe_cl G_l_is_closed (hr.mono (by decide)) rfl (pa_cons (pv 0) (pa_cons (pv 1) (pa_cons (pe_fld (pv 6) rfl) (pa_cons (pe_fld (pv 6) rfl) (pa_cons (pv 4) pa_nil))))))))))))))
abbrev s_law : Stmt := top 68
theorem sc_law : FnScope ["_law_script", "_law_cells", "_law_deeds", "_law_first", "_law_sizes", "_law_machine", "_law_image", "_law_early", "_law_late_here", "_law_copies", "_law_answer", "_law_bad", "_law_disk", "_law_number", "_law_name", "_law_size"] ["_law_script"] (defScope s_law) := ⟨rfl, rfl, rfl, by decide +kernel, rfl, by decide +kernel, by decide +kernel⟩
theorem ok_law (T : Gs K mg) (F : FunD K "law" "law" (defArgs s_law) (defBody s_law) (defScope s_law) [] [] f fd) (G_l_after : GD P w K mg base "_law_after" 1 ["_law_deeds", "_law_disk", "_law_deed_here"] (lAfter)) (G_l_cell : GD P w K mg base "_law_cell" 1 ["_law_script", "_law_k"] (spCell K)) (G_l_has : GD P w K mg base "_law_has" 2 ["_law_piece_here", "_law_disk"] (lHas)) (G_l_is_disordered : GD P w K mg base "_law_is_disordered" 4 ["_law_deeds", "_law_first", "_law_image", "_law_early", "_law_late_here"] (lDis)) (G_l_is_history : GD P w K mg base "_law_is_history" 3 ["_law_deeds", "_law_first", "_law_image", "_law_piece_here", "_law_disk", "_law_numbers"] (lHistory)) (G_l_is_int : GD P w K mg base "_law_is_int" 1 ["_law_value"] (spIsInt)) (G_l_is_order : GD P w K mg base "_law_is_order" 5 ["_law_deeds", "_law_sizes", "_law_first", "_law_image", "_law_early", "_law_late_here", "_law_paper"] (lOrder c)) (G_l_parts : GD P w K mg base "_law_parts" 3 ["_law_script", "_law_first", "_law_most"] (lParts K)) (G_l_piece : GD P w K mg base "_law_piece" 3 ["_law_cell_here", "_law_sizes"] (lPiece)) (G_l_sketch : GD P w K mg base "_law_sketch" 2 ["_law_cell_here", "_law_sizes"] (lSketch)) (G_tell_order : GD P w K mg base "tell_order" 6 ["machine", "image", "early", "late"] (spTell c)) (G_Machine_init : GC P w K mg base "Machine" c.M 3 ["self", "cells", "deeds", "first"] (spMachine c))
    (R : ∀ (vs : List V) (H : Hp) (Q : VK) (E : XK), (spLaw K) vs H Q E → t_law K c { nx := fun _ H1 => Q .non H1, rt := Q } (start ["_law_script", "_law_cells", "_law_deeds", "_law_first", "_law_sizes", "_law_machine", "_law_image", "_law_early", "_law_late_here", "_law_copies", "_law_answer", "_law_bad", "_law_disk", "_law_number", "_law_name", "_law_size"] vs) H) : FnOk P w K mg base CX0 7 f fd ["_law_script"] (spLaw K) := by
  refine F.ok sc_law (fun vs H Q E h => ?_) (fun cdv A outer s H vs Q E hr h => ⟨t_law K c, PSs.nox ?_, R vs H Q E h⟩)
  · obtain ⟨_, _, rfl, _⟩ := h
    rfl
  · have sc := sc_law
    exact (pss_cons (ps_asg (pe_cl G_l_parts (hr.mono (by decide)) rfl (pa_cons (pv 0) (pa_cons (pe_nat 4) (pa_cons (pe_nat 7) pa_nil)))) (pg_tup rfl (pgs_cons (pg_name (i := 1) sc.nd rfl (Or.inl rfl)) (pgs_cons (pg_name (i := 2) sc.nd rfl (Or.inl rfl)) (pgs_cons (pg_name (i := 3) sc.nd rfl (Or.inl rfl)) pgs_nil)))))
      (pss_cons (ps_setLc (i := 4) (own := [("_law_name", 14), ("_law_size", 15)]) rfl sc.nd rfl rfl (sw_true rfl rfl rfl (by decide +kernel)) (pi_list (pv 1)) (blkOk_by (N := ["_law_script", "_law_cells", "_law_deeds", "_law_first", "_law_sizes", "_law_machine", "_law_image", "_law_early", "_law_late_here", "_law_copies", "_law_answer", "_law_bad", "_law_disk", "_law_number", "_law_name", "_law_size"]) (sc := defScope s_law) (by decide +kernel)) (fun _ _ _ _ _ => (pg_tup rfl (pgs_cons (pg_name (i := 14) sc.nd rfl (Or.inl rfl)) (pgs_cons (pg_name (i := 15) sc.nd rfl (Or.inl rfl)) pgs_nil)))) (fun _ _ _ _ _ => pts_nil) (fun _ _ _ _ _ => (pv 15)))
      (pss_cons (ps_set (i := 5) sc.nd rfl (Or.inl rfl) (pe_mk G_Machine_init (hr.mono (by decide)) rfl (pa_cons (pv 1) (pa_cons (pv 2) (pa_cons (pv 3) pa_nil)))))
      (pss_cons (ps_set (i := 6) sc.nd rfl (Or.inl rfl) (pe_cl G_l_sketch (hr.mono (by decide)) rfl (pa_cons (pe_cl G_l_cell (hr.mono (by decide)) rfl (pa_cons (pv 0) (pa_cons (pe_nat 0) pa_nil))) (pa_cons (pv 4) pa_nil))))
      (pss_cons (ps_set (i := 7) sc.nd rfl (Or.inl rfl) (pe_cl G_l_piece (hr.mono (by decide)) rfl (pa_cons (pe_cl G_l_cell (hr.mono (by decide)) rfl (pa_cons (pv 0) (pa_cons (pe_nat 1) pa_nil))) (pa_cons (pv 4) pa_nil))))
      (pss_cons (ps_set (i := 8) sc.nd rfl (Or.inl rfl) (pe_cl G_l_piece (hr.mono (by decide)) rfl (pa_cons (pe_cl G_l_cell (hr.mono (by decide)) rfl (pa_cons (pv 0) (pa_cons (pe_nat 2) pa_nil))) (pa_cons (pv 4) pa_nil))))
      (pss_cons (ps_if (pt_cmpR opn_eq (pe_op op_modI (pe_cl G_l_cell (hr.mono (by decide)) rfl (pa_cons (pv 0) (pa_cons (pe_nat 3) pa_nil))) (pe_nat 6)) (pe_nat 1) (nomark _)) (pss_one (ps_set (i := 8) sc.nd rfl (Or.inl rfl) (pe_callTy cl_list rfl T.b_list PyProof.Rows.boot_list (pa_cons (pv 7) pa_nil))))
      pss_nil)
      (pss_cons (ps_set (i := 9) sc.nd rfl (Or.inl rfl) (pe_tup (pa_cons (pe_callTy cl_list rfl T.b_list PyProof.Rows.boot_list (pa_cons (pv 7) pa_nil)) (pa_cons (pe_callTy cl_list rfl T.b_list PyProof.Rows.boot_list (pa_cons (pv 8) pa_nil)) pa_nil))))
      (pss_cons (ps_set (i := 10) sc.nd rfl (Or.inl rfl) (pe_cl G_tell_order (hr.mono (by decide)) rfl (pa_cons (pv 5) (pa_cons (pv 6) (pa_cons (pe_ix ix_tup (pv 9) (pe_nat 0) (fun _ _ => rfl)) (pa_cons (pe_ix ix_tup (pv 9) (pe_nat 1) (fun _ _ => rfl)) pa_nil))))))
      (pss_cons (ps_set (i := 11) sc.nd rfl (Or.inl rfl) (pe_cl G_l_is_disordered (hr.mono (by decide)) rfl (pa_cons (pv 2) (pa_cons (pv 3) (pa_cons (pv 6) (pa_cons (pv 7) (pa_cons (pv 8) pa_nil)))))))
      (pss_cons (ps_if (PW.pt (pw_or (pt_cmpR (op_neD hr.units) (pv 9) (pe_tup (pa_cons (pv 7) (pa_cons (pv 8) pa_nil))) (nomark _)) (pw_or (pt_not (pt_val (pe_callB (cl_isi (n := "bool")) rfl T.b_isinstance PyProof.Rows.boot_isinstance (pa_cons (pe_fld (pv 10) rfl) (pa_cons (pe_ty T.b_bool PyProof.Rows.boot_bool rfl) pa_nil))))) (pw_or1 (pt_cmpR op_eq (pe_fld (pv 10) rfl) (pv 11) (nomark _)))))) (pss_one (ps_ret pe_bl))
      pss_nil)
      (pss_cons (ps_if (pt_val (pe_fld (pv 10) rfl)) (pss_cons (ps_if (pt_cmpR (op_neD hr.units) (pe_tup (pa_cons (pe_fld (pv 10) rfl) (pa_cons (pe_fld (pv 10) rfl) (pa_cons (pe_fld (pv 10) rfl) pa_nil)))) (pe_tup (pa_cons pe_non (pa_cons pe_non (pa_cons pe_non pa_nil)))) (nomark _)) (pss_one (ps_ret pe_bl))
      pss_nil)
      (pss_one (ps_ret (pe_cl G_l_is_order (hr.mono (by decide)) rfl (pa_cons (pv 2) (pa_cons (pv 4) (pa_cons (pv 3) (pa_cons (pv 6) (pa_cons (pv 7) (pa_cons (pv 8) (pa_cons (pe_fld (pv 10) rfl) pa_nil)))))))))))
      pss_nil)
      (pss_cons (ps_if (PW.pt (pw_or (pt_cmp (pc_notN (pe_fld (pv 10) rfl))) (pw_or (pt_not (pt_val (pe_callB (cl_isi (n := "tuple")) rfl T.b_isinstance PyProof.Rows.boot_isinstance (pa_cons (pe_fld (pv 10) rfl) (pa_cons (pe_ty T.b_tuple PyProof.Rows.boot_tuple rfl) pa_nil))))) (pw_or1 (pt_not (pt_val (pe_cl G_l_is_int (hr.mono (by decide)) rfl (pa_cons (pe_fld (pv 10) rfl) pa_nil)))))))) (pss_one (ps_ret pe_bl))
      pss_nil)
      (pss_cons (ps_if (pt_not (pt_chain opn_le opn_le (pe_nat 0) (pe_fld (pv 10) rfl) (pe_callB cl_lenS rfl T.b_len PySem.boot_len (pa_cons (pe_fld (pv 10) rfl) pa_nil)))) (pss_one (ps_ret pe_bl))
      pss_nil)
      (pss_cons (ps_if (pt_not (pt_val (pe_cl G_l_is_history (hr.mono (by decide)) rfl (pa_cons (pv 2) (pa_cons (pv 3) (pa_cons (pv 6) (pa_cons (pe_lst pa_nil) (pa_cons (pe_fld (pv 10) rfl) (pa_cons (pe_fld (pv 10) rfl) pa_nil))))))))) (pss_one (ps_ret pe_bl))
      pss_nil)
      (pss_cons (ps_set (i := 12) sc.nd rfl (Or.inl rfl) (pe_fld (pv 10) rfl))
      (pss_cons (ps_for PassesOwn.never rfl (pi_tup (pe_slice sl_tupA (pe_fld (pv 10) rfl) po_none (po_some (pe_fld (pv 10) rfl)))) (pg_name (i := 13) sc.nd rfl (Or.inl rfl))
      (pss_cons (ps_if (pt_val (pe_cl G_l_has (hr.mono (by decide)) rfl (pa_cons (pv 7) (pa_cons (pv 12) pa_nil)))) (pss_one (ps_ret pe_bl))
      pss_nil)
      (pss_one (ps_set (i := 12) sc.nd rfl (Or.inl rfl) (pe_cl G_l_after (hr.mono (by decide)) rfl (pa_cons (pv 2) (pa_cons (pv 12) (pa_cons (pv 13) pa_nil))))))))
      (pss_one (ps_ret (pe_and (pe_not (pe_cl G_l_has (hr.mono (by decide)) rfl (pa_cons (pv 7) (pa_cons (pv 12) pa_nil)))) (pe_one (pe_cl G_l_has (hr.mono (by decide)) rfl (pa_cons (pv 8) (pa_cons (pv 12) pa_nil))))))))))))))))))))))))
end
end RwW
/-! helpers for the readings -/
namespace RwW
open PySem L2 RwR
open RwM (A2 Sk Dk Src Deed Mach SS vSk vDk MachOk DeedOk SInv OrgOk Ext)

theorem if_no {c A B : Prop} [Decidable c] (h : ¬ c) (b : B) : if decide c = true then A else B := by
  rw [if_neg (by rw [decide_eq_false h]; exact Bool.false_ne_true)]
  exact b
theorem if_yes {c A B : Prop} [Decidable c] (h : c) (a : A) : if decide c = true then A else B := by
  rw [if_pos (decide_eq_true h)]
  exact a
theorem if_b {b : Bool} {A B : Prop} (h1 : b = true → A) (h2 : b = false → B) : if b = true then A else B := by
  cases b with
  | true => exact iteT (h1 rfl)
  | false => exact iteF (h2 rfl)
theorem if_is {b c : Bool} {A B : Prop} (e : b = c) (h1 : c = true → A) (h2 : c = false → B) : if b = true then A else B := by
  subst e
  exact if_b h1 h2
theorem yes_ {σ : St} {H : Hp} {X Y : Bool → Hp → Prop} (h : X true H) : tYes σ H (fun b H3 => if b = true then X b H3 else Y b H3) := by
  show if true = true then X true H else Y true H
  rw [if_pos rfl]
  exact h
def IsB : Rp Bool := fun _ v b => v = .bl b
instance : MonoT IsB := ⟨fun _ h => h⟩
theorem b_a2 {H : Hp} : ∀ {vs : List V} {bs : List Bool}, A2 (IsB H) vs bs → vs = bs.map V.bl
  | _, _, .nil => rfl
  | _, _, .cons h t => by
    rw [List.map_cons, ← b_a2 t, h]
theorem over_str {z : Str} : Over (Its z) z.cps.toList (fun _ => True) (fun c H v H' => H' = H ∧ v = .str ⟨#[c]⟩) where
  go := fun i H hi _ => by
    show i < z.cps.size
    simpa using hi
  stop := fun H _ => by
    show z.cps.size ≤ z.cps.toList.length
    simp
  item := fun i H x H' hi _ y => by
    obtain ⟨e, c, h1, h2⟩ := y
    exact ⟨c, by simpa using h1, e, h2⟩
theorem str_len (z : Str) : z.length = z.cps.size := rfl
theorem sz12 {n : Nat} (h : n ≤ 100000) : n ≤ sizeLine := Nat.le_trans h (by decide)
theorem sz_lt' {n : Nat} (h : n < 100000) : n < sizeLine := Nat.lt_of_lt_of_le h (by decide)
/-- an item of a tuple, a list -/
theorem at_nat {α : Type} {xs : List α} {j : Nat} {v : α} (h : xs[j]? = some v) : atI xs ((j : Nat) : Int) = some v := atI_nat h
theorem map_at {s : List Nat} {i n : Nat} (h : s[i]? = some n) : (s.map nV)[i]? = some (nV n) := by rw [List.getElem?_map, h]; rfl
theorem getD_at {s : List Nat} {i : Nat} (h : i < s.length) : s[i]? = some (s.getD i 0) := by rw [List.getD_eq_getElem?_getD, List.getElem?_eq_getElem h]; rfl
/-! ### no class has these names -/
theorem KF.m_cells {K : PySem.W.Frag} {c : Cs} (T : KF K c) : NoAttr K c.M "cells" := T.noM _ (by decide +kernel)
theorem KF.m_deeds {K : PySem.W.Frag} {c : Cs} (T : KF K c) : NoAttr K c.M "deeds" := T.noM _ (by decide +kernel)
theorem KF.m_first {K : PySem.W.Frag} {c : Cs} (T : KF K c) : NoAttr K c.M "first" := T.noM _ (by decide +kernel)
theorem KF.s_machine {K : PySem.W.Frag} {c : Cs} (T : KF K c) : NoAttr K c.S "_machine" := T.noS _ (by decide +kernel)
theorem KF.s_piece {K : PySem.W.Frag} {c : Cs} (T : KF K c) : NoAttr K c.S "_piece" := T.noS _ (by decide +kernel)
theorem KF.s_packed {K : PySem.W.Frag} {c : Cs} (T : KF K c) : NoAttr K c.S "_packed" := T.noS _ (by decide +kernel)
theorem KF.s_sketches {K : PySem.W.Frag} {c : Cs} (T : KF K c) : NoAttr K c.S "sketches" := T.noS _ (by decide +kernel)
theorem KF.s_origins {K : PySem.W.Frag} {c : Cs} (T : KF K c) : NoAttr K c.S "origins" := T.noS _ (by decide +kernel)
theorem KF.s_found {K : PySem.W.Frag} {c : Cs} (T : KF K c) : NoAttr K c.S "found" := T.noS _ (by decide +kernel)
theorem KF.p_sketches {K : PySem.W.Frag} {c : Cs} (T : KF K c) : NoAttr K c.P "sketches" := T.noP _ (by decide +kernel)
theorem KF.p_cover {K : PySem.W.Frag} {c : Cs} (T : KF K c) : NoAttr K c.P "cover" := T.noP _ (by decide +kernel)
theorem KF.p_table {K : PySem.W.Frag} {c : Cs} (T : KF K c) : NoAttr K c.P "table" := T.noP _ (by decide +kernel)
theorem KF.op_reach {K : PySem.W.Frag} {c : Cs} (T : KF K c) : NoAttr K c.OP "reach" := T.noOP _ (by decide +kernel)
theorem KF.op_cover {K : PySem.W.Frag} {c : Cs} (T : KF K c) : NoAttr K c.OP "cover" := T.noOP _ (by decide +kernel)
theorem KF.op_table {K : PySem.W.Frag} {c : Cs} (T : KF K c) : NoAttr K c.OP "table" := T.noOP _ (by decide +kernel)
theorem KF.op_sketches {K : PySem.W.Frag} {c : Cs} (T : KF K c) : NoAttr K c.OP "sketches" := T.noOP _ (by decide +kernel)
theorem KF.op_links {K : PySem.W.Frag} {c : Cs} (T : KF K c) : NoAttr K c.OP "links" := T.noOP _ (by decide +kernel)
theorem KF.op_steps {K : PySem.W.Frag} {c : Cs} (T : KF K c) : NoAttr K c.OP "steps" := T.noOP _ (by decide +kernel)
theorem KF.oa_told {K : PySem.W.Frag} {c : Cs} (T : KF K c) : NoAttr K c.OA "told" := T.noOA _ (by decide +kernel)
theorem KF.oa_paper {K : PySem.W.Frag} {c : Cs} (T : KF K c) : NoAttr K c.OA "paper" := T.noOA _ (by decide +kernel)
theorem KF.oa_disk {K : PySem.W.Frag} {c : Cs} (T : KF K c) : NoAttr K c.OA "disk" := T.noOA _ (by decide +kernel)
theorem KF.oa_deeds {K : PySem.W.Frag} {c : Cs} (T : KF K c) : NoAttr K c.OA "deeds" := T.noOA _ (by decide +kernel)
theorem KF.oa_moment {K : PySem.W.Frag} {c : Cs} (T : KF K c) : NoAttr K c.OA "moment" := T.noOA _ (by decide +kernel)
end RwW
/-! readings, part 1 -/
namespace RwW
open PySem L2 RwR
open RwM (A2 Sk Dk Src Deed Mach SS vSk vDk MachOk DeedOk SInv OrgOk Ext)
variable {K : PySem.W.Frag} {c : Cs}

theorem rd_is_name (vs : List V) (H : Hp) (Q : VK) (E : XK) (h : spIsName vs H Q E) : t_is_name K { nx := fun _ H1 => Q .non H1, rt := Q } (start ["text", "char"] vs) H := by
  obtain ⟨x, rfl, ok, q⟩ := h
  have h1 := ok.pos
  have h2 := ok.most
  obtain ⟨k, hk, hl⟩ := ok.head
  have hz : x.length ≤ sizeLine := sz12 (by rw [str_len]; omega)
  refine ⟨_, rfl, x, rfl, hz, _, _, rfl, rfl, _, rfl, if_no (by rw [str_len]; omega) ?_⟩
  refine ⟨_, rfl, x, rfl, hz, _, _, rfl, rfl, _, rfl, if_no (by rw [str_len]; omega) ?_⟩
  refine ⟨_, rfl, x, _, k, rfl, rfl, hz, at_nat (j := 0) (by simpa using hk), k, _, rfl, rfl, _, rfl, ?_⟩
  refine if_is (c := false) (by rw [decide_eq_true hl]; rfl) (fun z => nomatch z) fun _ => ?_
  refine ⟨_, rfl, x, rfl, fun D hD => ?_⟩
  refine lc_map (S := IsB) (f := fun k => decide (k ∈ LOWER.cps.toList) || decide (k ∈ DIGITS.cps.toList)) over_str hD (fun _ _ => trivial) (by simp; omega) ?_ ?_
  · rintro k v H1 _ N hm s ⟨rfl, rfl⟩ hN
    refine ⟨rfl, _, rfl, k, _, rfl, rfl, _, rfl, if_b (fun e => ?_) fun e => ?_⟩
    · exact hN _ _ (Same.refl _) (by show V.bl true = V.bl _; rw [e]; rfl)
    · refine ⟨_, rfl, k, _, rfl, rfl, ?_⟩
      exact hN _ _ (Same.refl _) (by show V.bl _ = V.bl _; rw [e, Bool.false_or])
  · rintro H1 ys s hy r
    refine ⟨D, _, rfl, sqL (by rw [hy, b_a2 r]), ?_⟩
    have e : (List.map (fun k => decide (k ∈ LOWER.cps.toList) || decide (k ∈ DIGITS.cps.toList)) x.cps.toList).all id = true := by
      rw [List.all_map, List.all_eq_true]
      intro k hk
      show (decide (k ∈ LOWER.cps.toList) || decide (k ∈ DIGITS.cps.toList)) = true
      rcases ok.all k hk with z | z
      · rw [decide_eq_true z, Bool.true_or]
      · rw [decide_eq_true z, Bool.or_true]
    rw [e]
    exact q _ s
theorem rd_check_names (vs : List V) (H : Hp) (Q : VK) (E : XK) (h : spCheckNames K vs H Q E) : t_check_names K { nx := fun _ H1 => Q .non H1, rt := Q } (start ["names", "name"] vs) H := by
  obtain ⟨l, xs, rfl, hS, hok, nd, hz, q⟩ := h
  have hA : A2 (fun (v : V) (x : Str) => v = .str x) (xs.map V.str) xs := by
    clear hS hok nd hz q
    induction xs with
    | nil => exact .nil
    | cons x xs ih => exact .cons rfl ih
  refine ⟨_, rfl, l, rfl, ⟨_, hS⟩, fun D hD => ?_⟩
  refine lc_map (S := IsB) (f := fun _ => true) (over_list hA) hD (fun H1 s => s.seq hS) (by omega) ?_ ?_
  · rintro x v H1 _ N hm s ⟨rfl, rfl⟩ hN
    exact ⟨rfl, _, rfl, x, rfl, hok x hm, fun H2 s2 => hN _ _ s2 rfl⟩
  · rintro H1 ys s hy r
    refine ⟨D, _, rfl, sqL (by rw [hy, b_a2 r]), _, rfl, ?_⟩
    have e : (List.map (fun _ => true) xs).all id = true := by simp
    rw [e]
    refine iteF ⟨_, rfl, l, xs, rfl, s.seq hS, nd, by omega, _, rfl, l, _, rfl, .inl (s.seq hS), _, _, rfl, rfl, _, rfl, ?_⟩
    refine if_is (c := false) (by simp) (fun z => nomatch z) fun _ => ?_
    exact q _ s
theorem rd_is_mask (vs : List V) (H : Hp) (Q : VK) (E : XK) (h : spIsMask vs H Q E) : t_is_mask K { nx := fun _ H1 => Q .non H1, rt := Q } (start ["mask", "size"] vs) H := by
  obtain ⟨m, n, rfl, hn, q⟩ := h
  refine ⟨_, rfl, 0, m, rfl, rfl, _, rfl, if_b (fun e => ?_) fun e => ?_⟩
  · refine ⟨_, rfl, 1, n, rfl, rfl, ⟨by omega, by omega⟩, m, _, rfl, rfl, ?_⟩
    have e : decide (0 < m) = true := e
    rw [e, Bool.true_and] at q
    show Q (.bl (decide (m < 1 * 2 ^ n))) H
    rw [Nat.one_mul]
    exact q
  · have e : decide (0 < m) = false := e
    rw [e, Bool.false_and] at q
    exact q
theorem rd_check_order (vs : List V) (H : Hp) (Q : VK) (E : XK) (h : spCheckOrder vs H Q E) : t_check_order K { nx := fun _ H1 => Q .non H1, rt := Q } (start ["pairs", "count", "before", "cell", "_"] vs) H := by
  obtain ⟨v, ks, n, rfl, ⟨a, us, rfl, ha, hr⟩, hp, hlt, q⟩ := h
  refine ⟨1, rfl, _, rfl, a, rfl, ⟨_, sqT ha⟩, ?_⟩
  refine for_over (over_tup hr) (fun r σ H1 => Same H H1 ∧ r.Pairwise (· < ·) ∧ (∀ k ∈ r, k < n) ∧ ∃ (b : Int) (u w : Option V), σ = [some (.ref a), some (nV n), some (.int b), u, w] ∧ ∀ k ∈ r, b < (k : Int)) ⟨Same.refl H, hp, hlt, -1, none, none, rfl, fun k _ => by omega⟩
    (fun r σ H1 p => sqT (p.1 _ _ ha)) ?_ ?_
  · rintro k r x σ H1 _ hm ⟨s, hp, hlt, b, u, w, rfl, hb⟩ ⟨rfl, a2, w2, rfl, h2⟩
    obtain ⟨hp1, hp2⟩ := List.pairwise_cons.mp hp
    have hk := hlt k List.mem_cons_self
    have hb1 := hb k List.mem_cons_self
    refine ⟨a2, _, rfl, sqT (s _ _ h2), rfl, _, _, rfl, _, _, rfl, rfl, ?_⟩
    refine ⟨_, rfl, _, rfl, _, _, rfl, rfl, _, rfl, if_no (by omega) ?_⟩
    refine ⟨_, rfl, _, rfl, k, n, rfl, rfl, _, rfl, if_no (by omega) ?_⟩
    exact ⟨_, rfl, s, hp2, fun j hj => hlt j (List.mem_cons_of_mem _ hj), k, _, _, rfl, fun j hj => by have := hp1 j hj; omega⟩
  · rintro σ H1 ⟨s, _⟩
    exact q _ s
end RwW
/-! readings, part 2 -/
namespace RwW
open PySem L2 RwR
open RwM (A2 Sk Dk Src Deed Mach SS vSk vDk MachOk DeedOk SInv OrgOk Ext)
variable {K : PySem.W.Frag} {c : Cs}

theorem str_ne : ¬ (V.str "copy" = V.str "set") := by decide +kernel
theorem rd_check_deed (vs : List V) (H : Hp) (Q : VK) (E : XK) (h : spCheckDeed vs H Q E) : t_Machine__check_deed K { nx := fun _ H1 => Q .non H1, rt := Q } (start ["self", "sizes", "guard", "changes", "cell", "mask", "kind", "number"] vs) H := by
  obtain ⟨s, sz, v1, v2, sizes, deed, rfl, ⟨a, us, rfl, ha, hra⟩, ⟨a1, us1, rfl, h1, hr1⟩, ⟨a2, us2, rfl, h2, hr2⟩, ok, h16, q⟩ := h
  have es := nat_a2 hra
  subst es
  have sat : ∀ {i : Nat}, i < sizes.length → (sizes.map nV)[i]? = some (nV (sizes.getD i 0)) := fun hi => map_at (getD_at hi)
  have s16 : ∀ {i : Nat}, i < sizes.length → sizes.getD i 0 ≤ 16 := fun hi => h16 _ (List.mem_of_getElem? (getD_at hi))
  refine ⟨_, rfl, a1, rfl, ⟨_, sqT h1⟩, ?_⟩
  refine for_over (over_tup hr1) (fun r σ H1 => Same H H1 ∧ ∃ u4 u5 u6 u7 : Option V, σ = [some s, some (.ref a), some (.ref a1), some (.ref a2), u4, u5, u6, u7]) ⟨Same.refl H, _, _, _, _, rfl⟩ (fun r σ H1 p => sqT (p.1 _ _ h1)) ?_ ?_
  · rintro ⟨cl, m⟩ r x σ H1 _ hm ⟨sm, u4, u5, u6, u7, rfl⟩ ⟨rfl, b, rfl, hb⟩
    obtain ⟨g1, g2, g3⟩ := ok.guard _ hm
    have g1 : cl < sizes.length := g1
    refine ⟨b, _, rfl, sqT (sm _ _ hb), rfl, _, _, rfl, _, _, rfl, rfl, ?_⟩
    refine ⟨_, rfl, _, rfl, _, rfl, a, _, _, _, rfl, rfl, sqL (sm _ _ ha), at_nat (sat g1), m, sizes.getD cl 0, rfl, by have := s16 g1; omega, _, rfl, ?_⟩
    refine if_is (c := false) ?_ (fun z => nomatch z) fun _ => ⟨sm, _, _, _, _, rfl⟩
    have p1 : 0 < m := g2
    have p2 : m < 2 ^ sizes.getD cl 0 := g3
    rw [decide_eq_true p1, decide_eq_true p2]
    rfl
  rintro σ H0 ⟨s0, u4, u5, u6, u7, rfl⟩
  refine ⟨_, rfl, a2, rfl, ⟨_, sqT (s0 _ _ h2)⟩, ?_⟩
  refine for_over (over_tup hr2) (fun r σ H1 => Same H H1 ∧ ∃ u4 u5 u6 u7 : Option V, σ = [some s, some (.ref a), some (.ref a1), some (.ref a2), u4, u5, u6, u7]) ⟨s0, _, _, _, _, rfl⟩ (fun r σ H1 p => sqT (p.1 _ _ h2)) ?_ ?_
  · rintro ⟨cl, src⟩ r x σ H1 _ hm ⟨sm, u4, u5, u6, u7, rfl⟩ ⟨rfl, b, sv, rfl, hb, b2, rfl, hb2⟩
    obtain ⟨g1, g2⟩ := ok.chg _ hm
    have g1 : cl < sizes.length := g1
    refine ⟨b, _, rfl, sqT (sm _ _ hb), rfl, _, _, rfl, _, _, rfl, ⟨b2, _, rfl, sqT (sm _ _ hb2), ?_⟩⟩
    cases src with
    | set v =>
      have g2 : v < sizes.getD cl 0 := g2
      refine ⟨rfl, _, _, rfl, _, _, rfl, rfl, rfl, ?_⟩
      refine ⟨_, rfl, rfl, _, rfl, if_yes rfl ?_⟩
      refine ⟨_, rfl, 0, v, rfl, rfl, _, rfl, if_yes (Nat.zero_le _) ?_⟩
      refine ⟨_, rfl, _, rfl, a, _, _, _, rfl, rfl, sqL (sm _ _ ha), at_nat (sat g1), v, _, rfl, rfl, _, rfl, if_yes g2 ?_⟩
      exact ⟨sm, _, _, _, _, rfl⟩
    | copy o =>
      obtain ⟨g2, g3⟩ : o < sizes.length ∧ sizes.getD o 0 ≤ sizes.getD cl 0 := g2
      refine ⟨rfl, _, _, rfl, _, _, rfl, rfl, rfl, ?_⟩
      refine ⟨_, rfl, rfl, _, rfl, if_no str_ne (iteF ?_)⟩
      refine ⟨_, rfl, rfl, _, rfl, if_is (c := false) (by decide) (fun z => nomatch z) fun _ => ?_⟩
      refine ⟨_, rfl, o, 0, rfl, rfl, _, rfl, if_no (by omega) ?_⟩
      refine ⟨_, rfl, _, rfl, a, _, rfl, .inl (sqL (sm _ _ ha)), o, _, rfl, rfl, _, rfl, if_no (by rw [List.length_map]; omega) ?_⟩
      refine ⟨_, rfl, _, rfl, a, _, _, _, rfl, rfl, sqL (sm _ _ ha), at_nat (sat g2), _, rfl, _, rfl, a, _, _, _, rfl, rfl, sqL (sm _ _ ha), at_nat (sat g1), _, _, rfl, rfl, _, rfl, if_no (by show ¬ (sizes.getD cl 0 < sizes.getD o 0); omega) ?_⟩
      exact ⟨sm, _, _, _, _, rfl⟩
  · rintro σ H1 ⟨sm, _⟩
    exact q _ sm

/-- meeting two sketches, from some masks on -/
def meetFrom (done : List Nat) : Sk → Sk → Option Sk
  | x :: a, y :: b => if x &&& y = 0 then none else meetFrom (done ++ [x &&& y]) a b
  | _, _ => some done
theorem meetFrom_eq : ∀ {a b : Sk} {done : List Nat}, meetFrom done a b = if 0 ∈ RwM.meetL a b then none else some (done ++ RwM.meetL a b)
  | [], _, done => by simp [meetFrom, RwM.meetL]
  | _ :: _, [], done => by simp [meetFrom, RwM.meetL]
  | x :: a, y :: b, done => by
    have e : RwM.meetL (x :: a) (y :: b) = (x &&& y) :: RwM.meetL a b := rfl
    rw [e]
    unfold meetFrom
    by_cases h : x &&& y = 0
    · rw [if_pos h, if_pos (by rw [h]; exact List.mem_cons_self)]
    · rw [if_neg h, meetFrom_eq]
      by_cases h2 : 0 ∈ RwM.meetL a b
      · rw [if_pos h2, if_pos (List.mem_cons_of_mem _ h2)]
      · rw [if_neg h2, if_neg (by simp only [List.mem_cons, not_or]; exact ⟨fun q => h q.symm, h2⟩)]
        simp
theorem meet_from {a b : Sk} : RwM.meet a b = meetFrom [] a b := by
  rw [meetFrom_eq]
  simp [RwM.meet]
theorem rd_meet (vs : List V) (H : Hp) (Q : VK) (E : XK) (h : spMeet vs H Q E) : t_meet K { nx := fun _ H1 => Q .non H1, rt := Q } (start ["a", "b", "masks", "left", "right"] vs) H := by
  obtain ⟨v, u, a, b, rfl, ⟨p1, rfl, h1⟩, ⟨p2, rfl, h2⟩, hl, hz, q⟩ := h
  refine ⟨Nat.zero_le _, fun l hl0 => ?_⟩
  have s0 : Same H (upd H l (.lst [])) := same_new hl0
  refine ⟨_, rfl, _, rfl, p1, p2, _, _, rfl, .inr ⟨sqT (s0 _ _ h1), sqT (s0 _ _ h2), ?_⟩⟩
  refine for_over (over_zipT (a2_nat (H := H) a) (a2_nat (H := H) b) hl) (fun r σ H1 => Same H H1 ∧ ∃ (done : List Nat) (u3 u4 : Option V), σ = [some (.ref p1), some (.ref p2), some (.ref l), u3, u4] ∧ H1 l = some (.lst (done.map nV)) ∧ done.length + r.length ≤ 100 ∧
      meetFrom done (r.map (·.1)) (r.map (·.2)) = RwM.meet a b) ⟨s0, [], _, _, rfl, upd_same, by simp; omega, ?_⟩ (fun r σ H1 p => ⟨sqT (p.1 _ _ h1), sqT (p.1 _ _ h2)⟩) ?_ ?_
  · have e1 : (a.zip b).map (·.1) = a := List.map_fst_zip (by omega)
    have e2 : (a.zip b).map (·.2) = b := List.map_snd_zip (by omega)
    rw [e1, e2, meet_from]
  · rintro ⟨x, y⟩ r w σ H1 _ hm ⟨s, done, u3, u4, rfl, hd, hn, he⟩ ⟨T, _, _, rfl, hT, rfl, rfl, rfl⟩
    have sT : Same H1 (upd H1 T (.tup [nV x, nV y])) := same_new hT
    refine ⟨T, _, rfl, sqT upd_same, rfl, _, _, rfl, _, _, rfl, rfl, ?_⟩
    have he2 : (if x &&& y = 0 then none else meetFrom (done ++ [x &&& y]) (r.map (·.1)) (r.map (·.2))) = RwM.meet a b := he
    refine ⟨_, rfl, _, rfl, x, y, rfl, rfl, _, 0, rfl, rfl, _, rfl, if_b (fun e => ?_) fun e => ?_⟩
    · have e : x &&& y = 0 := of_decide_eq_true e
      rw [if_pos e] at he2
      refine q _ _ (s.trans sT) ?_
      rw [← he2]
      rfl
    · have e : ¬ (x &&& y = 0) := of_decide_eq_false e
      rw [if_neg e] at he2
      have hd2 := sT _ _ hd
      refine ⟨_, rfl, .inl ⟨rfl, _, sqL hd2⟩, _, rfl, _, rfl, x, y, rfl, rfl, l, _, _, rfl, rfl, hd2, sz_lt' (by simp at hn ⊢; omega), same_mut (s.trans sT) hl0, done ++ [x &&& y], _, _, rfl, ?_, ?_, he2⟩
      · rw [upd_same, List.map_append]
        rfl
      · simp at hn ⊢
        omega
  · rintro σ H1 ⟨s, done, u3, u4, rfl, hd, hn, he⟩
    refine ⟨_, rfl, l, _, rfl, .inl ⟨sqL hd, fun p hp => q _ _ (s.trans (same_new hp)) ?_⟩⟩
    rw [← he]
    exact ⟨p, rfl, upd_same⟩
end RwW
/-! readings, part 3 -/
namespace RwW
open PySem L2 RwR
open RwM (A2 Sk Dk Src Deed Mach SS vSk vDk MachOk DeedOk SInv OrgOk Ext)
variable {K : PySem.W.Frag} {c : Cs}

/-! ### slices -/
theorem cut_to (xs : List V) (k : Nat) (h : k ≤ xs.length) : cutV xs none (some (k : Int)) = xs.take k := by
  unfold cutV
  rw [HT.sIx_none, HT.sIx_nat, Nat.min_eq_left h, List.drop_zero, Nat.sub_zero]
theorem cut_from (xs : List V) (k : Nat) (h : k ≤ xs.length) : cutV xs (some (k : Int)) none = xs.drop k := by
  unfold cutV
  rw [HT.sIx_none, HT.sIx_nat, Nat.min_eq_left h]
  exact List.take_of_length_le (by rw [List.length_drop]; omega)
/-- t + u, as it is: some tuple of both -/
theorem cat_any {H : Hp} {a b : Addr} {xs ys : List V} {Q : VK} (h1 : H a = some (.tup xs)) (h2 : H b = some (.tup ys)) (hl : xs.length + ys.length ≤ 100000) (q : ∀ H' p, Same H H' → H' p = some (.tup (xs ++ ys)) → Q (.ref p) H') :
    rCatA K (.ref a) (.ref b) H Q := by
  refine ⟨a, b, xs, ys, rfl, rfl, sqT h1, sqT h2, sz12 hl, fun e => ?_, fun _ e => ?_, fun _ _ p hp => q _ p (same_new hp) upd_same⟩
  · subst e
    exact q H b (Same.refl H) h2
  · subst e
    exact q H a (Same.refl H) (by rw [List.append_nil]; exact h1)
theorem splitGo_take (a b : Sk) (k : Nat) (hk : k < a.length) (hl : a.length = b.length) :
    RwM.splitGo (b.take k) (a.drop k) (b.drop k) = (if a[k] ^^^ b[k]'(by omega) = 0 then [] else [b.take k ++ (a[k] ^^^ b[k]'(by omega)) :: a.drop (k + 1)]) ++ RwM.splitGo (b.take (k + 1)) (a.drop (k + 1)) (b.drop (k + 1)) := by
  have hb : k < b.length := by omega
  rw [List.drop_eq_getElem_cons hk, List.drop_eq_getElem_cons hb, List.take_add_one, List.getElem?_eq_getElem hb]
  rfl
theorem splitGo_end (a b : Sk) (k : Nat) (hk : a.length ≤ k) : RwM.splitGo (b.take k) (a.drop k) (b.drop k) = [] := by
  rw [List.drop_eq_nil_of_le hk]
  simp [RwM.splitGo]
theorem rd_split (vs : List V) (H : Hp) (Q : VK) (E : XK) (h : spSplit vs H Q E) : t_split K { nx := fun _ H1 => Q .non H1, rt := Q } (start ["a", "b", "both", "parts", "cell", "mask", "rest"] vs) H := by
  obtain ⟨v, u, a, b, rfl, ⟨p1, rfl, h1⟩, ⟨p2, rfl, h2⟩, hl, hz, q⟩ := h
  refine ⟨_, rfl, _, rfl, _, _, a, b, rfl, ⟨p1, rfl, h1⟩, ⟨p2, rfl, h2⟩, hl, hz, fun H1 w s1 hw => ?_⟩
  cases e : RwM.meet a b with
  | none =>
    rw [e] at hw
    obtain rfl : w = .non := hw
    refine ⟨_, rfl, _, rfl, if_is (c := true) rfl (fun _ => ?_) fun z => nomatch z⟩
    refine ⟨_, rfl, by show 1 ≤ sizeLine; decide, fun p hp => q _ _ (s1.trans (same_new hp)) ⟨p, _, rfl, none_back s1 hp, upd_same, ?_⟩⟩
    unfold RwM.split
    rw [e]
    refine .cons ⟨p1, rfl, ?_⟩ .nil
    rw [upd_ne (ne_of_none (s1 _ _ h1) hp)]
    exact s1 _ _ h1
  | some m =>
    rw [e] at hw
    obtain ⟨p3, rfl, h3⟩ : IsN H1 w m := hw
    have lm : m.length = a.length := RwM.meet_len hl e
    refine ⟨_, rfl, _, rfl, if_is (c := false) rfl (fun z => nomatch z) fun _ => ?_⟩
    refine ⟨Nat.zero_le _, fun l hl0 => ?_⟩
    have hlH := none_back s1 hl0
    have s2 : Same H (upd H1 l (.lst [])) := s1.trans (same_new hl0)
    have h3' : (upd H1 l (.lst [])) p3 = some (.tup (m.map nV)) := same_new hl0 _ _ h3
    refine ⟨_, rfl, p1, _, rfl, sqT (s2 _ _ h1), ?_⟩
    have esp : RwM.split a b = RwM.splitGo [] a m := by
      unfold RwM.split
      rw [e]
    refine for_over (over_enumU (a2_nat (H := H) a)) (fun r σ H' => Same H H' ∧ H' p3 = some (.tup (m.map nV)) ∧ ∃ (k : Nat) (done : List Sk) (ys : List V) (u4 u5 u6 : Option V), r = a.zipIdx.drop k ∧ k ≤ a.length ∧ σ = [some (.ref p1), some (.ref p2), some (.ref p3), some (.ref l), u4, u5, u6] ∧
        H' l = some (.lst ys) ∧ A2 (IsN H') ys done ∧ done.length ≤ k ∧ done ++ RwM.splitGo (m.take k) (a.drop k) (m.drop k) = RwM.split a b) ⟨s2, h3', 0, [], [], _, _, _, by simp, Nat.zero_le _, rfl, upd_same, .nil, by simp, by simp [esp]⟩
      (fun r σ H' p => sqT (p.1 _ _ h1)) ?_ ?_
    · rintro ⟨x, i⟩ r w σ H' _ hm ⟨s, h3, k, done, ys, u4, u5, u6, hr, hk, rfl, hd, hA, hn, he⟩ ⟨T, _, rfl, hT, rfl, rfl⟩
      have hk1 : k < a.length := by
        refine Nat.lt_of_not_le fun z => ?_
        rw [List.drop_eq_nil_of_le (by simpa using z)] at hr
        cases hr
      have hr2 : a.zipIdx.drop k = (a[k], k) :: a.zipIdx.drop (k + 1) := by
        rw [List.drop_eq_getElem_cons (by simpa using hk1)]
        simp
      rw [hr2] at hr
      injection hr with e1 e2
      injection e1 with e1 e3
      subst e1 e3
      have sT : Same H' (upd H' T (.tup [nV i, nV a[i]])) := same_new hT
      have hmk : m[i]? = some (m[i]'(by omega)) := List.getElem?_eq_getElem _
      have hg := splitGo_take a m i hk1 lm.symm
      rw [hg] at he
      refine ⟨T, _, rfl, sqT upd_same, rfl, _, _, rfl, _, _, rfl, rfl, ?_⟩
      refine ⟨_, rfl, _, rfl, _, rfl, p3, _, _, _, rfl, rfl, sqT (sT _ _ h3), at_nat (map_at hmk), _, _, rfl, rfl, ?_⟩
      refine ⟨_, rfl, _, 0, rfl, rfl, _, rfl, if_b (fun e => ?_) fun e => ?_⟩
      · have e : ¬ (a[i] ^^^ m[i]'(by omega) = 0) := of_decide_eq_false (by simpa using e)
        rw [if_neg e] at he
        refine ⟨_, rfl, .inl ⟨rfl, _, sqL (sT _ _ hd)⟩, _, rfl, _, rfl, ?_⟩
        have hneT : T ≠ l := (ne_of_none hd hT).symm
        refine ⟨_, rfl, p3, _, rfl, sqT (sT _ _ h3), fun z => ?_, fun _ pa ha => ?_⟩
        · have := z.2
          rw [HT.sIx_nat, List.length_map] at this
          omega
        have sa : Same _ (upd (upd H' T (.tup [nV i, nV a[i]])) pa (.tup (cutV (m.map nV) none (some ((i : Nat) : Int))))) := same_new ha
        refine ⟨_, rfl, by show 1 ≤ sizeLine; decide, fun pb hb => ?_⟩
        have sb := same_new (o := .tup [nV (a[i] ^^^ m[i]'(by omega))]) hb
        refine cat_any (sb _ _ upd_same) upd_same (by rw [cut_to _ _ (by rw [List.length_map]; omega)]; simp; omega) fun H2 pc sc hc => ?_
        refine ⟨_, rfl, _, rfl, i, 1, rfl, rfl, _, rfl, p1, _, rfl, sqT (sc _ _ (sb _ _ (sa _ _ (sT _ _ (s _ _ h1))))), fun z => ?_, fun _ pd hd0 => ?_⟩
        · have := z.1
          rw [HT.sIx_nat, List.length_map] at this
          omega
        have sd := same_new (o := .tup (cutV (a.map nV) (some (((i + 1 : Nat)) : Int)) none)) hd0
        refine cat_any (sd _ _ hc) upd_same (by rw [cut_to _ _ (by rw [List.length_map]; omega), cut_from _ _ (by rw [List.length_map]; omega)]; simp; omega) fun H3 pe se hpe => ?_
        have sall : Same H' H3 := (((sT.trans sa).trans sb).trans sc).trans (sd.trans se)
        have hlast := sall _ _ hd
        rw [cut_to _ _ (by rw [List.length_map]; omega), cut_from _ _ (by rw [List.length_map]; omega)] at hpe
        have hA3 := a2_mono (ts_of sall) hA
        have tl : Ts H3 (upd H3 l (.lst (ys ++ [.ref pe]))) := ts_lst hlast
        refine ⟨l, _, _, rfl, rfl, hlast, sz_lt' (by rw [hA.length]; omega), same_mut (s.trans sall) hlH, by rw [upd_ne (ne_of (sall _ _ h3) hlast (by intro z; cases z))]; exact sall _ _ h3, i + 1, done ++ [m.take i ++ (a[i] ^^^ m[i]'(by omega)) :: a.drop (i + 1)], _, _, _, _, e2, hk1, rfl, upd_same, ?_, by simp; omega, ?_⟩
        · refine A2.snoc (a2_mono tl hA3) ⟨pe, rfl, tl _ _ ?_⟩
          rw [hpe]
          simp [List.map_take, List.map_drop]
        · rw [← he]
          simp
      · have e : a[i] ^^^ m[i]'(by omega) = 0 := by
          have := of_decide_eq_true (p := (a[i] ^^^ m[i]'(by omega) = 0)) (by simpa using e)
          exact this
        rw [if_pos e] at he
        exact ⟨s.trans sT, sT _ _ h3, i + 1, done, ys, _, _, _, e2, hk1, rfl, sT _ _ hd, a2_mono (ts_of sT) hA, by omega, he⟩
    · rintro σ H' ⟨s, h3, k, done, ys, u4, u5, u6, hr, hk, rfl, hd, hA, hn, he⟩
      have hk1 : a.length ≤ k := by
        refine Nat.le_of_not_lt fun z => ?_
        rw [List.drop_eq_getElem_cons (by simpa using z)] at hr
        cases hr
      rw [splitGo_end a m k hk1, List.append_nil] at he
      refine ⟨_, rfl, q _ _ s ⟨l, ys, rfl, hlH, hd, ?_⟩⟩
      rw [← he]
      exact hA
end RwW
/-! readings, part 4 -/
namespace RwW
open PySem L2 RwR
open RwM (A2 Sk Dk Src Deed Mach SS vSk vDk MachOk DeedOk SInv OrgOk Ext)
variable {K : PySem.W.Frag} {c : Cs}

/-! ### two clauses -/
abbrev LcI (J : It) (g : TG) (tt : TT) (te : TE) (vs : List Nat) (σ : St) (H0 : Hp) (D : Addr) (Qd : Hp → Prop) : Prop := ∃ W : Nat → Nat → Hp → Prop, (∃ m, W 0 m H0) ∧ ∀ i m H, W i m H →
  (J.stop i H ∧ Qd H) ∨ (J.go i H ∧ ∃ Nx : Hp → Prop, (∀ H', Nx H' → ∃ m', m' < m ∧ W (i + 1) m' H') ∧ ∀ x H', J.yld i H x H' → g x (wipe σ vs) H' fun σ2 H2 => wipe σ2 vs = wipe σ vs ∧ tt σ2 H2 fun b H3 =>
    if b = true then te σ2 H3 fun y H4 => ∃ acc, H4 D = some (.lst acc) ∧ acc.length < sizeLine ∧ Nx (upd H4 D (.lst (acc ++ [y]))) else Nx H3)
/-- a loop with any body -/
theorem any_over {α : Type} {J : It} {ds : List α} {G : Hp → Prop} {Y : α → Hp → V → Hp → Prop} (w : Over J ds G Y) {body : V → Hp → (Hp → Prop) → Prop} {H0 : Hp} {Qd : Hp → Prop} (Pv : List α → Hp → Prop) (h0 : Pv ds H0)
    (hG : ∀ r H, Pv r H → G H) (hs : ∀ d r x H H', d ∈ ds → Pv (d :: r) H → Y d H x H' → body x H' (Pv r)) (hd : ∀ H, Pv [] H → Qd H) :
    ∃ W : Nat → Nat → Hp → Prop, (∃ m, W 0 m H0) ∧ ∀ i m H, W i m H → (J.stop i H ∧ Qd H) ∨ (J.go i H ∧ ∃ Nx : Hp → Prop, (∀ H', Nx H' → ∃ m', m' < m ∧ W (i + 1) m' H') ∧ ∀ x H', J.yld i H x H' → body x H' Nx) := by
  refine ⟨fun i m H => m = ds.length - i ∧ i ≤ ds.length ∧ Pv (ds.drop i) H, ⟨ds.length, by simp, Nat.zero_le _, h0⟩, ?_⟩
  rintro i m H ⟨rfl, hi, p⟩
  have q := hG _ H p
  by_cases hlt : i < ds.length
  · have ed : ds.drop i = ds[i] :: ds.drop (i + 1) := List.drop_eq_getElem_cons hlt
    refine .inr ⟨w.go i H hlt q, Pv (ds.drop (i + 1)), fun H' p' => ⟨ds.length - (i + 1), by omega, rfl, hlt, p'⟩, fun x H' y => ?_⟩
    obtain ⟨d, hd', hy⟩ := w.item i H x H' hlt q y
    rw [List.getElem?_eq_getElem hlt] at hd'
    cases hd'
    exact hs _ _ x H H' (List.getElem_mem hlt) (by rw [← ed]; exact p) hy
  · have e : i = ds.length := by omega
    subst e
    rw [List.drop_length] at p
    exact .inl ⟨w.stop H q, hd H p⟩

theorem splitGo_few : ∀ {a b : Sk} {pre : List Nat}, (RwM.splitGo pre a b).length ≤ a.length
  | [], _, _ => by simp [RwM.splitGo]
  | _ :: _, [], _ => by simp [RwM.splitGo]
  | x :: a, y :: b, pre => by
    have ih := splitGo_few (a := a) (b := b) (pre := pre ++ [y])
    simp only [RwM.splitGo, List.length_append, List.length_cons]
    split
    · simp
      omega
    · simp
      omega
theorem split_few {a b : Sk} (h : a.length ≤ 4) : (RwM.split a b).length ≤ 4 := by
  unfold RwM.split
  split
  · simp
  · have := @splitGo_few a (by assumption) []
    omega
theorem flat_few {s : Sk} : ∀ {ps : List Sk}, (∀ p ∈ ps, p.length ≤ 4) → (ps.flatMap fun o => RwM.split o s).length ≤ 4 * ps.length
  | [], _ => by simp
  | p :: ps, h => by
    have ih := flat_few (s := s) (ps := ps) fun q hq => h q (List.mem_cons_of_mem _ hq)
    have h1 := split_few (b := s) (h p List.mem_cons_self)
    rw [List.flatMap_cons, List.length_append, List.length_cons]
    omega
theorem rd_without (vs : List V) (H : Hp) (Q : VK) (E : XK) (h : spWithout vs H Q E) : t_without K { nx := fun _ H1 => Q .non H1, rt := Q } (start ["a", "piece", "parts", "sketch", "other", "part"] vs) H := by
  obtain ⟨v, u, a, p, rfl, ⟨p1, rfl, h1⟩, ⟨p2, us, rfl, h2, hr⟩, hl, hz, hpl, q⟩ := h
  refine ⟨_, rfl, by show 1 ≤ sizeLine; decide, fun l0 hl0 => ?_⟩
  have s0 : Same H (upd H l0 (.lst [.ref p1])) := same_new hl0
  refine ⟨_, rfl, p2, rfl, ⟨_, sqL (s0 _ _ h2)⟩, ?_⟩
  refine for_over (over_list hr) (fun r σ H1 => Same H H1 ∧ ∃ (l : Addr) (cur : List Sk) (ys : List V) (u3 u4 u5 : Option V), σ = [some (.ref p1), some (.ref p2), some (.ref l), u3, u4, u5] ∧ H l = none ∧ H1 l = some (.lst ys) ∧ A2 (IsN H1) ys cur ∧ (∀ q ∈ cur, q.length = a.length) ∧
      (∀ q ∈ r, q.length = a.length) ∧ cur.length * 4 ^ r.length ≤ 16 ∧ r.foldl (fun ps s => ps.flatMap fun o => RwM.split o s) cur = RwM.without a p)
    ⟨s0, l0, [a], _, _, _, _, rfl, hl0, upd_same, .cons ⟨p1, rfl, s0 _ _ h1⟩ .nil, fun q hq => by rw [List.mem_singleton] at hq; rw [hq], hl, ?_, rfl⟩ (fun r σ H1 p => sqL (p.1 _ _ h2)) ?_ ?_
  · have : 4 ^ p.length ≤ 4 ^ 2 := Nat.pow_le_pow_right (by omega) hpl
    simp
    omega
  · rintro s r x σ _ H1 hm ⟨sm, l, cur, ys, u3, u4, u5, rfl, hl0, hd, hA, hc, hrl, hb, he⟩ ⟨rfl, hx⟩
    have hs := hrl s List.mem_cons_self
    have cl : cur.length ≤ 16 := by
      have : 1 ≤ 4 ^ (s :: r).length := Nat.one_le_pow _ _ (by omega)
      have := Nat.le_trans (Nat.le_mul_of_pos_right cur.length this) hb
      omega
    have fl := flat_few (s := s) (ps := cur) fun q hq => by rw [hc q hq]; omega
    refine ⟨_, rfl, l, rfl, ⟨_, sqL hd⟩, fun D hD => ?_⟩
    have hDH := none_back sm hD
    have sD : Same H1 (upd H1 D (.lst [])) := same_new hD
    refine any_over (over_list hA) (body := fun x H' Nx => _) (fun r' H2 => Same H1 H2 ∧ ∃ zs done, H2 D = some (.lst zs) ∧ A2 (IsN H2) zs done ∧ done ++ r'.flatMap (fun o => RwM.split o s) = cur.flatMap fun o => RwM.split o s)
      ⟨sD, [], [], upd_same, .nil, rfl⟩ (fun r' H2 p => sqL (p.1 _ _ hd)) ?_ ?_
    · rintro o r' w _ H2 hmo ⟨s2, zs, done, hz2, hA2, he2⟩ ⟨rfl, hw⟩
      refine ⟨rfl, yes_ ?_⟩
      refine ⟨_, rfl, _, rfl, _, _, o, s, rfl, MonoT.mono (ts_of s2) hw, MonoT.mono ((ts_of sm).trans (ts_of s2)) hx, by rw [hc o hmo, hs], by rw [hc o hmo]; omega, fun H3 w3 s3 hn3 => ?_⟩
      obtain ⟨p3, ws, rfl, hp3, h3, hA3⟩ := hn3
      have hne : p3 ≠ D := (ne_of_none hz2 hp3).symm
      refine ⟨p3, rfl, ⟨_, sqL h3⟩, ?_⟩
      refine any_over (over_list hA3) (body := fun x H' Nx => _) (fun r'' H4 => Same H1 H4 ∧ H4 p3 = some (.lst ws) ∧ Ts H3 H4 ∧ ∃ zs done2, H4 D = some (.lst zs) ∧ A2 (IsN H4) zs (done ++ done2) ∧ done2 ++ r'' = RwM.split o s) ⟨s2.trans s3, h3, Ts.refl _, zs, [], s3 _ _ hz2, by rw [List.append_nil]; exact a2_mono (ts_of s3) hA2, rfl⟩
        (fun r'' H4 p => sqL p.2.1) ?_ ?_
      · rintro t r'' y _ H4 hmt ⟨s4, h4, t4, zs4, done4, hz4, hA4, he4⟩ ⟨rfl, hy⟩
        refine ⟨rfl, yes_ ⟨_, rfl, zs4, hz4, ?_, ?_⟩⟩
        · have e1 := hA4.length
          have e2 := congrArg List.length he2
          have e3 := congrArg List.length he4
          rw [List.flatMap_cons] at e2
          simp only [List.length_append, List.length_cons] at e1 e2 e3
          exact sz_lt' (by omega)
        · have tl : Ts H4 (upd H4 D (.lst (zs4 ++ [y]))) := ts_lst hz4
          refine ⟨same_mut s4 hD, by rw [upd_ne hne]; exact h4, t4.trans tl, _, done4 ++ [t], upd_same, ?_, by rw [← he4]; simp⟩
          rw [← List.append_assoc]
          exact A2.snoc (a2_mono tl hA4) (MonoT.mono (t4.trans tl) hy)
      · rintro H4 ⟨s4, h4, t4, zs4, done4, hz4, hA4, he4⟩
        rw [List.append_nil] at he4
        refine ⟨s4, zs4, done ++ done4, hz4, hA4, ?_⟩
        rw [← he2, he4, List.flatMap_cons, List.append_assoc]
    · rintro H2 ⟨s2, zs, done, hz2, hA2, he2⟩
      rw [List.flatMap_nil, List.append_nil] at he2
      rw [he2] at hA2
      refine ⟨sm.trans s2, D, _, zs, _, _, _, rfl, hDH, hz2, hA2, RwM.flat_len hc, fun q hq => hrl q (List.mem_cons_of_mem _ hq), ?_, he⟩
      have e4 : cur.length * 4 ^ (s :: r).length = 4 * cur.length * 4 ^ r.length := by
        rw [List.length_cons, Nat.pow_succ, Nat.mul_comm (4 ^ r.length) 4, ← Nat.mul_assoc, Nat.mul_comm cur.length 4]
      rw [e4] at hb
      exact Nat.le_trans (Nat.mul_le_mul_right _ fl) hb
  · rintro σ H1 ⟨sm, l, cur, ys, u3, u4, u5, rfl, hl0, hd, hA, _, _, _, he⟩
    have he : cur = RwM.without a p := he
    rw [← he] at q
    exact ⟨_, rfl, q _ _ sm ⟨l, ys, rfl, hl0, hd, hA⟩⟩
end RwW
/-! readings, part 5 -/
namespace RwW
open PySem L2 RwR
open RwM (A2 Sk Dk Src Deed Mach SS vSk vDk MachOk DeedOk SInv OrgOk Ext)
variable {K : PySem.W.Frag} {c : Cs}

theorem bit_tru (m d : Nat) : m.testBit d = (((((m / 2 ^ d) &&& 1 : Nat) : Int)) != 0) := by
  have h := bit_dec m d
  cases hb : m.testBit d with
  | true =>
    rw [hb] at h
    have : ¬ ((m / 2 ^ d) &&& 1 = 0) := of_decide_eq_false h
    exact (bne_iff_ne.mpr (by omega)).symm
  | false =>
    rw [hb] at h
    have : (m / 2 ^ d) &&& 1 = 0 := of_decide_eq_true h
    rw [this]
    rfl
theorem bits_nat (m : Nat) : Builtin.Int.intBits (m : Int) = if m = 0 then 0 else m.log2 + 1 := by
  unfold Builtin.Int.intBits
  by_cases h : m = 0
  · subst h
    rfl
  · rw [if_neg h, if_neg (by simpa using h)]
    simp
theorem rd_values_of (vs : List V) (H : Hp) (Q : VK) (E : XK) (h : spValues vs H Q E) : t_values_of K { nx := fun _ H1 => Q .non H1, rt := Q } (start ["mask", "value"] vs) H := by
  obtain ⟨m, rfl, hm, q⟩ := h
  have hb : Builtin.Int.intBits (m : Int) ≤ 1000 := by
    rw [bits_nat]
    split
    · omega
    · have := Nat.log2_self_le (n := m) (by assumption)
      have h2 : m.log2 < 2 ^ m.log2 := Nat.lt_two_pow_self
      omega
  refine ⟨_, rfl, m, rfl, _, rfl, by omega, by omega, fun D hD => ?_⟩
  rw [Int.toNat_natCast]
  refine lc_fm (S := IsNat) (keep := fun d => m.testBit d) (f := fun d => d) over_range hD (fun _ _ => trivial) (by simp; omega) ?_ ?_
  · rintro d x _ H1 N No hd s ⟨rfl, rfl⟩ hN hNo
    refine ⟨rfl, _, rfl, _, rfl, m, d, rfl, rfl, _, 1, rfl, rfl, m.testBit d, bit_tru m d, if_b (fun e => ?_) fun e => hNo e _ (Same.refl _)⟩
    exact ⟨_, rfl, hN e _ _ (Same.refl _) rfl⟩
  · rintro H1 ys s hy r
    refine q _ _ s ⟨D, ys, rfl, hD, hy, ?_⟩
    rw [bits_nat, List.map_id'] at r
    exact r
theorem rd_least_disk (vs : List V) (H : Hp) (Q : VK) (E : XK) (h : spLeast vs H Q E) : t_least_disk K { nx := fun _ H1 => Q .non H1, rt := Q } (start ["sketch", "mask"] vs) H := by
  obtain ⟨v, s, rfl, ⟨p, rfl, hp⟩, hm, hz, q⟩ := h
  refine ⟨_, rfl, p, rfl, ⟨_, sqT hp⟩, fun D hD => ?_⟩
  refine lc_map (S := IsNat) (f := fun m => (RwM.values m).headD 0) (over_tup (a2_nat (H := H) s)) hD (fun H1 sm => sqT (sm _ _ hp)) (by omega) ?_ ?_
  · rintro m x _ H1 N hmm sm ⟨rfl, rfl⟩ hN
    obtain ⟨h1, h2⟩ := hm m hmm
    obtain ⟨b, r, e, _⟩ := RwM.values_ne h1
    refine ⟨rfl, _, rfl, m, rfl, h2, fun H2 w s2 hw => ?_⟩
    obtain ⟨p2, ys, rfl, hp2, h3, hA⟩ := hw
    rw [e] at hA
    cases hA with
    | cons hv ht =>
      refine ⟨p2, _, 0, _, rfl, rfl, sqL h3, at_nat (j := 0) rfl, hN _ _ s2 ?_⟩
      rw [e]
      exact hv
  · rintro H1 ys sm hy r
    refine ⟨D, ys, rfl, .inl ⟨sqL hy, fun l hl => q _ _ (sm.trans (same_new hl)) ⟨l, rfl, ?_⟩⟩⟩
    rw [upd_same, nat_a2 r]
    rfl
theorem rd_packed (vs : List V) (H : Hp) (Q : VK) (E : XK) (h : spPacked vs H Q E) : t_packed_sketch K { nx := fun _ H1 => Q .non H1, rt := Q } (start ["sketch", "packed", "mask"] vs) H := by
  obtain ⟨v, s, rfl, ⟨p, rfl, hp⟩, hm, hz, q⟩ := h
  refine ⟨_, rfl, p, rfl, ⟨_, sqT hp⟩, ?_⟩
  refine for_over (over_tup (a2_nat (H := H) s)) (fun r σ H1 => Same H H1 ∧ ∃ (a k : Nat) (u : Option V), σ = [some (.ref p), some (nV a), u] ∧ (∀ x ∈ r, x < 65536) ∧ a < 2 ^ (16 * k) ∧ k + r.length ≤ 4 ∧ r.foldl (fun p m => p * 65536 ||| m) a = RwM.pack s)
    ⟨Same.refl H, 0, 0, none, rfl, hm, by decide, by omega, rfl⟩ (fun r σ H1 p => sqT (p.1 _ _ hp)) ?_ ?_
  · rintro m r x σ _ H1 hmm ⟨sm, a, k, u, rfl, hr, ha, hk, he⟩ ⟨rfl, rfl⟩
    rw [List.length_cons] at hk
    have h48 : a < 2 ^ 48 := Nat.lt_of_lt_of_le ha (Nat.pow_le_pow_right (by omega) (by omega))
    have h1 := hr m List.mem_cons_self
    refine ⟨_, rfl, a, 16, rfl, rfl, ⟨by omega, by omega⟩, _, rfl, _, m, rfl, rfl, sm, _, k + 1, _, rfl, fun y hy => hr y (List.mem_cons_of_mem _ hy), ?_, by omega, he⟩
    refine Nat.or_lt_two_pow ?_ ?_
    · rw [Nat.mul_add, Nat.pow_add]
      exact Nat.mul_lt_mul_of_pos_right ha (by decide)
    · exact Nat.lt_of_lt_of_le h1 (by
        show 2 ^ 16 ≤ _
        exact Nat.pow_le_pow_right (by omega) (by omega))
  · rintro σ H1 ⟨sm, a, k, u, rfl, _, _, _, he⟩
    have he : a = RwM.pack s := he
    rw [← he] at q
    exact ⟨_, rfl, q _ sm⟩
theorem rd_full (T : KF K c) (vs : List V) (H : Hp) (Q : VK) (E : XK) (h : spFull c vs H Q E) : t_Machine_full K { nx := fun _ H1 => Q .non H1, rt := Q } (start ["self", "_", "size"] vs) H := by
  obtain ⟨v, M, rfl, ⟨m, dx, cv, dv, fv, rfl, hm, ⟨p, us, rfl, hp, hr⟩, _, _⟩, ok, q⟩ := h
  have hlen : M.sizes.zipIdx.length = M.sizes.length := List.length_zipIdx
  have hfew := ok.few.2
  refine ⟨_, rfl, m, _, _, _, _, rfl, hm, T.clM, T.m_cells, rfl, p, rfl, ⟨_, sqT hp⟩, fun D hD => ?_⟩
  refine lc_map (S := IsNat) (f := fun d => 2 ^ d.1 - 1) (over_tup hr) hD (fun H1 sm => sqT (sm _ _ hp)) (by omega) ?_ ?_
  · rintro ⟨n, i⟩ x _ H1 N hmm sm ⟨rfl, a, rfl, ha⟩ hN
    have hn : n ∈ M.sizes := by
      obtain ⟨j, hj, e⟩ := List.mem_iff_getElem.mp hmm
      rw [List.getElem_zipIdx] at e
      injection e with e1 e2
      rw [← e1]
      exact List.getElem_mem _
    have h3 := (ok.size n hn).2
    refine ⟨a, _, rfl, sqT (sm _ _ ha), rfl, _, _, rfl, _, _, rfl, rfl, rfl, ?_⟩
    have hp2 : 1 ≤ 2 ^ n := Nat.one_le_two_pow
    refine ⟨_, rfl, 1, n, rfl, rfl, ⟨by omega, by omega⟩, _, 1, rfl, rfl, by omega, hN _ _ (Same.refl _) ?_⟩
    show nV (1 * 2 ^ n - 1) = nV (2 ^ n - 1)
    rw [Nat.one_mul]
  · rintro H1 ys sm hy r
    refine ⟨D, ys, rfl, .inl ⟨sqL hy, fun l hl => q _ _ (sm.trans (same_new hl)) ⟨l, rfl, ?_⟩⟩⟩
    rw [upd_same, nat_a2 r]
    congr 2
    have e : ∀ (l : List Nat) (k : Nat), (l.zipIdx k).map (fun d => 2 ^ d.1 - 1) = l.map fun n => 2 ^ n - 1 := by
      intro l
      induction l with
      | nil => intro k; rfl
      | cons x l ih => intro k; rw [List.zipIdx_cons, List.map_cons, List.map_cons, ih]
    rw [e]
theorem vSk_pair {sizes s : List Nat} {m : Nat} {n i : Nat} (h : vSk sizes s) (hm : (m, (n, i)) ∈ s.zip sizes.zipIdx) : 1 ≤ m ∧ m < 2 ^ n ∧ n ∈ sizes := by
  obtain ⟨j, hj, e⟩ := List.mem_iff_getElem.mp hm
  rw [List.getElem_zip, List.getElem_zipIdx] at e
  injection e with e1 e2
  injection e2 with e2 e3
  have hl := h.length
  rw [List.length_zip, List.length_zipIdx] at hj
  have := A2.get h (List.getElem?_eq_getElem (show j < sizes.length by omega)) (List.getElem?_eq_getElem (show j < s.length by omega))
  rw [e1, e2] at this
  exact ⟨this.1, this.2, by rw [← e2]; exact List.getElem_mem _⟩
theorem rd_check_sketch (T : KF K c) (vs : List V) (H : Hp) (Q : VK) (E : XK) (h : spCheckSketch c vs H Q E) : t_check_sketch K { nx := fun _ H1 => Q .non H1, rt := Q } (start ["machine", "sketch", "mask", "_", "size"] vs) H := by
  obtain ⟨v, u, M, s, rfl, ⟨m, dx, cv, dv, fv, rfl, hm, ⟨p, us, rfl, hp, hr⟩, _, _⟩, ok, ⟨p2, rfl, hp2⟩, vs, q⟩ := h
  have ls := RwM.vSk_len vs
  have lu := hr.length
  rw [List.length_zipIdx] at lu
  refine ⟨_, rfl, p2, _, rfl, .inr (sqT hp2), _, rfl, m, _, _, _, _, rfl, hm, T.clM, T.m_cells, rfl, p, us, rfl, .inr (sqT hp), _, _, rfl, rfl, _, rfl, ?_⟩
  refine if_is (c := false) (by simp [ls, lu]) (fun z => nomatch z) fun _ => ?_
  refine ⟨_, rfl, _, rfl, m, _, _, _, _, rfl, hm, T.clM, T.m_cells, rfl, p2, p, _, _, rfl, .inr ⟨sqT hp2, sqT hp, ?_⟩⟩
  refine for_over (over_zipT (a2_nat (H := H) s) hr (by simp [ls])) (fun r σ H1 => Same H H1 ∧ ∃ u2 u3 u4 : Option V, σ = [some (.ref m), some (.ref p2), u2, u3, u4]) ⟨Same.refl H, _, _, _, rfl⟩ (fun r σ H1 p' => ⟨sqT (p'.1 _ _ hp2), sqT (p'.1 _ _ hp)⟩) ?_ ?_
  · rintro ⟨x, n, i⟩ r w σ H1 H2 hmm ⟨sm, u2, u3, u4, rfl⟩ ⟨T', _, _, rfl, hT, rfl, rfl, a, rfl, ha⟩
    obtain ⟨g1, g2, g3⟩ := vSk_pair vs hmm
    have sT : Same H1 (upd H1 T' (.tup [nV x, .ref a])) := same_new hT
    refine ⟨T', _, rfl, sqT upd_same, rfl, _, _, rfl, _, _, rfl, ⟨a, _, rfl, sqT (sT _ _ (sm _ _ ha)), rfl, _, _, rfl, _, _, rfl, rfl, rfl, ?_⟩⟩
    refine ⟨_, rfl, _, rfl, x, n, rfl, by have := (ok.size n g3).2; omega, _, rfl, ?_⟩
    refine if_is (c := false) ?_ (fun z => nomatch z) fun _ => ⟨sm.trans sT, _, _, _, rfl⟩
    rw [decide_eq_true (show 0 < x by omega), decide_eq_true g2]
    rfl
  · rintro σ H1 ⟨sm, _⟩
    exact q _ sm
theorem rd_check_question (vs : List V) (H : Hp) (Q : VK) (E : XK) (h : spCheckQ c vs H Q E) : t_check_question K c { nx := fun _ H1 => Q .non H1, rt := Q } (start ["machine", "image", "piece", "sketch"] vs) H := by
  obtain ⟨v, u, p, M, s, piece, rfl, hM, ok, hu, vs, ⟨p2, us, rfl, hp2, hr⟩, hv, q⟩ := h
  refine ⟨_, rfl, _, rfl, v, u, M, s, rfl, hM, ok, hu, vs, fun H1 s1 => ?_⟩
  refine ⟨_, rfl, p2, rfl, ⟨_, sqL (s1 _ _ hp2)⟩, ?_⟩
  refine for_over (over_list hr) (fun r σ H1 => Same H H1 ∧ ∃ u3 : Option V, σ = [some v, some u, some (.ref p2), u3]) ⟨s1, _, rfl⟩ (fun r σ H1 p' => sqL (p'.1 _ _ hp2)) ?_ ?_
  · rintro t r x σ _ H2 hmm ⟨sm, u3, rfl⟩ ⟨rfl, hx⟩
    exact ⟨_, rfl, _, rfl, v, x, M, t, rfl, MonoS.mono sm hM, ok, MonoS.mono sm hx, hv t hmm, fun H3 s3 => ⟨sm.trans s3, _, rfl⟩⟩
  · rintro σ H2 ⟨sm, _⟩
    exact q _ sm
end RwW
/-! readings, part 6: the law's small defs -/
namespace RwW
open PySem L2 RwR
open RwM (A2 Sk Dk Src Deed Mach SS vSk vDk MachOk DeedOk SInv OrgOk Ext)
variable {K : PySem.W.Frag} {c : Cs}

theorem ixn {n j : Nat} (hj : j < n) : ixN n (j : Int) = some j := by
  unfold ixN
  rw [if_pos (by omega), if_pos (by omega)]
  simp
theorem rd_l_cell (vs : List V) (H : Hp) (Q : VK) (E : XK) (h : spCell K vs H Q E) : t_l_cell K { nx := fun _ H1 => Q .non H1, rt := Q } (start ["_law_script", "_law_k"] vs) H := by
  obtain ⟨a, ns, k, rfl, hS, hz, q⟩ := h
  refine ⟨_, rfl, _, rfl, a, _, rfl, .inl hS, k, _, rfl, rfl, _, rfl, if_b (fun e => ?_) fun e => ?_⟩
  · have e : k < ns.length := by
      have := of_decide_eq_true e
      rwa [List.length_map] at this
    have hg : ns[k]? = some (cellAt ns k) := by
      unfold cellAt
      rw [List.getD_eq_getElem?_getD, List.getElem?_eq_getElem e]
      rfl
    exact ⟨_, rfl, _, rfl, a, _, _, _, rfl, rfl, hS, at_nat (by rw [List.getElem?_map, hg]; rfl), _, rfl, q _ (Same.refl _)⟩
  · have e : ns.length ≤ k := by
      have := of_decide_eq_false e
      rw [List.length_map] at this
      omega
    have hg : cellAt ns k = 0 := by
      unfold cellAt
      rw [List.getD_eq_getElem?_getD, List.getElem?_eq_none e]
      rfl
    rw [hg] at q
    exact q _ (Same.refl _)
theorem kit_ii : kitB "int" "int" = some true := by decide +kernel
theorem kit_ib : kitB "int" "bool" = some false := by decide +kernel
theorem kit_bb : kitB "bool" "bool" = some true := by decide +kernel
theorem kit_tt : kitB "tuple" "tuple" = some true := by decide +kernel
theorem rd_l_is_int (vs : List V) (H : Hp) (Q : VK) (E : XK) (h : spIsInt vs H Q E) : t_l_is_int K { nx := fun _ H1 => Q .non H1, rt := Q } (start ["_law_value"] vs) H := by
  obtain ⟨n, rfl, q⟩ := h
  refine ⟨_, rfl, nV n, _, true, rfl, .base (.int _), kit_ii, true, rfl, iteT ?_⟩
  exact ⟨_, rfl, nV n, _, false, rfl, .base (.int _), kit_ib, false, rfl, q _ (Same.refl _)⟩
theorem rd_l_mask (vs : List V) (H : Hp) (Q : VK) (E : XK) (h : spMask vs H Q E) : t_l_mask K { nx := fun _ H1 => Q .non H1, rt := Q } (start ["_law_number", "_law_size"] vs) H := by
  obtain ⟨n, s, rfl, h1, h3, q⟩ := h
  have hp : 2 ^ 1 ≤ 2 ^ s := Nat.pow_le_pow_right (by omega) h1
  refine ⟨_, rfl, _, rfl, 1, s, rfl, rfl, ⟨by decide, by omega⟩, _, 1, rfl, rfl, by omega, n, _, rfl, rfl, by omega, 1, _, rfl, rfl, ?_⟩
  have q := q H (Same.refl _)
  unfold maskOf at q
  rw [Nat.one_mul]
  exact q
theorem rd_l_in (vs : List V) (H : Hp) (Q : VK) (E : XK) (h : lIn vs H Q E) : t_l_in K { nx := fun _ H1 => Q .non H1, rt := Q } (start ["_law_sketch_here", "_law_disk", "_law_mask_here", "_law_value"] vs) H := by
  obtain ⟨v, u, s, d, rfl, ⟨p1, rfl, h1⟩, ⟨p2, rfl, h2⟩, hl, q⟩ := h
  refine ⟨_, rfl, _, rfl, p1, p2, _, _, rfl, .inr ⟨sqT h1, sqT h2, ?_⟩⟩
  refine for_over (over_zipT (a2_nat (H := H) s) (a2_nat (H := H) d) hl) (fun r σ H1 => Same H H1 ∧ ∃ (u2 u3 : Option V), σ = [some (.ref p1), some (.ref p2), u2, u3] ∧ RwM.inS (r.map (·.1)) (r.map (·.2)) = RwM.inS s d) ⟨Same.refl H, _, _, rfl, ?_⟩ (fun r σ H1 p => ⟨sqT (p.1 _ _ h1), sqT (p.1 _ _ h2)⟩) ?_ ?_
  · have e1 : (s.zip d).map (·.1) = s := List.map_fst_zip (by omega)
    have e2 : (s.zip d).map (·.2) = d := List.map_snd_zip (by omega)
    rw [e1, e2]
  · rintro ⟨m, v⟩ r w σ H1 _ hm ⟨sm, u2, u3, rfl, he⟩ ⟨T, _, _, rfl, hT, rfl, rfl, rfl⟩
    have sT : Same H1 (upd H1 T (.tup [nV m, nV v])) := same_new hT
    refine ⟨T, _, rfl, sqT upd_same, rfl, _, _, rfl, _, _, rfl, rfl, ?_⟩
    have he : (m.testBit v && RwM.inS (r.map (·.1)) (r.map (·.2))) = RwM.inS s d := he
    refine ⟨_, rfl, _, rfl, m, v, rfl, rfl, _, 1, rfl, rfl, _, 0, rfl, rfl, _, rfl, if_is (bit_dec m v) (fun e => ?_) fun e => ?_⟩
    · have e : m.testBit v = false := by simpa using e
      rw [e, Bool.false_and] at he
      rw [← he] at q
      exact q _ (sm.trans sT)
    · have e : m.testBit v = true := by simpa using e
      rw [e, Bool.true_and] at he
      exact ⟨sm.trans sT, _, _, rfl, he⟩
  · rintro σ H1 ⟨sm, u2, u3, rfl, he⟩
    have he : true = RwM.inS s d := he
    rw [← he] at q
    exact q _ sm
theorem rd_l_has (vs : List V) (H : Hp) (Q : VK) (E : XK) (h : lHas vs H Q E) : t_l_has K { nx := fun _ H1 => Q .non H1, rt := Q } (start ["_law_piece_here", "_law_disk", "_law_sketch_here"] vs) H := by
  obtain ⟨v, u, p, d, rfl, ⟨p1, us, rfl, h1, hr⟩, hd, hl, q⟩ := h
  refine ⟨_, rfl, p1, rfl, ⟨_, sqL h1⟩, ?_⟩
  refine for_over (over_list hr) (fun r σ H1 => Same H H1 ∧ ∃ (u2 : Option V), σ = [some (.ref p1), some u, u2] ∧ RwM.has r d = RwM.has p d) ⟨Same.refl H, _, rfl, rfl⟩ (fun r σ H1 p => sqL (p.1 _ _ h1)) ?_ ?_
  · rintro s r w σ _ H1 hm ⟨sm, u2, rfl, he⟩ ⟨rfl, hx⟩
    have he : (RwM.inS s d || RwM.has r d) = RwM.has p d := he
    refine ⟨_, rfl, _, rfl, _, _, s, d, rfl, MonoS.mono sm hx, MonoS.mono sm hd, hl s hm, fun H2 s2 => ⟨_, rfl, if_b (fun e => ?_) fun e => ?_⟩⟩
    · rw [e, Bool.true_or] at he
      rw [← he] at q
      exact q _ (sm.trans s2)
    · rw [e, Bool.false_or] at he
      exact ⟨sm.trans s2, _, rfl, he⟩
  · rintro σ H1 ⟨sm, u2, rfl, he⟩
    have he : false = RwM.has p d := he
    rw [← he] at q
    exact q _ sm
theorem rd_l_included (vs : List V) (H : Hp) (Q : VK) (E : XK) (h : lIncl vs H Q E) : t_l_included K { nx := fun _ H1 => Q .non H1, rt := Q } (start ["_law_a", "_law_b", "_law_left", "_law_right"] vs) H := by
  obtain ⟨v, u, a, b, rfl, ⟨p1, rfl, h1⟩, ⟨p2, rfl, h2⟩, hl, q⟩ := h
  refine ⟨_, rfl, _, rfl, p1, p2, _, _, rfl, .inr ⟨sqT h1, sqT h2, ?_⟩⟩
  refine for_over (over_zipT (a2_nat (H := H) a) (a2_nat (H := H) b) hl) (fun r σ H1 => Same H H1 ∧ ∃ (u2 u3 : Option V), σ = [some (.ref p1), some (.ref p2), u2, u3] ∧ RwM.incl (r.map (·.1)) (r.map (·.2)) = RwM.incl a b) ⟨Same.refl H, _, _, rfl, ?_⟩ (fun r σ H1 p => ⟨sqT (p.1 _ _ h1), sqT (p.1 _ _ h2)⟩) ?_ ?_
  · have e1 : (a.zip b).map (·.1) = a := List.map_fst_zip (by omega)
    have e2 : (a.zip b).map (·.2) = b := List.map_snd_zip (by omega)
    rw [e1, e2]
  · rintro ⟨x, y⟩ r w σ H1 _ hm ⟨sm, u2, u3, rfl, he⟩ ⟨T, _, _, rfl, hT, rfl, rfl, rfl⟩
    have sT : Same H1 (upd H1 T (.tup [nV x, nV y])) := same_new hT
    refine ⟨T, _, rfl, sqT upd_same, rfl, _, _, rfl, _, _, rfl, rfl, ?_⟩
    have he : ((x &&& y == x) && RwM.incl (r.map (·.1)) (r.map (·.2))) = RwM.incl a b := he
    refine ⟨_, rfl, _, rfl, x, y, rfl, rfl, _, rfl, _, x, rfl, rfl, _, rfl, if_b (fun e => ?_) fun e => ?_⟩
    · have e : ¬ (x &&& y = x) := of_decide_eq_false (by simpa using e)
      rw [show (x &&& y == x) = false by simpa using e, Bool.false_and] at he
      rw [← he] at q
      exact q _ (sm.trans sT)
    · have e : x &&& y = x := by simpa using e
      rw [show (x &&& y == x) = true by simpa using e, Bool.true_and] at he
      exact ⟨sm.trans sT, _, _, rfl, he⟩
  · rintro σ H1 ⟨sm, u2, u3, rfl, he⟩
    have he : true = RwM.incl a b := he
    rw [← he] at q
    exact q _ sm
theorem rd_l_can (vs : List V) (H : Hp) (Q : VK) (E : XK) (h : lCan vs H Q E) : t_l_can K { nx := fun _ H1 => Q .non H1, rt := Q } (start ["_law_deeds", "_law_disk", "_law_deed_here", "_law_cell_here", "_law_mask_here"] vs) H := by
  obtain ⟨v, u, ds, d, k, deed, rfl, ⟨p1, us, rfl, h1, hr⟩, ⟨p2, rfl, h2⟩, hk, hg, q⟩ := h
  obtain ⟨w, hw, a, g, ch, rfl, ha, ⟨pg, gs, rfl, hpg, hrg⟩, _⟩ := A2.get_r hr hk
  refine ⟨_, rfl, _, rfl, p1, _, _, _, rfl, rfl, sqL h1, at_nat hw, a, _, _, _, rfl, rfl, sqT ha, at_nat (j := 1) rfl, pg, rfl, ⟨_, sqT hpg⟩, ?_⟩
  refine for_over (over_tup hrg) (fun r σ H1 => Same H H1 ∧ ∃ (u3 u4 : Option V), σ = [some (.ref p1), some (.ref p2), some (nV k), u3, u4] ∧ (r.all fun p => p.2.testBit (d.getD p.1 0)) = RwM.can deed d) ⟨Same.refl H, _, _, rfl, rfl⟩ (fun r σ H1 p => sqT (p.1 _ _ hpg)) ?_ ?_
  · rintro ⟨cl, m⟩ r x σ _ H1 hm ⟨sm, u3, u4, rfl, he⟩ ⟨rfl, b, rfl, hb⟩
    refine ⟨b, _, rfl, sqT (sm _ _ hb), rfl, _, _, rfl, _, _, rfl, rfl, ?_⟩
    have he : (m.testBit (d.getD cl 0) && (r.all fun p => p.2.testBit (d.getD p.1 0))) = RwM.can deed d := he
    have hc : cl < d.length := hg _ hm
    refine ⟨_, rfl, _, rfl, _, rfl, p2, _, _, _, rfl, rfl, sqT (sm _ _ h2), at_nat (map_at (getD_at hc)), m, _, rfl, rfl, _, 1, rfl, rfl, _, 0, rfl, rfl, _, rfl, if_is (bit_dec m _) (fun e => ?_) fun e => ?_⟩
    · have e : m.testBit (d.getD cl 0) = false := by simpa using e
      rw [e, Bool.false_and] at he
      rw [← he] at q
      exact q _ sm
    · have e : m.testBit (d.getD cl 0) = true := by simpa using e
      rw [e, Bool.true_and] at he
      exact ⟨sm, _, _, rfl, he⟩
  · rintro σ H1 ⟨sm, u3, u4, rfl, he⟩
    have he : true = RwM.can deed d := he
    rw [← he] at q
    exact q _ sm
theorem rd_l_after (vs : List V) (H : Hp) (Q : VK) (E : XK) (h : lAfter vs H Q E) : t_l_after K { nx := fun _ H1 => Q .non H1, rt := Q } (start ["_law_deeds", "_law_disk", "_law_deed_here", "_law_values", "_law_cell_here", "_law_source"] vs) H := by
  obtain ⟨v, u, ds, d, k, deed, sizes, rfl, ⟨p1, us, rfl, h1, hr⟩, ⟨p2, rfl, h2⟩, hk, ok, hl, q⟩ := h
  obtain ⟨w, hw, a, g, ch, rfl, ha, _, ⟨pc, cs, rfl, hpc, hrc⟩⟩ := A2.get_r hr hk
  refine ⟨_, rfl, p2, _, rfl, .inr (sqT h2), fun l hl0 => ?_⟩
  have s0 : Same H (upd H l (.lst (d.map nV))) := same_new hl0
  refine ⟨_, rfl, _, rfl, p1, _, _, _, rfl, rfl, sqL (s0 _ _ h1), at_nat hw, a, _, _, _, rfl, rfl, sqT (s0 _ _ ha), at_nat (j := 2) rfl, pc, rfl, ⟨_, sqT (s0 _ _ hpc)⟩, ?_⟩
  refine for_over (over_tup hrc) (fun r σ H1 => Same H H1 ∧ ∃ (cur : List Nat) (u4 u5 : Option V), σ = [some (.ref p1), some (.ref p2), some (nV k), some (.ref l), u4, u5] ∧ H1 l = some (.lst (cur.map nV)) ∧ cur.length = d.length ∧ r.foldl (fun vs c => vs.set c.1 (RwM.val d c.2)) cur = RwM.after deed d)
    ⟨s0, d, _, _, rfl, upd_same, rfl, rfl⟩ (fun r σ H1 p => sqT (p.1 _ _ hpc)) ?_ ?_
  · rintro ⟨cl, src⟩ r x σ _ H1 hm ⟨sm, cur, u4, u5, rfl, hcur, hlen, he⟩ ⟨rfl, b, sv, rfl, hb, b2, rfl, hb2⟩
    obtain ⟨g1, g2⟩ := ok.chg _ hm
    have g1 : cl < sizes.length := g1
    have hb2' := sm _ _ hb2
    refine ⟨b, _, rfl, sqT (sm _ _ hb), rfl, _, _, rfl, _, _, rfl, rfl, ?_⟩
    have hset : ∀ y : Nat, (cur.map nV).set cl (nV y) = (cur.set cl y).map nV := fun y => by rw [List.map_set]
    cases src with
    | set y =>
      refine ⟨_, rfl, b2, _, _, _, rfl, rfl, sqT hb2', at_nat (j := 0) rfl, rfl, _, rfl, if_yes rfl ?_⟩
      refine ⟨_, rfl, b2, _, _, _, rfl, rfl, sqT hb2', at_nat (j := 1) rfl, ?_⟩
      refine ⟨_, rfl, _, rfl, l, _, _, cl, rfl, rfl, hcur, ixn (by rw [List.length_map]; omega), same_mut sm hl0, cur.set cl y, _, _, rfl, ?_, by rw [List.length_set]; exact hlen, he⟩
      rw [upd_same, hset]
    | copy o =>
      obtain ⟨g2, g3⟩ : o < sizes.length ∧ sizes.getD o 0 ≤ sizes.getD cl 0 := g2
      refine ⟨_, rfl, b2, _, _, _, rfl, rfl, sqT hb2', at_nat (j := 0) rfl, rfl, _, rfl, if_no (by decide +kernel) ?_⟩
      refine ⟨_, rfl, _, rfl, b2, _, _, _, rfl, rfl, sqT hb2', at_nat (j := 1) rfl, p2, _, _, _, rfl, rfl, sqT (sm _ _ h2), at_nat (map_at (getD_at (show o < d.length by omega))), ?_⟩
      refine ⟨_, rfl, _, rfl, l, _, _, cl, rfl, rfl, hcur, ixn (by rw [List.length_map]; omega), same_mut sm hl0, cur.set cl (d.getD o 0), _, _, rfl, ?_, by rw [List.length_set]; exact hlen, he⟩
      rw [upd_same, hset]
  · rintro σ H1 ⟨sm, cur, u4, u5, rfl, hcur, hlen, he⟩
    have he : cur = RwM.after deed d := he
    refine ⟨_, rfl, l, _, rfl, .inl ⟨sqL hcur, fun p hp => q _ _ (sm.trans (same_new hp)) ⟨p, rfl, ?_⟩⟩⟩
    rw [upd_same, he]
end RwW
/-! readings, part 6b: the law's numbers -/
namespace RwW
open PySem L2 RwR
open RwM (A2 Sk Dk Src Deed Mach SS vSk vDk MachOk DeedOk SInv OrgOk Ext)
variable {K : PySem.W.Frag} {c : Cs}

theorem mix_eq (z : Int) (k : Nat) : (((((((z * 48271 + ((k * 69621 : Nat) : Int) + ((12345 : Nat) : Int)) % ((2147483647 : Nat) : Int)).toNat * 16807 + k * 40692 + 777 : Nat)) : Int) % ((2147483629 : Nat) : Int)).toNat / 997) = mix z k := by
  unfold mix mixI
  generalize hA : z * 48271 + ((k * 69621 : Nat) : Int) + ((12345 : Nat) : Int) = A
  have e : z * 48271 + (k : Int) * 69621 + 12345 = A := by rw [← hA]; omega
  rw [e]
  have h1 : 0 ≤ A % 2147483647 := Int.emod_nonneg _ (by decide)
  generalize hB : A % 2147483647 = B at h1
  have e2 : ((B.toNat * 16807 + k * 40692 + 777 : Nat) : Int) = B * 16807 + (k : Int) * 40692 + 777 := by omega
  rw [e2]
  generalize B * 16807 + (k : Int) * 40692 + 777 = C
  have h2 : 0 ≤ C % 2147483629 := Int.emod_nonneg _ (by decide)
  have h3 : C % ((2147483629 : Nat) : Int) = C % 2147483629 := rfl
  rw [h3]
  generalize C % 2147483629 = D at h2
  omega
theorem rd_l_mix (vs : List V) (H : Hp) (Q : VK) (E : XK) (h : spMix vs H Q E) : t_l_mix K { nx := fun _ H1 => Q .non H1, rt := Q } (start ["_law_cell_here", "_law_k", "_law_number"] vs) H := by
  obtain ⟨z, k, rfl, q⟩ := h
  refine ⟨_, rfl, z, 48271, rfl, rfl, .inr ⟨by decide, by decide⟩, _, rfl, k, 69621, rfl, rfl, .inr (by decide), _, _, rfl, rfl, _, _, rfl, rfl, _, rfl, _, 2147483647, rfl, rfl, by decide, ?_⟩
  refine ⟨_, rfl, _, 16807, rfl, rfl, .inr (by decide), _, rfl, k, 40692, rfl, rfl, .inr (by decide), _, _, rfl, rfl, _, 777, rfl, rfl, _, rfl, _, 2147483629, rfl, rfl, by decide, ?_⟩
  refine ⟨_, rfl, _, 997, rfl, rfl, ⟨by decide, by decide⟩, ?_⟩
  have key : ∀ n : Nat, n = mix z k → Q (nV n) H := fun n e => by
    rw [e]
    exact q _ (Same.refl _)
  refine key _ ?_
  exact mix_eq z k
end RwW
/-! readings, part 7: the law's meet, split, without, late parts -/
namespace RwW
open PySem L2 RwR
open RwM (A2 Sk Dk Src Deed Mach SS vSk vDk MachOk DeedOk SInv OrgOk Ext)
variable {K : PySem.W.Frag} {c : Cs}

theorem b2 : ∀ a b : Fin 2, (a.1 &&& b.1) + (a.1 ^^^ (a.1 &&& b.1)) = a.1 := by decide
theorem key : ∀ x z : Nat, (x &&& z) + (x ^^^ (x &&& z)) = x := by
  intro x
  induction x using Nat.strongRecOn with
  | _ x ih =>
    intro z
    by_cases h : x = 0
    · subst h
      simp
    · have e := ih (x / 2) (by omega) (z / 2)
      have h1 : (x &&& z) / 2 = (x / 2) &&& (z / 2) := Nat.and_div_two
      have h2 : (x ^^^ (x &&& z)) / 2 = (x / 2) ^^^ ((x &&& z) / 2) := Nat.xor_div_two
      have h3 : (x &&& z) % 2 ^ 1 = (x % 2 ^ 1) &&& (z % 2 ^ 1) := Nat.and_mod_two_pow
      have h4 : (x ^^^ (x &&& z)) % 2 ^ 1 = (x % 2 ^ 1) ^^^ ((x &&& z) % 2 ^ 1) := Nat.xor_mod_two_pow
      have b := b2 ⟨x % 2 ^ 1, Nat.mod_lt _ (by decide)⟩ ⟨z % 2 ^ 1, Nat.mod_lt _ (by decide)⟩
      simp only at b
      rw [← h3, ← h4] at b
      rw [← h1, ← h2] at e
      omega

theorem inV_nat (k : Nat) : ∀ (s : List Nat), inV (nV k) (s.map nV) = decide (k ∈ s)
  | [] => by simp [inV]
  | x :: s => by
    have ih := inV_nat k s
    unfold inV at ih ⊢
    rw [List.map_cons, List.any_cons, ih]
    have e : eqV (nV x) (nV k) = decide (k = x) := by
      show (((x : Int)) == (k : Int)) = decide (k = x)
      by_cases h : k = x
      · subst h
        simp
      · rw [decide_eq_false h]
        simp
        omega
    rw [e]
    simp [Bool.decide_or, List.mem_cons]
theorem flat_nat (s : List Nat) : (s.map nV).all flatV = true := by
  rw [List.all_map, List.all_eq_true]
  intro x _
  rfl
theorem zip_meet : ∀ (a b : List Nat), (a.zip b).map (fun d => d.1 &&& d.2) = RwM.meetL a b
  | [], _ => rfl
  | _ :: _, [] => rfl
  | x :: a, y :: b => by
    have ih := zip_meet a b
    rw [List.zip_cons_cons, List.map_cons, ih]
    rfl
theorem rd_l_meet (vs : List V) (H : Hp) (Q : VK) (E : XK) (h : lMeet vs H Q E) : t_l_meet K { nx := fun _ H1 => Q .non H1, rt := Q } (start ["_law_a", "_law_b", "_law_both", "_law_left", "_law_right"] vs) H := by
  obtain ⟨v, u, a, b, rfl, ⟨p1, rfl, h1⟩, ⟨p2, rfl, h2⟩, hl, hz, q⟩ := h
  refine ⟨_, rfl, _, rfl, p1, p2, _, _, rfl, .inr ⟨sqT h1, sqT h2, fun D hD => ?_⟩⟩
  refine lc_map (S := IsNat) (f := fun d => d.1 &&& d.2) (over_zipT (a2_nat (H := H) a) (a2_nat (H := H) b) hl) hD (fun H1 sm => ⟨sqT (sm _ _ h1), sqT (sm _ _ h2)⟩) (by rw [List.length_zip]; omega) ?_ ?_
  · rintro ⟨x, y⟩ w H1 H2 N hm sm ⟨T, _, _, rfl, hT, rfl, rfl, rfl⟩ hN
    exact ⟨T, _, rfl, sqT upd_same, rfl, _, _, rfl, _, _, rfl, rfl, rfl, _, rfl, _, rfl, x, y, rfl, rfl, hN _ _ (same_new hT) rfl⟩
  · rintro H1 ys sm hy r
    rw [zip_meet] at r
    refine ⟨D, ys, rfl, .inl ⟨sqL hy, fun l hl => ?_⟩⟩
    have sl : Same H (upd H1 l (.tup ys)) := sm.trans (same_new hl)
    rw [nat_a2 r] at sl ⊢
    refine ⟨_, rfl, l, _, rfl, .inr (sqT upd_same), rfl, flat_nat _, _, rfl, ?_⟩
    refine if_is (inV_nat 0 _) (fun e => ?_) fun e => ?_
    · have e : 0 ∈ RwM.meetL a b := of_decide_eq_true e
      refine q _ _ sl ?_
      unfold RwM.meet
      rw [if_pos e]
      rfl
    · have e : 0 ∉ RwM.meetL a b := of_decide_eq_false e
      refine ⟨_, rfl, q _ _ sl ?_⟩
      unfold RwM.meet
      rw [if_neg e]
      exact ⟨l, rfl, upd_same⟩
theorem rd_l_split (vs : List V) (H : Hp) (Q : VK) (E : XK) (h : lSplit vs H Q E) : t_l_split K { nx := fun _ H1 => Q .non H1, rt := Q } (start ["_law_a", "_law_b", "_law_both", "_law_parts_here", "_law_k"] vs) H := by
  obtain ⟨v, u, a, b, rfl, ⟨p1, rfl, h1⟩, ⟨p2, rfl, h2⟩, hl, hz, q⟩ := h
  refine ⟨_, rfl, _, rfl, _, _, a, b, rfl, ⟨p1, rfl, h1⟩, ⟨p2, rfl, h2⟩, hl, by omega, fun H1 w s1 hw => ?_⟩
  cases e : RwM.meet a b with
  | none =>
    rw [e] at hw
    obtain rfl : w = .non := hw
    refine ⟨_, rfl, _, rfl, if_is (c := true) rfl (fun _ => ?_) fun z => nomatch z⟩
    refine ⟨_, rfl, by show 1 ≤ sizeLine; decide, fun p hp => q _ _ (s1.trans (same_new hp)) ⟨p, _, rfl, none_back s1 hp, upd_same, ?_⟩⟩
    unfold RwM.split
    rw [e]
    refine .cons ⟨p1, rfl, ?_⟩ .nil
    rw [upd_ne (ne_of_none (s1 _ _ h1) hp)]
    exact s1 _ _ h1
  | some m =>
    rw [e] at hw
    obtain ⟨p3, rfl, h3⟩ : IsN H1 w m := hw
    have lm : m.length = a.length := RwM.meet_len hl e
    have hmeet := (RwM.meet_some e).1
    refine ⟨_, rfl, _, rfl, if_is (c := false) rfl (fun z => nomatch z) fun _ => ?_⟩
    refine ⟨Nat.zero_le _, fun l hl0 => ?_⟩
    have hlH := none_back s1 hl0
    have s2 : Same H (upd H1 l (.lst [])) := s1.trans (same_new hl0)
    have h3' : (upd H1 l (.lst [])) p3 = some (.tup (m.map nV)) := same_new hl0 _ _ h3
    have hla : (a.map nV).length = a.length := List.length_map _
    refine ⟨_, rfl, p1, _, rfl, .inr (sqT (s2 _ _ h1)), _, rfl, by rw [hla]; omega, by rw [hla]; omega, ?_⟩
    have esp : RwM.split a b = RwM.splitGo [] a m := by
      unfold RwM.split
      rw [e]
    rw [hla, Int.toNat_natCast]
    refine for_over over_range (fun r σ H' => Same H H' ∧ H' p3 = some (.tup (m.map nV)) ∧ ∃ (k : Nat) (done : List Sk) (ys : List V) (u4 : Option V), r = (List.range a.length).drop k ∧ k ≤ a.length ∧ σ = [some (.ref p1), some (.ref p2), some (.ref p3), some (.ref l), u4] ∧
        H' l = some (.lst ys) ∧ A2 (IsN H') ys done ∧ done.length ≤ k ∧ done ++ RwM.splitGo (m.take k) (a.drop k) (m.drop k) = RwM.split a b) ⟨s2, h3', 0, [], [], _, by simp, Nat.zero_le _, rfl, upd_same, .nil, by simp, by simp [esp]⟩
      (fun _ _ _ _ => trivial) ?_ ?_
    · rintro i r w σ _ H' hm ⟨s, h3, k, done, ys, u4, hr, hk, rfl, hd, hA, hn, he⟩ ⟨rfl, rfl⟩
      have hk1 : k < a.length := by
        refine Nat.lt_of_not_le fun z => ?_
        rw [List.drop_eq_nil_of_le (by simpa using z)] at hr
        cases hr
      have hr2 : (List.range a.length).drop k = k :: (List.range a.length).drop (k + 1) := by
        rw [List.drop_eq_getElem_cons (by simpa using hk1)]
        simp
      rw [hr2] at hr
      injection hr with e1 e2
      subst e1
      have hmk : m[i]? = some (m[i]'(by omega)) := List.getElem?_eq_getElem _
      have hak : a[i]? = some a[i] := List.getElem?_eq_getElem _
      have hbk : b[i]? = some (b[i]'(by omega)) := List.getElem?_eq_getElem _
      have hval : m[i]'(by omega) = a[i] &&& b[i]'(by omega) := by
        have : (RwM.meetL a b)[i]? = some (a[i] &&& b[i]'(by omega)) := by
          unfold RwM.meetL
          rw [List.getElem?_zipWith, hak, hbk]
        rw [← hmeet, hmk] at this
        exact Option.some.inj this
      have kk := key a[i] (b[i]'(by omega))
      rw [← hval] at kk
      have hg := splitGo_take a m i hk1 lm.symm
      rw [hg] at he
      refine ⟨_, rfl, _, rfl, p1, _, _, _, rfl, rfl, sqT (s _ _ h1), at_nat (map_at hak), _, rfl, _, rfl, p3, _, _, _, rfl, rfl, sqT h3, at_nat (map_at hmk), a[i], m[i]'(by omega), rfl, rfl, _, rfl, if_b (fun e => ?_) fun e => ?_⟩
      · have e : ¬ (a[i] = m[i]'(by omega)) := of_decide_eq_false (by simpa using e)
        have hx : a[i] ^^^ m[i]'(by omega) = a[i] - m[i]'(by omega) := by omega
        have hx0 : ¬ (a[i] ^^^ m[i]'(by omega) = 0) := by omega
        rw [if_neg hx0] at he
        refine ⟨_, rfl, .inl ⟨rfl, _, sqL hd⟩, _, rfl, _, rfl, ?_⟩
        refine ⟨_, rfl, p3, _, rfl, sqT h3, fun z => ?_, fun _ pa ha => ?_⟩
        · have := z.2
          rw [HT.sIx_nat, List.length_map] at this
          omega
        have sa : Same H' (upd H' pa (.tup (cutV (m.map nV) none (some ((i : Nat) : Int))))) := same_new ha
        refine ⟨_, rfl, _, rfl, p1, _, _, _, rfl, rfl, sqT (sa _ _ (s _ _ h1)), at_nat (map_at hak), _, rfl, _, rfl, p3, _, _, _, rfl, rfl, sqT (sa _ _ h3), at_nat (map_at hmk), a[i], m[i]'(by omega), rfl, rfl, by omega, ?_⟩
        refine ⟨by show 1 ≤ sizeLine; decide, fun pb hb => ?_⟩
        have sb := same_new (o := .tup [nV (a[i] - m[i]'(by omega))]) hb
        refine cat_any (sb _ _ upd_same) upd_same (by rw [cut_to _ _ (by rw [List.length_map]; omega)]; simp; omega) fun H2 pc sc hc => ?_
        refine ⟨_, rfl, _, rfl, i, 1, rfl, rfl, _, rfl, p1, _, rfl, sqT (sc _ _ (sb _ _ (sa _ _ (s _ _ h1)))), fun z => ?_, fun _ pd hd0 => ?_⟩
        · have := z.1
          rw [HT.sIx_nat, List.length_map] at this
          omega
        have sd := same_new (o := .tup (cutV (a.map nV) (some (((i + 1 : Nat)) : Int)) none)) hd0
        refine cat_any (sd _ _ hc) upd_same (by rw [cut_to _ _ (by rw [List.length_map]; omega), cut_from _ _ (by rw [List.length_map]; omega)]; simp; omega) fun H3 pe se hpe => ?_
        have sall : Same H' H3 := ((sa.trans sb).trans sc).trans (sd.trans se)
        have hlast := sall _ _ hd
        rw [cut_to _ _ (by rw [List.length_map]; omega), cut_from _ _ (by rw [List.length_map]; omega)] at hpe
        have hA3 := a2_mono (ts_of sall) hA
        have tl : Ts H3 (upd H3 l (.lst (ys ++ [.ref pe]))) := ts_lst hlast
        refine ⟨l, _, _, rfl, rfl, hlast, sz_lt' (by rw [hA.length]; omega), same_mut (s.trans sall) hlH, by rw [upd_ne (ne_of (sall _ _ h3) hlast (by intro z; cases z))]; exact sall _ _ h3, i + 1, done ++ [m.take i ++ (a[i] ^^^ m[i]'(by omega)) :: a.drop (i + 1)], _, _, e2, hk1, rfl, upd_same, ?_, by simp; omega, ?_⟩
        · refine A2.snoc (a2_mono tl hA3) ⟨pe, rfl, tl _ _ ?_⟩
          rw [hpe, hx]
          simp [List.map_take, List.map_drop]
        · rw [← he]
          simp
      · have e : a[i] = m[i]'(by omega) := by simpa using e
        have hx0 : a[i] ^^^ m[i]'(by omega) = 0 := by omega
        rw [if_pos hx0] at he
        exact ⟨s, h3, i + 1, done, ys, _, e2, hk1, rfl, hd, hA, by omega, he⟩
    · rintro σ H' ⟨s, h3, k, done, ys, u4, hr, hk, rfl, hd, hA, hn, he⟩
      have hk1 : a.length ≤ k := by
        refine Nat.le_of_not_lt fun z => ?_
        rw [List.drop_eq_getElem_cons (by simpa using z)] at hr
        cases hr
      rw [splitGo_end a m k hk1, List.append_nil] at he
      refine ⟨_, rfl, q _ _ s ⟨l, ys, rfl, hlH, hd, ?_⟩⟩
      rw [← he]
      exact hA
end RwW
/-! readings, part 8: without, late parts -/
namespace RwW
open PySem L2 RwR
open RwM (A2 Sk Dk Src Deed Mach SS vSk vDk MachOk DeedOk SInv OrgOk Ext)
variable {K : PySem.W.Frag} {c : Cs}

theorem withoutGo_few {n : Nat} (hn : n ≤ 4) : ∀ {p ps : List Sk}, (∀ q ∈ ps, q.length = n) → (∀ q ∈ p, q.length = n) → (p.foldl (fun ps s => ps.flatMap fun o => RwM.split o s) ps).length ≤ ps.length * 4 ^ p.length
  | [], ps, _, _ => by simp
  | s :: p, ps, h1, h2 => by
    rw [List.foldl_cons]
    have ih := withoutGo_few hn (p := p) (ps := ps.flatMap fun o => RwM.split o s) (RwM.flat_len h1) fun q hq => h2 q (List.mem_cons_of_mem _ hq)
    have h3 := flat_few (s := s) (ps := ps) fun q hq => by rw [h1 q hq]; omega
    refine Nat.le_trans ih (Nat.le_trans (Nat.mul_le_mul_right _ h3) ?_)
    rw [List.length_cons, Nat.pow_succ, Nat.mul_comm 4 ps.length, Nat.mul_assoc, Nat.mul_comm 4 (4 ^ p.length)]
    exact Nat.le_refl _
theorem without_few {a : Sk} {p : List Sk} (ha : a.length ≤ 4) (hp : ∀ q ∈ p, q.length = a.length) (h2 : p.length ≤ 2) : (RwM.without a p).length ≤ 16 := by
  have h := withoutGo_few ha (p := p) (ps := [a]) (fun q hq => by rw [List.mem_singleton] at hq; rw [hq]) hp
  have h3 : 4 ^ p.length ≤ 4 ^ 2 := Nat.pow_le_pow_right (by omega) h2
  unfold RwM.without
  simp at h
  omega
theorem rd_l_without (vs : List V) (H : Hp) (Q : VK) (E : XK) (h : lWithout vs H Q E) : t_l_without K { nx := fun _ H1 => Q .non H1, rt := Q } (start ["_law_a", "_law_piece_here", "_law_parts_here", "_law_sketch_here", "_law_following", "_law_part"] vs) H := by
  obtain ⟨v, u, a, p, rfl, ⟨p1, rfl, h1⟩, ⟨p2, us, rfl, h2, hr⟩, hl, hz, hpl, q⟩ := h
  refine ⟨_, rfl, by show 1 ≤ sizeLine; decide, fun l0 hl0 => ?_⟩
  have s0 : Same H (upd H l0 (.lst [.ref p1])) := same_new hl0
  refine ⟨_, rfl, p2, rfl, ⟨_, sqL (s0 _ _ h2)⟩, ?_⟩
  refine for_over (over_list hr) (fun r σ H1 => Same H H1 ∧ ∃ (l : Addr) (cur : List Sk) (ys : List V) (u3 u4 u5 : Option V), σ = [some (.ref p1), some (.ref p2), some (.ref l), u3, u4, u5] ∧ H l = none ∧ H1 l = some (.lst ys) ∧ A2 (IsN H1) ys cur ∧ (∀ q ∈ cur, q.length = a.length) ∧
      (∀ q ∈ r, q.length = a.length) ∧ cur.length * 4 ^ r.length ≤ 16 ∧ r.foldl (fun ps s => ps.flatMap fun o => RwM.split o s) cur = RwM.without a p)
    ⟨s0, l0, [a], _, _, _, _, rfl, hl0, upd_same, .cons ⟨p1, rfl, s0 _ _ h1⟩ .nil, fun q hq => by rw [List.mem_singleton] at hq; rw [hq], hl, ?_, rfl⟩ (fun r σ H1 p => sqL (p.1 _ _ h2)) ?_ ?_
  · have : 4 ^ p.length ≤ 4 ^ 2 := Nat.pow_le_pow_right (by omega) hpl
    simp
    omega
  · rintro s r x σ _ H1 hm ⟨sm, l, cur, ys, u3, u4, u5, rfl, hl0, hd, hA, hc, hrl, hb, he⟩ ⟨rfl, hx⟩
    have hs := hrl s List.mem_cons_self
    have cl : cur.length ≤ 16 := by
      have : 1 ≤ 4 ^ (s :: r).length := Nat.one_le_pow _ _ (by omega)
      have := Nat.le_trans (Nat.le_mul_of_pos_right cur.length this) hb
      omega
    have fl := flat_few (s := s) (ps := cur) fun q hq => by rw [hc q hq]; omega
    refine ⟨Nat.zero_le _, fun lf hlf => ?_⟩
    have sF : Same H1 (upd H1 lf (.lst [])) := same_new hlf
    refine ⟨_, rfl, l, rfl, ⟨_, sqL (sF _ _ hd)⟩, ?_⟩
    refine for_over (over_list hA) (fun r' σ H2 => Same H1 H2 ∧ ∃ (lf : Addr) (zs : List V) (done : List Sk) (u5 : Option V), σ = [some (.ref p1), some (.ref p2), some (.ref l), some x, some (.ref lf), u5] ∧ H1 lf = none ∧ H2 lf = some (.lst zs) ∧ A2 (IsN H2) zs done ∧
        done ++ r'.flatMap (fun o => RwM.split o s) = cur.flatMap fun o => RwM.split o s) ⟨sF, lf, [], [], _, rfl, hlf, upd_same, .nil, rfl⟩ (fun r' σ H2 p => sqL (p.1 _ _ hd)) ?_ ?_
    · rintro o r' w σ _ H2 hmo ⟨s2, lf, zs, done, u5, rfl, hlf, hz2, hA2, he2⟩ ⟨rfl, hw⟩
      refine ⟨_, rfl, _, rfl, _, rfl, _, _, o, s, rfl, MonoT.mono (ts_of s2) hw, MonoT.mono ((ts_of sm).trans (ts_of s2)) hx, by rw [hc o hmo, hs], by rw [hc o hmo]; omega, fun H3 w3 s3 hn3 => ?_⟩
      obtain ⟨p3, ws, rfl, hp3, h3, hA3⟩ := hn3
      refine ⟨lf, p3, zs, ws, rfl, rfl, s3 _ _ hz2, h3, ?_, fun pn hpn => ?_⟩
      · have e1 := hA2.length
        have e3 := hA3.length
        have e2 := congrArg List.length he2
        rw [List.flatMap_cons] at e2
        simp only [List.length_append] at e2
        exact sz12 (by omega)
      · have tn : Ts H3 (upd H3 pn (.lst (zs ++ ws))) := ts_new hpn
        refine ⟨(s2.trans s3).trans (same_new hpn), pn, zs ++ ws, done ++ RwM.split o s, _, rfl, none_back (s2.trans s3) hpn, upd_same, A2.append (a2_mono ((ts_of s3).trans tn) hA2) (a2_mono tn hA3), ?_⟩
        rw [← he2, List.flatMap_cons, List.append_assoc]
    · rintro σ H2 ⟨s2, lf, zs, done, u5, rfl, hlf, hz2, hA2, he2⟩
      rw [List.flatMap_nil, List.append_nil] at he2
      rw [he2] at hA2
      refine ⟨_, rfl, sm.trans s2, lf, _, zs, _, _, _, rfl, none_back sm hlf, hz2, hA2, RwM.flat_len hc, fun q hq => hrl q (List.mem_cons_of_mem _ hq), ?_, he⟩
      have e4 : cur.length * 4 ^ (s :: r).length = 4 * cur.length * 4 ^ r.length := by
        rw [List.length_cons, Nat.pow_succ, Nat.mul_comm (4 ^ r.length) 4, ← Nat.mul_assoc, Nat.mul_comm cur.length 4]
      rw [e4] at hb
      exact Nat.le_trans (Nat.mul_le_mul_right _ fl) hb
  · rintro σ H1 ⟨sm, l, cur, ys, u3, u4, u5, rfl, hl0, hd, hA, _, _, _, he⟩
    have he : cur = RwM.without a p := he
    rw [← he] at q
    exact ⟨_, rfl, q _ _ sm ⟨l, ys, rfl, hl0, hd, hA⟩⟩
theorem late_cons (a o : Sk) (e r : List Sk) : RwM.lateParts a e (o :: r) = (match RwM.meet a o with | none => [] | some m => RwM.without m e) ++ RwM.lateParts a e r := by
  unfold RwM.lateParts
  rw [List.flatMap_cons]
  all_goals rfl
theorem rd_late_parts (vs : List V) (H : Hp) (Q : VK) (E : XK) (h : spLateParts vs H Q E) : t_late_parts K { nx := fun _ H1 => Q .non H1, rt := Q } (start ["sketch", "early", "late", "parts", "other", "both"] vs) H := by
  obtain ⟨v, u, t, a, e, l, rfl, ha, hu, ⟨p3, us, rfl, h3, hr⟩, he, hl, hz, h2e, h2l, q⟩ := h
  refine ⟨Nat.zero_le _, fun l0 hl0 => ?_⟩
  have s0 : Same H (upd H l0 (.lst [])) := same_new hl0
  refine ⟨_, rfl, p3, rfl, ⟨_, sqL (s0 _ _ h3)⟩, ?_⟩
  refine for_over (over_list hr) (fun r σ H1 => Same H H1 ∧ ∃ (done : List Sk) (ys : List V) (u4 u5 : Option V), σ = [some v, some u, some (.ref p3), some (.ref l0), u4, u5] ∧ H1 l0 = some (.lst ys) ∧ A2 (IsN H1) ys done ∧ done.length + 16 * r.length ≤ 32 ∧ done ++ RwM.lateParts a e r = RwM.lateParts a e l)
    ⟨s0, [], [], _, _, rfl, upd_same, .nil, by simp; omega, rfl⟩ (fun r σ H1 p => sqL (p.1 _ _ h3)) ?_ ?_
  · rintro o r w σ _ H1 hm ⟨sm, done, ys, u4, u5, rfl, hd, hA, hn, hE⟩ ⟨rfl, hx⟩
    rw [late_cons] at hE
    have lo := hl o hm
    refine ⟨_, rfl, _, rfl, _, _, a, o, rfl, MonoS.mono sm ha, MonoS.mono sm hx, lo.symm, by omega, fun H2 w2 s2 hw => ?_⟩
    rw [List.length_cons] at hn
    cases em : RwM.meet a o with
    | none =>
      rw [em] at hw hE
      obtain rfl : w2 = .non := hw
      refine ⟨_, rfl, _, rfl, if_is (c := false) rfl (fun z => nomatch z) fun _ => ?_⟩
      exact ⟨sm.trans s2, done, ys, _, _, rfl, s2 _ _ hd, a2_mono (ts_of s2) hA, by omega, hE⟩
    | some m =>
      rw [em] at hw hE
      have hw : IsN H2 w2 m := hw
      obtain ⟨pm, rfl, hpm⟩ := hw
      have lm : m.length = a.length := RwM.meet_len lo.symm em
      have wf := without_few (a := m) (p := e) (by omega) (fun q hq => by rw [he q hq, lm]) h2e
      refine ⟨_, rfl, _, rfl, if_is (c := true) rfl (fun _ => ?_) fun z => nomatch z⟩
      refine ⟨_, rfl, _, rfl, _, rfl, _, _, m, e, rfl, ⟨pm, rfl, hpm⟩, MonoS.mono (sm.trans s2) hu, fun q hq => by rw [he q hq, lm], by omega, h2e, fun H3 w3 s3 hn3 => ?_⟩
      obtain ⟨p4, ws, rfl, hp4, h4, hA4⟩ := hn3
      have e1 := hA.length
      have e3 := hA4.length
      have hd3 : H3 l0 = some (.lst ys) := s3 _ _ (s2 _ _ hd)
      have tn : Ts H3 (upd H3 l0 (.lst (ys ++ ws))) := ts_lst hd3
      refine ⟨l0, p4, ys, ws, rfl, rfl, hd3, h4, sz12 (by omega), same_mut ((sm.trans s2).trans s3) hl0, done ++ RwM.without m e, ys ++ ws, _, _, rfl, upd_same, A2.append (a2_mono ((ts_of (s2.trans s3)).trans tn) hA) (a2_mono tn hA4), by rw [List.length_append]; omega, ?_⟩
      rw [← hE, List.append_assoc]
  · rintro σ H1 ⟨sm, done, ys, u4, u5, rfl, hd, hA, hn, hE⟩
    have hE : done ++ [] = RwM.lateParts a e l := hE
    rw [List.append_nil] at hE
    rw [← hE] at q
    exact ⟨_, rfl, q _ _ sm ⟨l0, ys, rfl, hl0, hd, hA⟩⟩
theorem rd_l_late (vs : List V) (H : Hp) (Q : VK) (E : XK) (h : lLate vs H Q E) : t_l_late K { nx := fun _ H1 => Q .non H1, rt := Q } (start ["_law_sketch_here", "_law_early", "_law_late_here", "_law_parts_here", "_law_other", "_law_both"] vs) H := by
  obtain ⟨v, u, t, a, e, l, rfl, ha, hu, ⟨p3, us, rfl, h3, hr⟩, he, hl, hz, h2e, h2l, q⟩ := h
  refine ⟨Nat.zero_le _, fun l0 hl0 => ?_⟩
  have s0 : Same H (upd H l0 (.lst [])) := same_new hl0
  refine ⟨_, rfl, p3, rfl, ⟨_, sqL (s0 _ _ h3)⟩, ?_⟩
  refine for_over (over_list hr) (fun r σ H1 => Same H H1 ∧ ∃ (l0 : Addr) (done : List Sk) (ys : List V) (u4 u5 : Option V), σ = [some v, some u, some (.ref p3), some (.ref l0), u4, u5] ∧ H l0 = none ∧ H1 l0 = some (.lst ys) ∧ A2 (IsN H1) ys done ∧ done.length + 16 * r.length ≤ 32 ∧ done ++ RwM.lateParts a e r = RwM.lateParts a e l)
    ⟨s0, l0, [], [], _, _, rfl, hl0, upd_same, .nil, by simp; omega, rfl⟩ (fun r σ H1 p => sqL (p.1 _ _ h3)) ?_ ?_
  · rintro o r w σ _ H1 hm ⟨sm, l0, done, ys, u4, u5, rfl, hl0, hd, hA, hn, hE⟩ ⟨rfl, hx⟩
    rw [late_cons] at hE
    have lo := hl o hm
    refine ⟨_, rfl, _, rfl, _, _, a, o, rfl, MonoS.mono sm ha, MonoS.mono sm hx, lo.symm, by omega, fun H2 w2 s2 hw => ?_⟩
    rw [List.length_cons] at hn
    cases em : RwM.meet a o with
    | none =>
      rw [em] at hw hE
      obtain rfl : w2 = .non := hw
      refine ⟨_, rfl, _, rfl, if_is (c := false) rfl (fun z => nomatch z) fun _ => ?_⟩
      exact ⟨sm.trans s2, l0, done, ys, _, _, rfl, hl0, s2 _ _ hd, a2_mono (ts_of s2) hA, by omega, hE⟩
    | some m =>
      rw [em] at hw hE
      have hw : IsN H2 w2 m := hw
      obtain ⟨pm, rfl, hpm⟩ := hw
      have lm : m.length = a.length := RwM.meet_len lo.symm em
      have wf := without_few (a := m) (p := e) (by omega) (fun q hq => by rw [he q hq, lm]) h2e
      refine ⟨_, rfl, _, rfl, if_is (c := true) rfl (fun _ => ?_) fun z => nomatch z⟩
      refine ⟨_, rfl, _, rfl, _, rfl, _, _, m, e, rfl, ⟨pm, rfl, hpm⟩, MonoS.mono (sm.trans s2) hu, fun q hq => by rw [he q hq, lm], by omega, h2e, fun H3 w3 s3 hn3 => ?_⟩
      obtain ⟨p4, ws, rfl, hp4, h4, hA4⟩ := hn3
      have e1 := hA.length
      have e3 := hA4.length
      have hd3 : H3 l0 = some (.lst ys) := s3 _ _ (s2 _ _ hd)
      refine ⟨l0, p4, ys, ws, rfl, rfl, hd3, h4, sz12 (by omega), fun pn hpn => ?_⟩
      have tn : Ts H3 (upd H3 pn (.lst (ys ++ ws))) := ts_new hpn
      have sall := (sm.trans s2).trans s3
      refine ⟨sall.trans (same_new hpn), pn, done ++ RwM.without m e, ys ++ ws, _, _, rfl, none_back sall hpn, upd_same, A2.append (a2_mono ((ts_of (s2.trans s3)).trans tn) hA) (a2_mono tn hA4), by rw [List.length_append]; omega, ?_⟩
      rw [← hE, List.append_assoc]
  · rintro σ H1 ⟨sm, l0, done, ys, u4, u5, rfl, hl0, hd, hA, hn, hE⟩
    have hE : done ++ [] = RwM.lateParts a e l := hE
    rw [List.append_nil] at hE
    rw [← hE] at q
    exact ⟨_, rfl, q _ _ sm ⟨l0, ys, rfl, hl0, hd, hA⟩⟩
end RwW
/-! readings, part 9: the sketch before a deed -/
namespace RwW
open PySem L2 RwR
open RwM (A2 Sk Dk Src Deed Mach SS vSk vDk MachOk DeedOk SInv OrgOk Ext)
variable {K : PySem.W.Frag} {c : Cs}

theorem ixn9 {n j : Nat} (hj : j < n) : ixN n (j : Int) = some j := by
  unfold ixN
  rw [if_pos (by omega), if_pos (by omega)]
  simp
theorem set_map (l : List Nat) (i x : Nat) : (l.map nV).set i (nV x) = (l.set i x).map nV := by rw [List.map_set]
theorem setFull_cons (sizes : List Nat) (p : Nat × Src) (r : List (Nat × Src)) (m : Sk) : RwM.setFull sizes (p :: r) m = RwM.setFull sizes r (m.set p.1 (2 ^ sizes.getD p.1 0 - 1)) := rfl
theorem all_ne (l : List Nat) : (l.map fun x => !decide (x = 0)).all id = !decide (0 ∈ l) := by
  induction l with
  | nil => rfl
  | cons x l ih =>
    rw [List.map_cons, List.all_cons, ih]
    by_cases h : x = 0
    · subst h
      simp
    · have h2 : ¬ 0 = x := fun q => h q.symm
      simp [h, h2]
theorem rd_l_before (vs : List V) (H : Hp) (Q : VK) (E : XK) (h : lBefore vs H Q E) : t_l_before K { nx := fun _ H1 => Q .non H1, rt := Q } (start ["_law_deeds", "_law_sizes", "_law_sketch_here", "_law_deed_here", "_law_name", "_law_guard", "_law_changes", "_law_masks", "_law_cell_here", "_law_source", "_law_mask_here"] vs) H := by
  obtain ⟨v1, v2, v3, ds, sizes, s, k, deed, rfl, ⟨p1, us, rfl, h1, hr⟩, ⟨p2, us2, rfl, h2, hr2⟩, ⟨p3, rfl, h3⟩, sz, hv, hk, ok, q⟩ := h
  obtain rfl := nat_a2 hr2
  have ls := RwM.vSk_len hv
  obtain ⟨w, hw, a, g, ch, rfl, ha, ⟨pg, gs, rfl, hpg, hrg⟩, ⟨pc, cs, rfl, hpc, hrc⟩⟩ := A2.get_r hr hk
  refine ⟨_, rfl, _, rfl, p1, _, _, _, rfl, rfl, sqL h1, at_nat hw, a, _, rfl, sqT ha, rfl, _, _, rfl, _, _, rfl, _, _, rfl, rfl, ?_⟩
  refine ⟨_, rfl, p3, _, rfl, .inr (sqT h3), fun l hl0 => ?_⟩
  have s0 : Same H (upd H l (.lst (s.map nV))) := same_new hl0
  refine ⟨_, rfl, pc, rfl, ⟨_, sqT (s0 _ _ hpc)⟩, ?_⟩
  refine for_over (over_tup hrc) (fun r σ H1 => Same H H1 ∧ ∃ (cur : List Nat) (u8 u9 u10 : Option V), σ = [some (.ref p1), some (.ref p2), some (.ref p3), some (nV k), some (.str (dName deed.id)), some (.ref pg), some (.ref pc), some (.ref l), u8, u9, u10] ∧ H1 l = some (.lst (cur.map nV)) ∧ cur.length = s.length ∧ RwM.setFull sizes r cur = RwM.setFull sizes deed.changes s)
    ⟨s0, s, _, _, _, rfl, upd_same, rfl, rfl⟩ (fun r σ H1 p => sqT (p.1 _ _ hpc)) ?_ ?_
  · rintro ⟨cl, src⟩ r x σ _ H1 hm ⟨sm, cur, u8, u9, u10, rfl, hcur, hlen, he⟩ ⟨rfl, b, sv, rfl, hb, _⟩
    have g1 : cl < sizes.length := (ok.chg _ hm).1
    have h3' := (sz.2.2 _ (List.mem_of_getElem? (getD_at g1))).2
    have hp2 : 1 ≤ 2 ^ sizes.getD cl 0 := Nat.one_le_two_pow
    refine ⟨b, _, rfl, sqT (sm _ _ hb), rfl, _, _, rfl, _, _, rfl, rfl, ?_⟩
    refine ⟨_, rfl, _, rfl, p2, _, _, _, rfl, rfl, sqL (sm _ _ h2), at_nat (map_at (getD_at g1)), 1, _, rfl, rfl, ⟨by decide, Nat.le_trans h3' (by decide)⟩, _, 1, rfl, rfl, Nat.le_trans hp2 (Nat.le_of_eq (Nat.one_mul _).symm), ?_⟩
    refine ⟨_, rfl, _, rfl, l, _, _, cl, rfl, rfl, hcur, ixn9 (by rw [List.length_map]; omega), same_mut sm hl0, cur.set cl (2 ^ sizes.getD cl 0 - 1), _, _, _, rfl, ?_, by rw [List.length_set]; exact hlen, he⟩
    rw [upd_same, Nat.one_mul, set_map]
  rintro σ H1 ⟨sm1, cur1, u8, u9, u10, rfl, hcur1, hlen1, he1⟩
  have he1 : cur1 = RwM.setFull sizes deed.changes s := he1
  refine ⟨_, rfl, pc, rfl, ⟨_, sqT (sm1 _ _ hpc)⟩, ?_⟩
  refine for_over (over_tup hrc) (fun r σ H1 => Same H H1 ∧ ∃ (cur : List Nat) (u8 u9 u10 : Option V), σ = [some (.ref p1), some (.ref p2), some (.ref p3), some (nV k), some (.str (dName deed.id)), some (.ref pg), some (.ref pc), some (.ref l), u8, u9, u10] ∧ H1 l = some (.lst (cur.map nV)) ∧ cur.length = s.length ∧ RwM.srcGo s r cur = RwM.srcGo s deed.changes (RwM.setFull sizes deed.changes s))
    ⟨sm1, cur1, _, _, _, rfl, hcur1, hlen1, by rw [he1]⟩ (fun r σ H1 p => sqT (p.1 _ _ hpc)) ?_ ?_
  · rintro ⟨cl, src⟩ r x σ _ H1 hm ⟨sm, cur, u8, u9, u10, rfl, hcur, hlen, he⟩ ⟨rfl, b, sv, rfl, hb, b2, rfl, hb2⟩
    obtain ⟨g1, g2⟩ := ok.chg _ hm
    have g1 : cl < sizes.length := g1
    have hb2' := sm _ _ hb2
    have g1s : cl < s.length := by omega
    refine ⟨b, _, rfl, sqT (sm _ _ hb), rfl, _, _, rfl, _, _, rfl, rfl, ?_⟩
    cases src with
    | set y =>
      have he : (if (s.getD cl 0).testBit y = true then RwM.srcGo s r cur else none) = RwM.srcGo s deed.changes (RwM.setFull sizes deed.changes s) := he
      refine ⟨_, rfl, b2, _, _, _, rfl, rfl, sqT hb2', at_nat (j := 0) rfl, rfl, _, rfl, if_no (by decide +kernel) ?_⟩
      refine ⟨_, rfl, _, rfl, p3, _, _, _, rfl, rfl, sqT (sm _ _ h3), at_nat (map_at (getD_at g1s)), _, rfl, b2, _, _, _, rfl, rfl, sqT hb2', at_nat (j := 1) rfl, s.getD cl 0, y, rfl, rfl, _, 1, rfl, rfl, _, 0, rfl, rfl, _, rfl, if_is (bit_dec _ y) (fun e => ?_) fun e => ?_⟩
      · have e : (s.getD cl 0).testBit y = false := by simpa using e
        rw [if_neg (by rw [e]; decide)] at he
        refine q _ _ sm ?_
        unfold RwM.before
        rw [← he]
        rfl
      · have e : (s.getD cl 0).testBit y = true := by simpa using e
        rw [if_pos e] at he
        exact ⟨sm, cur, _, _, _, rfl, hcur, hlen, he⟩
    | copy o =>
      obtain ⟨g2, g3⟩ : o < sizes.length ∧ sizes.getD o 0 ≤ sizes.getD cl 0 := g2
      have hoc : o < cur.length := by omega
      refine ⟨_, rfl, b2, _, _, _, rfl, rfl, sqT hb2', at_nat (j := 0) rfl, rfl, _, rfl, if_yes rfl ?_⟩
      refine ⟨_, rfl, _, rfl, b2, _, _, _, rfl, rfl, sqT hb2', at_nat (j := 1) rfl, l, _, _, _, rfl, rfl, sqL hcur, at_nat (map_at (getD_at hoc)), _, rfl, _, rfl, p3, _, _, _, rfl, rfl, sqT (sm _ _ h3), at_nat (map_at (getD_at g1s)), _, _, rfl, rfl, ?_⟩
      refine ⟨_, rfl, _, rfl, b2, _, _, _, rfl, rfl, sqT hb2', at_nat (j := 1) rfl, l, _, _, o, rfl, rfl, hcur, ixn9 (by rw [List.length_map]; omega), same_mut sm hl0, cur.set o (cur.getD o 0 &&& s.getD cl 0), _, _, _, rfl, ?_, by rw [List.length_set]; exact hlen, he⟩
      rw [upd_same, set_map]
  rintro σ H2 ⟨sm2, cur2, u8, u9, u10, rfl, hcur2, hlen2, he2⟩
  have he2 : some cur2 = RwM.srcGo s deed.changes (RwM.setFull sizes deed.changes s) := he2
  refine ⟨_, rfl, pg, rfl, ⟨_, sqT (sm2 _ _ hpg)⟩, ?_⟩
  refine for_over (over_tup hrg) (fun r σ H1 => Same H H1 ∧ ∃ (cur : List Nat) (u8 u9 u10 : Option V), σ = [some (.ref p1), some (.ref p2), some (.ref p3), some (nV k), some (.str (dName deed.id)), some (.ref pg), some (.ref pc), some (.ref l), u8, u9, u10] ∧ H1 l = some (.lst (cur.map nV)) ∧ cur.length = s.length ∧ RwM.guardGo r cur = RwM.guardGo deed.guard cur2)
    ⟨sm2, cur2, _, _, _, rfl, hcur2, hlen2, rfl⟩ (fun r σ H1 p => sqT (p.1 _ _ hpg)) ?_ ?_
  · rintro ⟨cl, m⟩ r x σ _ H1 hm ⟨sm, cur, u8, u9, u10, rfl, hcur, hlen, he⟩ ⟨rfl, b, rfl, hb⟩
    have g1 : cl < sizes.length := (ok.guard _ hm).1
    have hcl : cl < cur.length := by omega
    refine ⟨b, _, rfl, sqT (sm _ _ hb), rfl, _, _, rfl, _, _, rfl, rfl, ?_⟩
    refine ⟨_, rfl, _, rfl, l, _, _, _, rfl, rfl, sqL hcur, at_nat (map_at (getD_at hcl)), _, rfl, _, m, rfl, rfl, ?_⟩
    refine ⟨_, rfl, _, rfl, l, _, _, cl, rfl, rfl, hcur, ixn9 (by rw [List.length_map]; omega), same_mut sm hl0, cur.set cl (cur.getD cl 0 &&& m), _, _, _, rfl, ?_, by rw [List.length_set]; exact hlen, he⟩
    rw [upd_same, set_map]
  rintro σ H3 ⟨sm3, cur3, u8, u9, u10, rfl, hcur3, hlen3, he3⟩
  have he3 : cur3 = RwM.guardGo deed.guard cur2 := he3
  refine ⟨_, rfl, l, _, rfl, .inl (sqL hcur3), rfl, flat_nat _, _, rfl, ?_⟩
  refine if_is (inV_nat 0 _) (fun e => ?_) fun e => ?_
  · have e : 0 ∈ cur3 := of_decide_eq_true e
    refine q _ _ sm3 ?_
    unfold RwM.before
    rw [← he2]
    show OptR IsN H3 V.non (if 0 ∈ RwM.guardGo deed.guard cur2 then none else some _)
    rw [if_pos (by rw [← he3]; exact e)]
    rfl
  · have e : 0 ∉ cur3 := of_decide_eq_false e
    refine ⟨_, rfl, l, _, rfl, .inl ⟨sqL hcur3, fun p hp => q _ _ (sm3.trans (same_new hp)) ?_⟩⟩
    unfold RwM.before
    rw [← he2]
    show OptR IsN _ (V.ref p) (if 0 ∈ RwM.guardGo deed.guard cur2 then none else some _)
    rw [if_neg (by rw [← he3]; exact e), ← he3]
    exact ⟨p, rfl, upd_same⟩
theorem rd_sketch_before (T : KF K c) (vs : List V) (H : Hp) (Q : VK) (E : XK) (h : spBefore c vs H Q E) : t_sketch_before K c { nx := fun _ H1 => Q .non H1, rt := Q } (start ["machine", "sketch", "deed", "_", "guard", "changes", "masks", "full", "cell", "kind", "number", "mask"] vs) H := by
  obtain ⟨v, u, M, s, k, deed, rfl, hM, mok, ⟨p3, rfl, h3⟩, hv, hk, q⟩ := h
  have hM' := hM
  obtain ⟨m, dx, cv, dv, fv, rfl, hm, _, ⟨p1, us, rfl, h1, hr⟩, _⟩ := hM'
  have ok := mok.deed deed (List.mem_of_getElem? hk)
  have ls := RwM.vSk_len hv
  obtain ⟨w, hw, a, g, ch, rfl, ha, ⟨pg, gs, rfl, hpg, hrg⟩, ⟨pc, cs, rfl, hpc, hrc⟩⟩ := A2.get_r hr hk
  refine ⟨_, rfl, m, _, _, _, _, rfl, hm, T.clM, T.m_deeds, rfl, _, rfl, p1, _, _, _, rfl, rfl, sqT h1, at_nat hw, a, _, rfl, sqT ha, rfl, _, _, rfl, _, _, rfl, _, _, rfl, rfl, ?_⟩
  refine ⟨_, rfl, p3, _, rfl, .inr (sqT h3), fun l hl0 => ?_⟩
  have s0 : Same H (upd H l (.lst (s.map nV))) := same_new hl0
  refine ⟨_, rfl, m, _, _, rfl, s0 _ _ hm, _, M, rfl, MonoS.mono s0 hM, mok, fun H0 wf sf hf => ?_⟩
  obtain ⟨pf, rfl, hpf⟩ := hf
  have s1 : Same H H0 := s0.trans sf
  have hfat : ∀ {i : Nat}, i < M.sizes.length → (M.sizes.map fun n => 2 ^ n - 1)[i]? = some (2 ^ M.sizes.getD i 0 - 1) := fun hi => by
    rw [List.getElem?_map, getD_at hi]
    rfl
  refine ⟨_, rfl, pc, rfl, ⟨_, sqT (s1 _ _ hpc)⟩, ?_⟩
  refine for_over (over_tup hrc) (fun r σ H1 => Same H H1 ∧ Ts H0 H1 ∧ ∃ (cur : List Nat) (u3 u8 u9 u10 u11 : Option V), σ = [some (.ref m), some (.ref p3), some (nV k), u3, some (.ref pg), some (.ref pc), some (.ref l), some (.ref pf), u8, u9, u10, u11] ∧ H1 l = some (.lst (cur.map nV)) ∧ cur.length = s.length ∧ RwM.setFull M.sizes r cur = RwM.setFull M.sizes deed.changes s)
    ⟨s1, Ts.refl _, s, _, _, _, _, _, rfl, sf _ _ upd_same, rfl, rfl⟩ (fun r σ H1 p => sqT (p.1 _ _ hpc)) ?_ ?_
  · rintro ⟨cl, src⟩ r x σ _ H1 hm ⟨sm, tm, cur, u3, u8, u9, u10, u11, rfl, hcur, hlen, he⟩ ⟨rfl, b, sv, rfl, hb, _⟩
    have g1 : cl < M.sizes.length := (ok.chg _ hm).1
    refine ⟨b, _, rfl, sqT (sm _ _ hb), rfl, _, _, rfl, _, _, rfl, rfl, ?_⟩
    refine ⟨_, rfl, _, rfl, pf, _, _, _, rfl, rfl, sqT (tm _ _ hpf), at_nat (map_at (hfat g1)), ?_⟩
    refine ⟨_, rfl, _, rfl, l, _, _, cl, rfl, rfl, hcur, ixn9 (by rw [List.length_map]; omega), same_mut sm hl0, tm.trans (ts_lst hcur), cur.set cl (2 ^ M.sizes.getD cl 0 - 1), _, _, _, _, _, rfl, ?_, by rw [List.length_set]; exact hlen, he⟩
    rw [upd_same, set_map]
  rintro σ H1 ⟨sm1, tm1, cur1, u3, u8, u9, u10, u11, rfl, hcur1, hlen1, he1⟩
  have he1 : cur1 = RwM.setFull M.sizes deed.changes s := he1
  refine ⟨_, rfl, pc, rfl, ⟨_, sqT (sm1 _ _ hpc)⟩, ?_⟩
  refine for_over (over_tup hrc) (fun r σ H1 => Same H H1 ∧ ∃ (cur : List Nat) (u3 u8 u9 u10 u11 : Option V), σ = [some (.ref m), some (.ref p3), some (nV k), u3, some (.ref pg), some (.ref pc), some (.ref l), some (.ref pf), u8, u9, u10, u11] ∧ H1 l = some (.lst (cur.map nV)) ∧ cur.length = s.length ∧ RwM.srcGo s r cur = RwM.srcGo s deed.changes (RwM.setFull M.sizes deed.changes s))
    ⟨sm1, cur1, _, _, _, _, _, rfl, hcur1, hlen1, by rw [he1]⟩ (fun r σ H1 p => sqT (p.1 _ _ hpc)) ?_ ?_
  · rintro ⟨cl, src⟩ r x σ _ H1 hm ⟨sm, cur, u3, u8, u9, u10, u11, rfl, hcur, hlen, he⟩ ⟨rfl, b, sv, rfl, hb, b2, rfl, hb2⟩
    obtain ⟨g1, g2⟩ := ok.chg _ hm
    have g1 : cl < M.sizes.length := g1
    have hb2' := sm _ _ hb2
    have g1s : cl < s.length := by omega
    refine ⟨b, _, rfl, sqT (sm _ _ hb), rfl, _, _, rfl, _, _, rfl, ⟨b2, _, rfl, sqT hb2', ?_⟩⟩
    cases src with
    | set y =>
      have he : (if (s.getD cl 0).testBit y = true then RwM.srcGo s r cur else none) = RwM.srcGo s deed.changes (RwM.setFull M.sizes deed.changes s) := he
      refine ⟨rfl, _, _, rfl, _, _, rfl, rfl, rfl, ?_⟩
      refine ⟨_, rfl, rfl, _, rfl, if_yes rfl ?_⟩
      refine ⟨_, rfl, _, rfl, p3, _, _, _, rfl, rfl, sqT (sm _ _ h3), at_nat (map_at (getD_at g1s)), _, rfl, s.getD cl 0, y, rfl, rfl, _, 1, rfl, rfl, _, 0, rfl, rfl, _, rfl, if_is (bit_dec _ y) (fun e => ?_) fun e => ?_⟩
      · have e : (s.getD cl 0).testBit y = false := by simpa using e
        rw [if_neg (by rw [e]; decide)] at he
        refine q _ _ sm ?_
        unfold RwM.before
        rw [← he]
        rfl
      · have e : (s.getD cl 0).testBit y = true := by simpa using e
        rw [if_pos e] at he
        exact ⟨sm, cur, _, _, _, _, _, rfl, hcur, hlen, he⟩
    | copy o =>
      obtain ⟨g2, g3⟩ : o < M.sizes.length ∧ M.sizes.getD o 0 ≤ M.sizes.getD cl 0 := g2
      have hoc : o < cur.length := by omega
      refine ⟨rfl, _, _, rfl, _, _, rfl, rfl, rfl, ?_⟩
      refine ⟨_, rfl, rfl, _, rfl, if_no (by decide +kernel) ?_⟩
      refine ⟨_, rfl, _, rfl, l, _, o, _, rfl, rfl, sqL hcur, map_at (getD_at hoc), _, rfl, _, rfl, p3, _, _, _, rfl, rfl, sqT (sm _ _ h3), at_nat (map_at (getD_at g1s)), _, _, rfl, rfl, ?_⟩
      refine ⟨l, _, _, o, rfl, rfl, hcur, ixn9 (by rw [List.length_map]; omega), same_mut sm hl0, cur.set o (cur.getD o 0 &&& s.getD cl 0), _, _, _, _, _, rfl, ?_, by rw [List.length_set]; exact hlen, he⟩
      rw [upd_same, set_map]
  rintro σ H2 ⟨sm2, cur2, u3, u8, u9, u10, u11, rfl, hcur2, hlen2, he2⟩
  have he2 : some cur2 = RwM.srcGo s deed.changes (RwM.setFull M.sizes deed.changes s) := he2
  refine ⟨_, rfl, pg, rfl, ⟨_, sqT (sm2 _ _ hpg)⟩, ?_⟩
  refine for_over (over_tup hrg) (fun r σ H1 => Same H H1 ∧ ∃ (cur : List Nat) (u3 u8 u9 u10 u11 : Option V), σ = [some (.ref m), some (.ref p3), some (nV k), u3, some (.ref pg), some (.ref pc), some (.ref l), some (.ref pf), u8, u9, u10, u11] ∧ H1 l = some (.lst (cur.map nV)) ∧ cur.length = s.length ∧ RwM.guardGo r cur = RwM.guardGo deed.guard cur2)
    ⟨sm2, cur2, _, _, _, _, _, rfl, hcur2, hlen2, rfl⟩ (fun r σ H1 p => sqT (p.1 _ _ hpg)) ?_ ?_
  · rintro ⟨cl, mm⟩ r x σ _ H1 hm ⟨sm, cur, u3, u8, u9, u10, u11, rfl, hcur, hlen, he⟩ ⟨rfl, b, rfl, hb⟩
    have g1 : cl < M.sizes.length := (ok.guard _ hm).1
    have hcl : cl < cur.length := by omega
    refine ⟨b, _, rfl, sqT (sm _ _ hb), rfl, _, _, rfl, _, _, rfl, rfl, ?_⟩
    refine ⟨_, rfl, _, rfl, l, _, cl, _, rfl, rfl, sqL hcur, map_at (getD_at hcl), _, rfl, _, mm, rfl, rfl, ?_⟩
    refine ⟨l, _, _, cl, rfl, rfl, hcur, ixn9 (by rw [List.length_map]; omega), same_mut sm hl0, cur.set cl (cur.getD cl 0 &&& mm), _, _, _, _, _, rfl, ?_, by rw [List.length_set]; exact hlen, he⟩
    rw [upd_same, set_map]
  rintro σ H3 ⟨sm3, cur3, u3, u8, u9, u10, u11, rfl, hcur3, hlen3, he3⟩
  have he3 : cur3 = RwM.guardGo deed.guard cur2 := he3
  refine ⟨_, rfl, l, rfl, ⟨_, sqL hcur3⟩, fun D hD => ?_⟩
  refine lc_map (S := IsB) (f := fun x => !decide (x = 0)) (over_list (a2_nat (H := H) cur3)) hD (fun H1 sm => sqL (sm _ _ hcur3)) ?_ ?_ ?_
  · have := mok.few.2
    omega
  · rintro x w _ H1 N hm sm ⟨rfl, rfl⟩ hN
    exact ⟨rfl, _, rfl, x, 0, rfl, rfl, hN _ _ (Same.refl _) rfl⟩
  rintro H4 ys s4 hy r
  have hcur4 := s4 _ _ hcur3
  have sm4 := sm3.trans s4
  refine ⟨D, _, rfl, sqL (by rw [hy, b_a2 r]), _, rfl, if_is (all_ne cur3) (fun e => ?_) fun e => ?_⟩
  · have e : 0 ∉ cur3 := by simpa using e
    refine ⟨_, rfl, l, _, rfl, .inl ⟨sqL hcur4, fun p hp => q _ _ (sm4.trans (same_new hp)) ?_⟩⟩
    unfold RwM.before
    rw [← he2]
    show OptR IsN _ (V.ref p) (if 0 ∈ RwM.guardGo deed.guard cur2 then none else some _)
    rw [if_neg (by rw [← he3]; exact e), ← he3]
    exact ⟨p, rfl, upd_same⟩
  · have e : 0 ∈ cur3 := by simpa using e
    refine q _ _ sm4 ?_
    unfold RwM.before
    rw [← he2]
    show OptR IsN H4 V.non (if 0 ∈ RwM.guardGo deed.guard cur2 then none else some _)
    rw [if_pos (by rw [← he3]; exact e)]
    rfl
end RwW
/-! readings, part 10: how objects are made -/
namespace RwW
open PySem L2 RwR
open RwM (A2 Sk Dk Src Deed Mach SS vSk vDk MachOk DeedOk SInv OrgOk Ext)
variable {K : PySem.W.Frag} {c : Cs}

/-- all but x is kept -/
def Bx (x : Addr) (H H' : Hp) : Prop := ∀ b o, H b = some o → b ≠ x → H' b = some o
theorem Bx.refl (x : Addr) (H : Hp) : Bx x H H := fun _ _ h _ => h
theorem Bx.trans {x : Addr} {H H1 H2 : Hp} (a : Bx x H H1) (b : Bx x H1 H2) : Bx x H H2 := fun p o h n => b p o (a p o h n) n
theorem bx_x {x : Addr} {H : Hp} {o : HO} : Bx x H (upd H x o) := fun b u h n => by rw [upd_ne n]; exact h
theorem bx_same {x : Addr} {H H' : Hp} (s : Same H H') : Bx x H H' := fun b o h _ => s b o h
theorem bx_new {x p : Addr} {H : Hp} {o : HO} (h : H p = none) : Bx x H (upd H p o) := bx_same (same_new h)
theorem ts_ins {H : Hp} {x C dx : Addr} {fs : List (Str × V)} {o : HO} (h : H x = some (.ins C dx fs)) : Ts H (upd H x o) := ts_mut fun ys q => by rw [h] at q; cases q
theorem pl {f : Str} {v : V} : ∀ {fs : List (Str × V)} {n : Nat}, fs.length < n → (putF f v fs).length < n + 1
  | [], n, h => by
    show 1 < n + 1
    simp at h
    omega
  | (g, w) :: fs, n, h => by
    unfold putF
    split
    · simp at h ⊢
      omega
    · have ih := pl (f := f) (v := v) (fs := fs) (n := n - 1) (by simp at h; omega)
      simp at h ih ⊢
      omega
theorem pl1 {f : Str} {v : V} : (putF f v []).length < 1000 := pl (n := 999) (by decide)
theorem rd_OrderAnswer_init (T : KF K c) (vs : List V) (H : Hp) (Q : VK) (E : XK) (h : spOAnswer c vs H Q E) : t_OrderAnswer_init K { nx := fun _ H1 => Q .non H1, rt := Q } (start ["self", "told", "paper", "disk", "deeds", "moment"] vs) H := by
  obtain ⟨m, dx, v1, v2, v3, v4, v5, H0, rfl, hm, s0, h0, q⟩ := h
  refine ⟨_, rfl, _, rfl, m, _, dx, _, rfl, hm, T.clOA, T.oa_told, by decide, ?_⟩
  refine ⟨_, rfl, _, rfl, m, _, dx, _, rfl, upd_same, T.clOA, T.oa_paper, pl (by decide), ?_⟩
  refine ⟨_, rfl, _, rfl, m, _, dx, _, rfl, upd_same, T.clOA, T.oa_disk, pl (pl (by decide)), ?_⟩
  rcases q with ⟨rfl, q⟩ | ⟨ds, ⟨p, ys, rfl, hp, hr⟩, hz, q⟩
  · refine ⟨_, rfl, _, rfl, if_is (c := true) rfl (fun _ => ?_) fun z => nomatch z⟩
    refine ⟨_, rfl, m, _, dx, _, rfl, upd_same, T.clOA, T.oa_deeds, pl (pl (pl (by decide))), ?_⟩
    refine ⟨_, rfl, _, rfl, m, _, dx, _, rfl, upd_same, T.clOA, T.oa_moment, pl (pl (pl (pl (by decide)))), ?_⟩
    exact q _ ((((bx_x.trans bx_x).trans bx_x).trans bx_x).trans bx_x) upd_same
  · obtain rfl := nat_a2 hr
    refine ⟨_, rfl, _, rfl, if_is (c := false) rfl (fun z => nomatch z) fun _ => ?_⟩
    have hp' : (upd (upd (upd H m (.ins c.OA dx [("told", v1)])) m (.ins c.OA dx [("told", v1), ("paper", v2)])) m (.ins c.OA dx [("told", v1), ("paper", v2), ("disk", v3)])) p = some (.lst (ds.map nV)) :=
      same_mut (same_mut (same_mut s0 h0) h0) h0 _ _ hp
    refine ⟨_, rfl, p, _, rfl, .inl ⟨sqL hp', fun l hl => ?_⟩⟩
    have hl0 : l ≠ m := by
      rintro rfl
      rw [upd_same] at hl
      cases hl
    refine ⟨_, rfl, m, _, dx, _, rfl, (upd_ne hl0.symm).trans upd_same, T.clOA, T.oa_deeds, pl (pl (pl (by decide))), ?_⟩
    refine ⟨_, rfl, _, rfl, m, _, dx, _, rfl, upd_same, T.clOA, T.oa_moment, pl (pl (pl (pl (by decide)))), ?_⟩
    refine q _ _ (((((bx_x.trans bx_x).trans bx_x).trans (bx_new hl)).trans bx_x).trans bx_x) upd_same ⟨l, rfl, ?_⟩
    rw [upd_ne hl0, upd_ne hl0, upd_same]
theorem rd_Search_init (T : KF K c) (vs : List V) (H : Hp) (Q : VK) (E : XK) (h : spSearch c vs H Q E) : t_Search_init K { nx := fun _ H1 => Q .non H1, rt := Q } (start ["self", "machine", "piece"] vs) H := by
  obtain ⟨x, dx, mv, pv, M, piece, H0, rfl, hx, s0, h0, hM, hP, q⟩ := h
  refine ⟨_, rfl, _, rfl, x, _, dx, _, rfl, hx, T.clS, T.s_machine, by decide, ?_⟩
  refine ⟨_, rfl, _, rfl, x, _, dx, _, rfl, upd_same, T.clS, T.s_piece, pl (by decide), ?_⟩
  have b2 := (bx_x (H := H) (o := .ins c.S dx (putF "_machine" mv []))).trans (bx_x (x := x) (o := .ins c.S dx (putF "_piece" pv (putF "_machine" mv []))))
  have s2 := same_mut (o := .ins c.S dx (putF "_piece" pv (putF "_machine" mv []))) (same_mut (o := .ins c.S dx (putF "_machine" mv [])) s0 h0) h0
  refine ⟨Nat.zero_le _, fun l1 hl1 => ?_⟩
  have n1 := none_back s2 hl1
  have x1 : l1 ≠ x := by
    rintro rfl
    rw [upd_same] at hl1
    cases hl1
  have s3 := s2.trans (same_new (o := .lst []) hl1)
  have b3 := b2.trans (bx_new (x := x) (o := .lst []) hl1)
  refine ⟨_, rfl, x, _, dx, _, rfl, (upd_ne x1.symm).trans upd_same, T.clS, T.s_packed, pl (pl (by decide)), ?_⟩
  have s4 := same_mut (o := .ins c.S dx (putF "_packed" (.ref l1) (putF "_piece" pv (putF "_machine" mv [])))) s3 h0
  have b4 := b3.trans (bx_x (x := x) (o := .ins c.S dx (putF "_packed" (.ref l1) (putF "_piece" pv (putF "_machine" mv [])))))
  refine ⟨Nat.zero_le _, fun l2 hl2 => ?_⟩
  have n2 := none_back s4 hl2
  have x2 : l2 ≠ x := by
    rintro rfl
    rw [upd_same] at hl2
    cases hl2
  have ne12 : l1 ≠ l2 := by
    rintro rfl
    rw [upd_ne x1, upd_same] at hl2
    cases hl2
  have s5 := s4.trans (same_new (o := .lst []) hl2)
  have b5 := b4.trans (bx_new (x := x) (o := .lst []) hl2)
  refine ⟨_, rfl, x, _, dx, _, rfl, (upd_ne x2.symm).trans upd_same, T.clS, T.s_sketches, pl (pl (pl (by decide))), ?_⟩
  have s6 := same_mut (o := .ins c.S dx (putF "sketches" (.ref l2) (putF "_packed" (.ref l1) (putF "_piece" pv (putF "_machine" mv []))))) s5 h0
  have b6 := b5.trans (bx_x (x := x) (o := .ins c.S dx (putF "sketches" (.ref l2) (putF "_packed" (.ref l1) (putF "_piece" pv (putF "_machine" mv []))))))
  refine ⟨Nat.zero_le _, fun l3 hl3 => ?_⟩
  have n3 := none_back s6 hl3
  have x3 : l3 ≠ x := by
    rintro rfl
    rw [upd_same] at hl3
    cases hl3
  have ne23 : l2 ≠ l3 := by
    rintro rfl
    rw [upd_ne x2, upd_same] at hl3
    cases hl3
  have ne13 : l1 ≠ l3 := by
    rintro rfl
    rw [upd_ne x1, upd_ne ne12, upd_ne x1, upd_same] at hl3
    cases hl3
  have s7 := s6.trans (same_new (o := .lst []) hl3)
  have b7 := b6.trans (bx_new (x := x) (o := .lst []) hl3)
  refine ⟨_, rfl, x, _, dx, _, rfl, (upd_ne x3.symm).trans upd_same, T.clS, T.s_origins, pl (pl (pl (pl (by decide)))), ?_⟩
  refine ⟨1, rfl, _, rfl, x, _, dx, _, rfl, upd_same, T.clS, T.s_found, pl (pl (pl (pl (pl (by decide))))), ?_⟩
  refine q _ ⟨x, dx, l1, l2, l3, mv, pv⟩ rfl ((b7.trans bx_x).trans bx_x) ⟨same_mut (same_mut s7 h0) h0, h0, n1, n2, n3, upd_same, ?_, ⟨[], ?_, .nil⟩, ⟨[], ?_, .nil⟩, ne12, ne13, ne23, hM, hP⟩
  · show _ = some (HO.lst [])
    rw [upd_ne x1, upd_ne x1, upd_ne ne13, upd_ne x1, upd_ne ne12, upd_ne x1, upd_same]
  · show _ = some (HO.lst [])
    rw [upd_ne x2, upd_ne x2, upd_ne ne23, upd_ne x2, upd_same]
  · show _ = some (HO.lst [])
    rw [upd_ne x3, upd_ne x3, upd_same]
end RwW
/-! readings, part 11: how the papers are made -/
namespace RwW
open PySem L2 RwR
open RwM (A2 Sk Dk Src Deed Mach SS vSk vDk MachOk DeedOk SInv OrgOk Ext)
variable {K : PySem.W.Frag} {c : Cs}

theorem rd_Paper_init (T : KF K c) (vs : List V) (H : Hp) (Q : VK) (E : XK) (h : spPaper c vs H Q E) : t_Paper_init K { nx := fun _ H1 => Q .non H1, rt := Q } (start ["self", "sketches", "cover", "table", "sketch", "row", "entry"] vs) H := by
  obtain ⟨m, dx, v1, v2, v3, sk, cover, table, H0, rfl, hm, s0, h0, ⟨p1, us1, rfl, h1, hr1⟩, hc, ⟨p3, us3, rfl, h3, hr3⟩, z1, z3, z4, q⟩ := h
  have fin : ∀ (G : Hp) (w1 w2 : V), Bx m H G → Same H0 G → G m = some (.ins c.P dx [("sketches", w1), ("cover", w2)]) → TupOf IsN G w1 sk → IsN G w2 cover →
      (sFld K (tVar 0) (tCB (rTup1 K) (tCons (tLc (iList K (tVar 3)) (gName 5) tYes (tCB (rTup1 K) (tCons (tLc (iList K (tVar 5)) (gName 6) tYes (tCB (rTup1 K) (tCons (tVar 6) tNil)) [6]) tNil)) [5]) tNil)) "table") { nx := fun _ H1 => Q .non H1, rt := Q }
        (start ["self", "sketches", "cover", "table", "sketch", "row", "entry"] [.ref m, .ref p1, v2, .ref p3]) G := by
    intro G w1 w2 bG sG gm t1 t2
    refine ⟨_, rfl, p3, rfl, ⟨_, sqL (sG _ _ h3)⟩, fun D hD => ?_⟩
    refine lc_map (S := TupOf IsN) (f := fun r => r) (over_list hr3) hD (fun H1 sm => sqL (sm _ _ (sG _ _ h3))) z3 ?_ ?_
    · rintro row x _ H1 N hmm sm ⟨rfl, pr, yr, rfl, hpr, hrr⟩ hN
      refine ⟨rfl, _, rfl, pr, rfl, ⟨_, sqL (sm _ _ (sG _ _ hpr))⟩, fun D2 hD2 => ?_⟩
      refine lc_map (S := IsN) (f := fun e => e) (over_list hrr) hD2 (fun H2 s2 => sqL (s2 _ _ (sm _ _ (sG _ _ hpr)))) (z4 row hmm) ?_ ?_
      · rintro e x _ H2 N2 hme s2 ⟨rfl, pe, ye, rfl, hpe, hre⟩ hN2
        refine ⟨rfl, _, rfl, pe, _, rfl, .inl ⟨sqL (s2 _ _ (sm _ _ (sG _ _ hpe))), fun l hl => hN2 _ _ (same_new hl) ⟨l, rfl, ?_⟩⟩⟩
        rw [upd_same, nat_a2 hre]
      · rintro H2 ys2 s2 hy2 r2
        rw [List.map_id'] at r2
        exact ⟨D2, ys2, rfl, .inl ⟨sqL hy2, fun l hl => hN _ _ (s2.trans (same_new hl)) ⟨l, ys2, rfl, upd_same, a2_mono (ts_new hl) r2⟩⟩⟩
    · rintro H1 ys sm hy r
      rw [List.map_id'] at r
      refine ⟨D, ys, rfl, .inl ⟨sqL hy, fun l hl => ?_⟩⟩
      have hlm : l ≠ m := by
        rintro rfl
        rw [sm _ _ gm] at hl
        cases hl
      have g1 := sm _ _ gm
      have g2 := same_new (o := .tup ys) hl _ _ g1
      have tl := ts_new (o := .tup ys) hl
      have tm := ts_ins (o := .ins c.P dx (putF "table" (.ref l) [("sketches", w1), ("cover", w2)])) g2
      refine ⟨_, rfl, m, _, dx, _, rfl, g2, T.clP, T.p_table, by show 2 < 1000; decide, ?_⟩
      refine q _ w1 w2 (.ref l) (((bG.trans (bx_same sm)).trans (bx_new hl)).trans bx_x) upd_same (MonoT.mono (((ts_of sm).trans tl).trans tm) t1) (MonoT.mono (((ts_of sm).trans tl).trans tm) t2) ⟨l, ys, rfl, ?_, a2_mono (tl.trans tm) r⟩
      rw [upd_ne hlm, upd_same]
  refine ⟨_, rfl, p1, rfl, ⟨_, sqL (s0 _ _ h1)⟩, fun D hD => ?_⟩
  refine lc_map (S := IsN) (f := fun s => s) (over_list hr1) hD (fun H1 sm => sqL (sm _ _ (s0 _ _ h1))) z1 ?_ ?_
  · rintro s x _ H1 N hmm sm ⟨rfl, a, rfl, ha⟩ hN
    exact ⟨rfl, _, rfl, a, _, rfl, .inr ⟨sqT (sm _ _ (s0 _ _ ha)), hN _ _ (Same.refl _) ⟨a, rfl, sm _ _ (s0 _ _ ha)⟩⟩⟩
  rintro H1 ys sm hy r
  rw [List.map_id'] at r
  refine ⟨D, ys, rfl, .inl ⟨sqL hy, fun l hl => ?_⟩⟩
  have g1 := sm _ _ hm
  have hlm : l ≠ m := by
    rintro rfl
    rw [g1] at hl
    cases hl
  have g2 := same_new (o := .tup ys) hl _ _ g1
  refine ⟨_, rfl, m, _, dx, _, rfl, g2, T.clP, T.p_sketches, by decide, ?_⟩
  have tl := ts_new (o := .tup ys) hl
  have tm := ts_ins (o := .ins c.P dx (putF "sketches" (.ref l) [])) g2
  have b1 : Bx m H (upd (upd H1 l (.tup ys)) m (.ins c.P dx (putF "sketches" (.ref l) []))) := ((bx_same sm).trans (bx_new hl)).trans bx_x
  have s1 : Same H0 (upd (upd H1 l (.tup ys)) m (.ins c.P dx (putF "sketches" (.ref l) []))) := same_mut ((s0.trans sm).trans (same_new hl)) h0
  have w1 : TupOf IsN (upd (upd H1 l (.tup ys)) m (.ins c.P dx (putF "sketches" (.ref l) []))) (.ref l) sk := ⟨l, ys, rfl, by rw [upd_ne hlm, upd_same], a2_mono (tl.trans tm) r⟩
  rcases hc with ⟨p2, us2, rfl, h2, hr2⟩ | ⟨p2, rfl, h2⟩
  · obtain rfl := nat_a2 hr2
    refine ⟨_, rfl, p2, _, rfl, .inl ⟨sqL (s1 _ _ h2), fun l2 hl2 => ?_⟩⟩
    have hlm2 : l2 ≠ m := by
      rintro rfl
      rw [upd_same] at hl2
      cases hl2
    have g3 := same_new (o := .tup (cover.map nV)) hl2 m _ upd_same
    have tl2 := ts_new (o := .tup (cover.map nV)) hl2
    have tm2 := ts_ins (o := .ins c.P dx (putF "cover" (.ref l2) (putF "sketches" (.ref l) []))) g3
    refine ⟨_, rfl, m, _, dx, _, rfl, g3, T.clP, T.p_cover, by show 1 < 1000; decide, ?_⟩
    refine fin _ (.ref l) (.ref l2) ((b1.trans (bx_new hl2)).trans bx_x) (same_mut (s1.trans (same_new hl2)) h0) upd_same (MonoT.mono (tl2.trans tm2) w1) ⟨l2, rfl, ?_⟩
    rw [upd_ne hlm2, upd_same]
  · have hm2 : p2 ≠ m := fun e => by
      rw [e, h0] at h2
      cases h2
    have tm2 := ts_ins (o := .ins c.P dx (putF "cover" (.ref p2) (putF "sketches" (.ref l) []))) (upd_same (H := upd H1 l (.tup ys)) (a := m) (o := .ins c.P dx (putF "sketches" (.ref l) [])))
    refine ⟨_, rfl, p2, _, rfl, .inr ⟨sqT (s1 _ _ h2), ?_⟩⟩
    refine ⟨_, rfl, m, _, dx, _, rfl, upd_same, T.clP, T.p_cover, by show 1 < 1000; decide, ?_⟩
    refine fin _ (.ref l) (.ref p2) (b1.trans bx_x) (same_mut s1 h0) upd_same (MonoT.mono tm2 w1) ⟨p2, rfl, ?_⟩
    rw [upd_ne hm2]
    exact s1 _ _ h2
end RwW
/-! readings, part 12: how the paper of an order is made -/
namespace RwW
open PySem L2 RwR
open RwM (A2 Sk Dk Src Deed Mach SS vSk vDk MachOk DeedOk SInv OrgOk Ext)
variable {K : PySem.W.Frag} {c : Cs}

theorem rd_OrderPaper_init (T : KF K c) (vs : List V) (H : Hp) (Q : VK) (E : XK) (h : spOPaper c vs H Q E) : t_OrderPaper_init K c { nx := fun _ H1 => Q .non H1, rt := Q } (start ["self", "reach", "cover", "table", "sketches", "links", "steps", "first", "second", "entry"] vs) H := by
  obtain ⟨m, dx, v1, v2, v3, v4, v5, v6, reach, cover, table, sk, links, steps, H0, rfl, hm, s0, h0, h1, h2, h3, h4, ⟨p5, us5, rfl, h5, hr5⟩, h6, z1, z2, z3, z4, z5, z6, z7, q⟩ := h
  refine ⟨_, rfl, _, rfl, _, rfl, fun x1 dx1 hx1 hdx1 hne1 => ?_⟩
  have sa : Same H (upd (upd H dx1 (.own x1)) x1 (.ins c.P dx1 [])) := same_mut (same_new hdx1) hx1
  refine ⟨x1, dx1, v1, v2, v3, reach, cover, table, H, rfl, upd_same, sa, hx1, MonoS.mono s0 h1, .inl (MonoS.mono s0 h2), MonoS.mono s0 h3, z1, z4, z6, fun G w1 w2 w3 hb1 hG t1 t2 t3 => ⟨rfl, ?_⟩⟩
  have mx1 : m ≠ x1 := fun e => by rw [← e, hm] at hx1; cases hx1
  have sG : Same H G := fun b o hbo => hb1 b o (sa b o hbo) fun e => by rw [e, hx1] at hbo; cases hbo
  refine ⟨_, rfl, Nat.zero_le _, fun pt hpt => ⟨_, rfl, fun x2 dx2 hx2 hdx2 hne2 => ?_⟩⟩
  have s1 : Same G (upd G pt (.tup [])) := same_new hpt
  have sb : Same (upd G pt (.tup [])) (upd (upd (upd G pt (.tup [])) dx2 (.own x2)) x2 (.ins c.P dx2 [])) := same_mut (same_new hdx2) hx2
  have s01 : Same H0 (upd G pt (.tup [])) := (s0.trans sG).trans s1
  refine ⟨x2, dx2, v4, .ref pt, v6, sk, [], steps, upd G pt (.tup []), rfl, upd_same, sb, hx2, MonoS.mono s01 h4, .inr ⟨pt, rfl, upd_same⟩, MonoS.mono s01 h6, z2, z5, z7, fun F u1 u2 u3 hb2 hF y1 y2 y3 => ⟨rfl, ?_⟩⟩
  have sF0 : Same (upd G pt (.tup [])) F := fun b o hbo => hb2 b o (sb b o hbo) fun e => by rw [e, hx2] at hbo; cases hbo
  have sF : Same G F := s1.trans sF0
  have sHF : Same H F := sG.trans sF
  have fm : F m = some (.ins c.OP dx []) := sHF _ _ hm
  have fx1 : F x1 = some (.ins c.P dx1 (pFields w1 w2 w3)) := sF _ _ hG
  have mx2 : m ≠ x2 := fun e => by
    rw [← e] at hx2
    rw [s1 _ _ (sG _ _ hm)] at hx2
    cases hx2
  have t1 := MonoT.mono (ts_of sF) t1
  have t2 := MonoT.mono (ts_of sF) t2
  have t3 := MonoT.mono (ts_of sF) t3
  have k1 : Ts F (upd F m (.ins c.OP dx [("reach", w1)])) := ts_ins fm
  have k2 : Ts F (upd (upd F m (.ins c.OP dx [("reach", w1)])) m (.ins c.OP dx [("reach", w1), ("cover", w2)])) := k1.trans (ts_ins upd_same)
  have k3 : Ts F (upd (upd (upd F m (.ins c.OP dx [("reach", w1)])) m (.ins c.OP dx [("reach", w1), ("cover", w2)])) m (.ins c.OP dx [("reach", w1), ("cover", w2), ("table", w3)])) := k2.trans (ts_ins upd_same)
  have k4 : Ts F (upd (upd (upd (upd F m (.ins c.OP dx [("reach", w1)])) m (.ins c.OP dx [("reach", w1), ("cover", w2)])) m (.ins c.OP dx [("reach", w1), ("cover", w2), ("table", w3)])) m (.ins c.OP dx [("reach", w1), ("cover", w2), ("table", w3), ("sketches", u1)])) := k3.trans (ts_ins upd_same)
  have a1 : Same H0 F := s0.trans sHF
  have a4 : Same H0 (upd (upd (upd (upd F m (.ins c.OP dx [("reach", w1)])) m (.ins c.OP dx [("reach", w1), ("cover", w2)])) m (.ins c.OP dx [("reach", w1), ("cover", w2), ("table", w3)])) m (.ins c.OP dx [("reach", w1), ("cover", w2), ("table", w3), ("sketches", u1)])) := same_mut (same_mut (same_mut (same_mut a1 h0) h0) h0) h0
  have b4 : Bx m H (upd (upd (upd (upd F m (.ins c.OP dx [("reach", w1)])) m (.ins c.OP dx [("reach", w1), ("cover", w2)])) m (.ins c.OP dx [("reach", w1), ("cover", w2), ("table", w3)])) m (.ins c.OP dx [("reach", w1), ("cover", w2), ("table", w3), ("sketches", u1)])) := ((((bx_same sHF).trans bx_x).trans bx_x).trans bx_x).trans bx_x
  refine ⟨_, rfl, x1, _, _, _, _, rfl, fx1, T.clP, T.p_sketches, rfl, _, rfl, m, _, dx, _, rfl, fm, T.clOP, T.op_reach, by decide, ?_⟩
  refine ⟨_, rfl, x1, _, _, _, _, rfl, (upd_ne mx1.symm).trans fx1, T.clP, T.p_cover, rfl, _, rfl, m, _, dx, _, rfl, upd_same, T.clOP, T.op_cover, by show 1 < 1000; decide, ?_⟩
  refine ⟨_, rfl, x1, _, _, _, _, rfl, (upd_ne mx1.symm).trans ((upd_ne mx1.symm).trans fx1), T.clP, T.p_table, rfl, _, rfl, m, _, dx, _, rfl, upd_same, T.clOP, T.op_table, by show 2 < 1000; decide, ?_⟩
  refine ⟨_, rfl, x2, _, _, _, _, rfl, (upd_ne mx2.symm).trans ((upd_ne mx2.symm).trans ((upd_ne mx2.symm).trans hF)), T.clP, T.p_sketches, rfl, _, rfl, m, _, dx, _, rfl, upd_same, T.clOP, T.op_sketches, by show 3 < 1000; decide, ?_⟩
  show (tSeq _ _) _ _ (upd (upd (upd (upd F m (.ins c.OP dx [("reach", w1)])) m (.ins c.OP dx [("reach", w1), ("cover", w2)])) m (.ins c.OP dx [("reach", w1), ("cover", w2), ("table", w3)])) m (.ins c.OP dx [("reach", w1), ("cover", w2), ("table", w3), ("sketches", u1)]))
  have g0 : (upd (upd (upd (upd F m (.ins c.OP dx [("reach", w1)])) m (.ins c.OP dx [("reach", w1), ("cover", w2)])) m (.ins c.OP dx [("reach", w1), ("cover", w2), ("table", w3)])) m (.ins c.OP dx [("reach", w1), ("cover", w2), ("table", w3), ("sketches", u1)])) m = some (.ins c.OP dx [("reach", w1), ("cover", w2), ("table", w3), ("sketches", u1)]) := upd_same
  have gx2 : (upd (upd (upd (upd F m (.ins c.OP dx [("reach", w1)])) m (.ins c.OP dx [("reach", w1), ("cover", w2)])) m (.ins c.OP dx [("reach", w1), ("cover", w2), ("table", w3)])) m (.ins c.OP dx [("reach", w1), ("cover", w2), ("table", w3), ("sketches", u1)])) x2 = some (.ins c.P dx2 (pFields u1 u2 u3)) := (upd_ne mx2.symm).trans ((upd_ne mx2.symm).trans ((upd_ne mx2.symm).trans ((upd_ne mx2.symm).trans hF)))
  generalize hGG : upd (upd (upd (upd F m (.ins c.OP dx [("reach", w1)])) m (.ins c.OP dx [("reach", w1), ("cover", w2)])) m (.ins c.OP dx [("reach", w1), ("cover", w2), ("table", w3)])) m (.ins c.OP dx [("reach", w1), ("cover", w2), ("table", w3), ("sketches", u1)]) = GG at k4 a4 b4 g0 gx2 ⊢
  refine ⟨_, rfl, p5, rfl, ⟨_, sqL (a4 _ _ h5)⟩, fun D hD => ?_⟩
  refine lc_map (S := IsN) (f := fun e => e) (over_list hr5) hD (fun H2 s2 => sqL (s2 _ _ (a4 _ _ h5))) z3 ?_ ?_
  · rintro e x _ H2 N2 hme s2 ⟨rfl, pe, ye, rfl, hpe, hre⟩ hN2
    refine ⟨rfl, _, rfl, pe, _, rfl, .inl ⟨sqL (s2 _ _ (a4 _ _ hpe)), fun l hl => hN2 _ _ (same_new hl) ⟨l, rfl, ?_⟩⟩⟩
    rw [upd_same, nat_a2 hre]
  rintro H2 ys2 s2 hy2 r2
  rw [List.map_id'] at r2
  refine ⟨D, ys2, rfl, .inl ⟨sqL hy2, fun l hl => ?_⟩⟩
  have g2m := s2 _ _ g0
  have hlm : l ≠ m := by
    rintro rfl
    rw [g2m] at hl
    cases hl
  have g3 := same_new (o := .tup ys2) hl _ _ g2m
  have tl := ts_new (o := .tup ys2) hl
  have tm := ts_ins (o := .ins c.OP dx [("reach", w1), ("cover", w2), ("table", w3), ("sketches", u1), ("links", .ref l)]) g3
  have hlx2 : l ≠ x2 := by
    rintro rfl
    rw [s2 _ _ gx2] at hl
    cases hl
  refine ⟨_, rfl, m, _, dx, _, rfl, g3, T.clOP, T.op_links, by show 4 < 1000; decide, ?_⟩
  have gx3 : (upd (upd H2 l (.tup ys2)) m (.ins c.OP dx [("reach", w1), ("cover", w2), ("table", w3), ("sketches", u1), ("links", .ref l)])) x2 = some (.ins c.P dx2 (pFields u1 u2 u3)) := by
    rw [upd_ne mx2.symm, upd_ne hlx2.symm]
    exact s2 _ _ gx2
  refine ⟨_, rfl, x2, _, _, _, _, rfl, gx3, T.clP, T.p_table, rfl, _, rfl, m, _, dx, _, rfl, upd_same, T.clOP, T.op_steps, by show 5 < 1000; decide, ?_⟩
  have te := ts_ins (o := .ins c.OP dx [("reach", w1), ("cover", w2), ("table", w3), ("sketches", u1), ("links", .ref l), ("steps", u3)]) (upd_same (H := upd H2 l (.tup ys2)) (a := m) (o := .ins c.OP dx [("reach", w1), ("cover", w2), ("table", w3), ("sketches", u1), ("links", .ref l)]))
  have tall := (((k4.trans (ts_of s2)).trans tl).trans tm).trans te
  refine q _ ((((b4.trans (bx_same s2)).trans (bx_new hl)).trans bx_x).trans bx_x) ⟨dx, w1, w2, w3, u1, .ref l, u3, upd_same, MonoT.mono tall t1, MonoT.mono tall t2, MonoT.mono tall t3, MonoT.mono tall y1, ⟨l, ys2, rfl, ?_, a2_mono ((tl.trans tm).trans te) r2⟩, MonoT.mono tall y3⟩
  rw [upd_ne hlm, upd_ne hlm, upd_same]
end RwW
/-! readings, part 13: the search places a sketch -/
namespace RwW
open PySem L2 RwR
open RwM (A2 Sk Dk Src Deed Mach SS vSk vDk MachOk DeedOk SInv OrgOk Ext)
variable {K : PySem.W.Frag} {c : Cs}

section
variable {H0 H H' : Hp} {L : SLoc} {M : Mach} {piece : List Sk} {st : SS}
theorem SrAt.ne1 (h : SrAt c H0 H L M piece st) : L.x ≠ L.l1 := ne_of h.obj h.pk (by intro z; cases z)
theorem SrAt.ne2 (h : SrAt c H0 H L M piece st) : L.x ≠ L.l2 := let ⟨_, q, _⟩ := h.sk; ne_of h.obj q (by intro z; cases z)
theorem SrAt.ne3 (h : SrAt c H0 H L M piece st) : L.x ≠ L.l3 := let ⟨_, q, _⟩ := h.og; ne_of h.obj q (by intro z; cases z)
theorem SrAt.move (h : SrAt c H0 H L M piece st) (s : Same H H') : SrAt c H0 H' L M piece st :=
  { same := h.same.trans s, x0 := h.x0, n1 := h.n1, n2 := h.n2, n3 := h.n3, obj := s _ _ h.obj, pk := s _ _ h.pk, sk := let ⟨ys, a, b⟩ := h.sk; ⟨ys, s _ _ a, a2_mono (ts_of s) b⟩, og := let ⟨ys, a, b⟩ := h.og; ⟨ys, s _ _ a, a2_mono (ts_of s) b⟩,
    ne12 := h.ne12, ne13 := h.ne13, ne23 := h.ne23, mach := h.mach, piece := h.piece }
/-- another object changes, that the search's heap does not know -/
theorem SrAt.other (h : SrAt c H0 H L M piece st) {D : Addr} {o : HO} (hD : H0 D = none) (dx : D ≠ L.x) (d1 : D ≠ L.l1) (d2 : D ≠ L.l2) (d3 : D ≠ L.l3) (t : Ts H (upd H D o)) : SrAt c H0 (upd H D o) L M piece st :=
  { same := same_mut h.same hD, x0 := h.x0, n1 := h.n1, n2 := h.n2, n3 := h.n3, obj := (upd_ne dx.symm).trans h.obj, pk := (upd_ne d1.symm).trans h.pk,
    sk := let ⟨ys, a, b⟩ := h.sk; ⟨ys, (upd_ne d2.symm).trans a, a2_mono t b⟩, og := let ⟨ys, a, b⟩ := h.og; ⟨ys, (upd_ne d3.symm).trans a, a2_mono t b⟩,
    ne12 := h.ne12, ne13 := h.ne13, ne23 := h.ne23, mach := h.mach, piece := h.piece }
theorem SrAt.fnd (h : SrAt c H0 H L M piece st) (f : Option Nat) : SrAt c H0 (upd H L.x (.ins c.S L.dx (sFields L f))) L M piece ⟨st.sk, st.org, f⟩ :=
  { same := same_mut h.same h.x0, x0 := h.x0, n1 := h.n1, n2 := h.n2, n3 := h.n3, obj := upd_same, pk := (upd_ne h.ne1.symm).trans h.pk,
    sk := let ⟨ys, a, b⟩ := h.sk; ⟨ys, (upd_ne h.ne2.symm).trans a, a2_mono (ts_ins h.obj) b⟩, og := let ⟨ys, a, b⟩ := h.og; ⟨ys, (upd_ne h.ne3.symm).trans a, a2_mono (ts_ins h.obj) b⟩,
    ne12 := h.ne12, ne13 := h.ne13, ne23 := h.ne23, mach := h.mach, piece := h.piece }
theorem SrAt.app (h : SrAt c H0 H L M piece st) {s : Sk} {o : Option (Nat × Nat)} {sv ov : V} {ys zs : List V} (hy : H L.l2 = some (.lst ys)) (hz : H L.l3 = some (.lst zs)) (hs : IsN H sv s) (ho : IsOrg H ov o) :
    SrAt c H0 (upd (upd (upd H L.l1 (.lst ((st.sk.map fun s => nV (RwM.pack s)) ++ [nV (RwM.pack s)]))) L.l2 (.lst (ys ++ [sv]))) L.l3 (.lst (zs ++ [ov]))) L M piece ⟨st.sk ++ [s], st.org ++ [o], st.fnd⟩ := by
  have t1 : Ts H (upd H L.l1 (.lst ((st.sk.map fun s => nV (RwM.pack s)) ++ [nV (RwM.pack s)]))) := ts_lst h.pk
  have t2 := t1.trans (ts_lst (o := .lst (ys ++ [sv])) ((upd_ne h.ne12.symm).trans hy))
  have t3 := t2.trans (ts_lst (o := .lst (zs ++ [ov])) ((upd_ne h.ne23.symm).trans ((upd_ne h.ne13.symm).trans hz)))
  obtain ⟨ys', ey, ay⟩ := h.sk
  obtain ⟨zs', ez, az⟩ := h.og
  rw [hy] at ey
  cases ey
  rw [hz] at ez
  cases ez
  refine ⟨same_mut (same_mut (same_mut h.same h.n1) h.n2) h.n3, h.x0, h.n1, h.n2, h.n3, (upd_ne h.ne3).trans ((upd_ne h.ne2).trans ((upd_ne h.ne1).trans h.obj)), ?_, ⟨_, (upd_ne h.ne23).trans upd_same, A2.snoc (a2_mono t3 ay) (MonoT.mono t3 hs)⟩,
    ⟨_, upd_same, A2.snoc (a2_mono t3 az) (MonoT.mono t3 ho)⟩, h.ne12, h.ne13, h.ne23, h.mach, h.piece⟩
  refine (upd_ne h.ne13).trans ((upd_ne h.ne12).trans (upd_same.trans ?_))
  rw [List.map_append]
  rfl
theorem SFr.refl (L : SLoc) (H : Hp) : SFr L H H := fun _ _ h _ _ _ _ => h
theorem SFr.trans {H1 H2 : Hp} (a : SFr L H H1) (b : SFr L H1 H2) : SFr L H H2 := fun p o h x1 x2 x3 x4 => b p o (a p o h x1 x2 x3 x4) x1 x2 x3 x4
theorem sfr_same (s : Same H H') : SFr L H H' := fun b o h _ _ _ _ => s b o h
theorem sfr_x {o : HO} : SFr L H (upd H L.x o) := fun b u h x1 _ _ _ => (upd_ne x1).trans h
theorem sfr_1 {o : HO} : SFr L H (upd H L.l1 o) := fun b u h _ x1 _ _ => (upd_ne x1).trans h
theorem sfr_2 {o : HO} : SFr L H (upd H L.l2 o) := fun b u h _ _ x1 _ => (upd_ne x1).trans h
theorem sfr_3 {o : HO} : SFr L H (upd H L.l3 o) := fun b u h _ _ _ x1 => (upd_ne x1).trans h
theorem SrAt.ts (h : SrAt c H0 H L M piece st) (f : SFr L H H') : Ts H H' := by
  intro a xs e
  obtain ⟨_, e2, _⟩ := h.sk
  obtain ⟨_, e3, _⟩ := h.og
  exact f a _ e (ne_of e h.obj (by intro z; cases z)) (ne_of e h.pk (by intro z; cases z)) (ne_of e e2 (by intro z; cases z)) (ne_of e e3 (by intro z; cases z))
/-- what is not there ahead is none of the search's own -/
theorem SrAt.out (h : SrAt c H0 H L M piece st) {D : Addr} (hD : H D = none) : D ≠ L.x ∧ D ≠ L.l1 ∧ D ≠ L.l2 ∧ D ≠ L.l3 := by
  obtain ⟨_, e2, _⟩ := h.sk
  obtain ⟨_, e3, _⟩ := h.og
  exact ⟨(ne_of_none h.obj hD).symm, (ne_of_none h.pk hD).symm, (ne_of_none e2 hD).symm, (ne_of_none e3 hD).symm⟩
end
theorem mul_all {α β γ : Type} (f : α → β) (g : β → γ) (l : List α) : (l.map fun s => g (f s)) = (l.map f).map g := by rw [List.map_map]; rfl
theorem rd_Search_place (T : KF K c) (vs : List V) (H : Hp) (Q : VK) (E : XK) (h : spPlace c vs H Q E) : t_Search_place K { nx := fun _ H1 => Q .non H1, rt := Q } (start ["self", "sketch", "origin", "packed", "number", "other"] vs) H := by
  obtain ⟨H0, L, M, piece, st, sv, ov, s, o, rfl, sr, ok, hs, ho, vs, z1, z2, q⟩ := h
  have h3 : ∀ n ∈ M.sizes, n ≤ 3 := fun n hn => (ok.size n hn).2
  have ls := RwM.vSk_len vs
  have few := ok.few.2
  refine ⟨_, rfl, sv, s, rfl, hs, fun x hx => RwM.lt8 (RwM.vSk_lt h3 vs x hx), by omega, fun H1 s1 => ?_⟩
  have sr1 := sr.move s1
  have epk : (st.sk.map fun s => nV (RwM.pack s)) = (st.sk.map RwM.pack).map nV := mul_all _ _ _
  have hpk1 : H1 L.l1 = some (.lst ((st.sk.map RwM.pack).map nV)) := sr1.pk.trans (by rw [epk])
  refine ⟨_, rfl, L.x, _, _, _, _, rfl, sr1.obj, T.clS, T.s_packed, rfl, L.l1, _, rfl, sqL hpk1, ?_⟩
  refine for_over (over_enum (a2_nat (H := H) (st.sk.map RwM.pack))) (fun r σ H2 => Same H H2 ∧ ∃ (k : Nat) (l' : List Sk) (u4 u5 : Option V), r = (l'.map RwM.pack).zipIdx k ∧ σ = [some (.ref L.x), some sv, some ov, some (nV (RwM.pack s)), u4, u5] ∧ RwM.findSk (RwM.pack s) l' k = RwM.findSk (RwM.pack s) st.sk 0)
    ⟨s1, 0, st.sk, _, _, rfl, rfl, rfl⟩ (fun r σ H2 p => sqL (by have := p.1 _ _ sr.pk; rw [epk] at this; exact this)) ?_ ?_
  · rintro ⟨d, i⟩ r x σ H2 H3 hm ⟨s2, k, l', u4, u5, hr, rfl, he⟩ ⟨T', _, rfl, hT, rfl, rfl⟩
    cases l' with
    | nil => cases hr
    | cons t l' =>
      rw [List.map_cons, List.zipIdx_cons] at hr
      injection hr with e1 e2
      injection e1 with e1 e3
      subst e1 e3
      have sT : Same H2 (upd H2 T' (.tup [nV i, nV (RwM.pack t)])) := same_new hT
      refine ⟨T', _, rfl, sqT upd_same, rfl, _, _, rfl, _, _, rfl, rfl, ?_⟩
      have he : (if RwM.pack s &&& RwM.pack t = RwM.pack s then some i else RwM.findSk (RwM.pack s) l' (i + 1)) = RwM.findSk (RwM.pack s) st.sk 0 := he
      refine ⟨_, rfl, _, rfl, RwM.pack s, RwM.pack t, rfl, rfl, _, rfl, _, RwM.pack s, rfl, rfl, _, rfl, if_b (fun e => ?_) fun e => ?_⟩
      · have e : RwM.pack s &&& RwM.pack t = RwM.pack s := of_decide_eq_true e
        rw [if_pos e] at he
        have ep : RwM.place M.first st s o = (i, st) := by
          unfold RwM.place
          rw [← he]
        rw [ep] at q
        exact ⟨_, rfl, q _ (sr.move (s2.trans sT)) (sfr_same (s2.trans sT))⟩
      · have e : ¬ (RwM.pack s &&& RwM.pack t = RwM.pack s) := of_decide_eq_false e
        rw [if_neg e] at he
        exact ⟨s2.trans sT, i + 1, l', _, _, e2, rfl, he⟩
  · rintro σ H2 ⟨s2, k, l', u4, u5, hr, rfl, he⟩
    cases l' with
    | cons t l' => cases hr
    | nil =>
      have he : none = RwM.findSk (RwM.pack s) st.sk 0 := he
      have ep : RwM.place M.first st s o = (st.sk.length, ⟨st.sk ++ [s], st.org ++ [o], RwM.found M.first st s⟩) := by
        unfold RwM.place
        rw [← he]
      rw [ep] at q
      have sr2 := sr.move s2
      obtain ⟨ys, hy, ay⟩ := sr2.sk
      obtain ⟨zs, hz, az⟩ := sr2.og
      have ly := ay.length
      have lz := az.length
      have hs2 : IsN H2 sv s := MonoS.mono s2 hs
      have ho2 : IsOrg H2 ov o := MonoS.mono s2 ho
      have sr4 := sr2.app hy hz hs2 ho2
      have t4 : SFr L H2 (upd (upd (upd H2 L.l1 (.lst ((st.sk.map fun s => nV (RwM.pack s)) ++ [nV (RwM.pack s)]))) L.l2 (.lst (ys ++ [sv]))) L.l3 (.lst (zs ++ [ov]))) := (sfr_1.trans sfr_2).trans sfr_3
      have ts4 := sr2.ts t4
      refine ⟨_, rfl, L.x, _, _, _, _, rfl, sr2.obj, T.clS, T.s_packed, rfl, .inl ⟨rfl, _, sqL sr2.pk⟩, _, rfl, L.l1, _, _, rfl, rfl, sr2.pk, sz_lt' (by rw [List.length_map]; omega), ?_⟩
      refine ⟨_, rfl, L.x, _, _, _, _, rfl, (upd_ne sr2.ne1).trans sr2.obj, T.clS, T.s_sketches, rfl, .inl ⟨rfl, _, sqL ((upd_ne sr2.ne12.symm).trans hy)⟩, _, rfl, L.l2, _, _, rfl, rfl, (upd_ne sr2.ne12.symm).trans hy, sz_lt' (by omega), ?_⟩
      refine ⟨_, rfl, L.x, _, _, _, _, rfl, (upd_ne sr2.ne2).trans ((upd_ne sr2.ne1).trans sr2.obj), T.clS, T.s_origins, rfl, .inl ⟨rfl, _, sqL ((upd_ne sr2.ne23.symm).trans ((upd_ne sr2.ne13.symm).trans hz))⟩, _, rfl, L.l3, _, _, rfl, rfl, (upd_ne sr2.ne23.symm).trans ((upd_ne sr2.ne13.symm).trans hz), sz_lt' (by omega), ?_⟩
      show (tSeq _ _) _ _ (upd (upd (upd H2 L.l1 (.lst ((st.sk.map fun s => nV (RwM.pack s)) ++ [nV (RwM.pack s)]))) L.l2 (.lst (ys ++ [sv]))) L.l3 (.lst (zs ++ [ov])))
      generalize (upd (upd (upd H2 L.l1 (.lst ((st.sk.map fun s => nV (RwM.pack s)) ++ [nV (RwM.pack s)]))) L.l2 (.lst (ys ++ [sv]))) L.l3 (.lst (zs ++ [ov]))) = G at sr4 t4 ts4 ⊢
      have ret : ∀ (G' : Hp) (f : Option Nat), SrAt c H0 G' L M piece ⟨st.sk ++ [s], st.org ++ [o], f⟩ → f = RwM.found M.first st s → SFr L H2 G' →
          (tRet (tOp rSubN (tCB (rLenS K) (tCons (tFld K (tVar 0) "sketches") tNil)) (tC (nV 1)))) { nx := fun _ H1 => Q .non H1, rt := Q } [some (.ref L.x), some sv, some ov, some (nV (RwM.pack s)), u4, u5] G' := by
        intro G' f sG hf fr
        subst hf
        obtain ⟨ys', hy', ay'⟩ := sG.sk
        have ly' := ay'.length
        rw [List.length_append, List.length_singleton] at ly'
        refine ⟨_, rfl, L.x, _, _, _, _, rfl, sG.obj, T.clS, T.s_sketches, rfl, L.l2, _, rfl, .inl (sqL hy'), _, 1, rfl, rfl, by omega, ?_⟩
        have qq := q G' sG ((sfr_same s2).trans fr)
        have e : ys'.length - 1 = st.sk.length := by omega
        rw [e]
        exact qq
      cases ef : st.fnd with
      | some k =>
        rw [ef] at sr4
        refine ⟨_, rfl, L.x, _, _, _, _, rfl, sr4.obj, T.clS, T.s_found, rfl, (k : Int), 0, rfl, rfl, _, rfl, if_no (by omega) (iteF ?_)⟩
        refine ret G (some k) sr4 ?_ t4
        unfold RwM.found
        rw [if_neg (fun z => by rw [ef] at z; cases z.1), ef]
      | none =>
        rw [ef] at sr4
        refine ⟨_, rfl, L.x, _, _, _, _, rfl, sr4.obj, T.clS, T.s_found, rfl, -1, 0, rfl, rfl, _, rfl, if_yes (by decide) ?_⟩
        have hmach := sr.mach
        obtain ⟨m, dxm, cv, dv, fv, em, hm, _, _, hfv⟩ := hmach
        have sG : Same H0 G := sr4.same
        refine ⟨_, rfl, _, rfl, L.x, _, _, _, _, rfl, sr4.obj, T.clS, T.s_machine, rfl, m, _, _, _, _, em, sG _ _ hm, T.clM, T.m_first, rfl, sv, fv, s, M.first, rfl, MonoT.mono ts4 hs2, MonoT.mono (ts_of sG) hfv, by rw [ls, RwM.vSk_len ok.first], by omega, fun G5 w s5 hw => ?_⟩
        have sr5 := sr4.move s5
        cases e2 : RwM.meet s M.first with
        | none =>
          rw [e2] at hw
          obtain rfl : w = .non := hw
          refine ⟨_, rfl, if_is (c := false) rfl (fun z => nomatch z) fun _ => ?_⟩
          refine ret G5 none sr5 ?_ (t4.trans (sfr_same s5))
          unfold RwM.found
          rw [if_neg (fun z => z.2 e2), ef]
        | some mm =>
          rw [e2] at hw
          obtain ⟨pm, rfl, _⟩ : IsN G5 w mm := hw
          obtain ⟨ys', hy', ay'⟩ := sr5.sk
          have ly' := ay'.length
          rw [List.length_append, List.length_singleton] at ly'
          refine ⟨_, rfl, if_is (c := true) rfl (fun _ => ?_) fun z => nomatch z⟩
          refine ⟨_, rfl, L.x, _, _, _, _, rfl, sr5.obj, T.clS, T.s_sketches, rfl, L.l2, _, rfl, .inl (sqL hy'), _, 1, rfl, rfl, by omega, ?_⟩
          refine ⟨_, rfl, L.x, _, L.dx, _, rfl, sr5.obj, T.clS, T.s_found, by show 6 < 1000; decide, ?_⟩
          have e : ys'.length - 1 = st.sk.length := by omega
          rw [e]
          refine ret _ (some st.sk.length) (sr5.fnd (some st.sk.length)) ?_ ((t4.trans (sfr_same s5)).trans sfr_x)
          unfold RwM.found
          rw [if_pos ⟨ef, fun z => by rw [e2] at z; cases z⟩]
end RwW
/-! readings, part 14: places, rows -/
namespace RwW
open PySem L2 RwR
open RwM (A2 Sk Dk Src Deed Mach SS vSk vDk MachOk DeedOk SInv OrgOk Ext)
variable {K : PySem.W.Frag} {c : Cs}

theorem rd_Search_places (T : KF K c) (vs : List V) (H : Hp) (Q : VK) (E : XK) (h : spPlaces c vs H Q E) : t_Search_places K c { nx := fun _ H1 => Q .non H1, rt := Q } (start ["self", "sketch", "origin", "part"] vs) H := by
  obtain ⟨H0, L, M, piece, st, sv, ov, s, o, B, rfl, sr, ok, hs, ho, vs, I, hpl, hp2, hO, q⟩ := h
  have ls := RwM.vSk_len vs
  have few := ok.few.2
  have wf := without_few (a := s) (p := piece) (by omega) (fun x hx => by rw [hpl x hx, ls]) hp2
  have hv : ∀ x ∈ RwM.without s piece, vSk M.sizes x := RwM.vSk_without vs hpl
  refine ⟨_, rfl, _, rfl, L.x, _, _, _, _, rfl, sr.obj, T.clS, T.s_piece, rfl, sv, L.pv, s, piece, rfl, hs, MonoS.mono sr.same sr.piece, fun x hx => by rw [hpl x hx, ls], by omega, hp2, fun H1 w s1 hn => ?_⟩
  obtain ⟨pw, ws, rfl, hpw, h1, hA⟩ := hn
  refine ⟨pw, rfl, ⟨_, sqL h1⟩, fun D hD => ?_⟩
  have sr1 := sr.move s1
  have hDH := none_back s1 hD
  obtain ⟨d0, d1, d2, d3⟩ := sr1.out hD
  obtain ⟨w0, w1, w2, w3⟩ := sr.out hpw
  have srD : SrAt c H0 (upd H1 D (.lst [])) L M piece st := sr1.move (same_new hD)
  refine lc_over (over_list hA) (fun r H2 => SFr L H1 H2 ∧ ∃ (st' : SS) (xs : List Nat), SrAt c H0 H2 L M piece st' ∧ SInv M piece B st' ∧ Ext st st' ∧ H2 D = some (.lst (xs.map nV)) ∧ xs.length + r.length ≤ 16 ∧ (∀ x ∈ r, x ∈ RwM.without s piece) ∧
      xs ++ (RwM.placeAll M.first o st' r).1 = (RwM.placeAll M.first o st (RwM.without s piece)).1 ∧ (RwM.placeAll M.first o st' r).2 = (RwM.placeAll M.first o st (RwM.without s piece)).2)
    ⟨sfr_same (same_new hD), st, [], srD, I, Ext.refl _, upd_same, by simpa using wf, fun x hx => hx, rfl, rfl⟩ (fun r H2 p => sqL (p.1 _ _ h1 w0 w1 w2 w3)) ?_ ?_
  · rintro t r x _ H2 hmt ⟨f2, st', xs, sr2, I2, e2, hd2, hz, hsub, q1, q2⟩ ⟨rfl, hx⟩
    have few2 := RwM.SInv.few ok I2
    have hl2 := I2.len
    have t2 : Ts H1 H2 := sr1.ts f2
    have hvt := hv t hmt
    have hot := hO t hmt st' e2
    refine ⟨rfl, yes_ ?_⟩
    refine ⟨_, rfl, L.x, _, _, rfl, sr2.obj, rfl, _, rfl, _, rfl, H0, L, M, piece, st', x, ov, t, o, rfl, sr2, ok, MonoT.mono t2 hx, MonoT.mono ((ts_of s1).trans t2) ho, hvt, by omega, by omega, fun H3 sr3 f3 => ?_⟩
    obtain ⟨I3, e3, _⟩ := RwM.place_ok ok I2 hvt hot
    have hd3 := f3 _ _ hd2 d0 d1 d2 d3
    rw [List.length_cons] at hz
    refine ⟨_, hd3, sz_lt' (by rw [List.length_map]; omega), ?_, _, xs ++ [(RwM.place M.first st' t o).1], sr3.other (none_back sr.same hDH) d0 d1 d2 d3 (ts_lst hd3), I3, e2.trans e3, ?_, by rw [List.length_append, List.length_singleton]; omega, fun y hy => hsub y (List.mem_cons_of_mem _ hy), ?_, q2⟩
    · intro b u hb b0 b1 b2 b3
      have := f3 _ _ (f2 _ _ hb b0 b1 b2 b3) b0 b1 b2 b3
      rw [upd_ne (ne_of_none hb hD)]
      exact this
    · rw [upd_same, List.map_append]
      rfl
    · rw [← q1, List.append_assoc]
      rfl
  · rintro H2 ⟨f2, st', xs, sr2, I2, e2, hd2, hz, hsub, q1, q2⟩
    have q1 : xs ++ [] = (RwM.placeAll M.first o st (RwM.without s piece)).1 := q1
    have q2 : st' = (RwM.placeAll M.first o st (RwM.without s piece)).2 := q2
    rw [List.append_nil] at q1
    rw [← q1, ← q2] at q
    exact q _ _ sr2 ((sfr_same s1).trans f2) ⟨D, _, rfl, hDH, hd2, a2_nat xs⟩

/-! ### hidden objects -/
/-- the heap without the objects at ns -/
def hid (ns : List Addr) (H : Hp) : Hp := fun b => if b ∈ ns then none else H b
theorem hid_in {ns : List Addr} {H : Hp} {b : Addr} (h : b ∈ ns) : hid ns H b = none := if_pos h
theorem hid_out {ns : List Addr} {H : Hp} {b : Addr} (h : b ∉ ns) : hid ns H b = H b := if_neg h
theorem hid_some {ns : List Addr} {H : Hp} {b : Addr} {o : HO} (h : hid ns H b = some o) : b ∉ ns ∧ H b = some o := by
  by_cases q : b ∈ ns
  · rw [hid_in q] at h
    cases h
  · rw [hid_out q] at h
    exact ⟨q, h⟩
theorem hid_same (ns : List Addr) (H : Hp) : Same (hid ns H) H := fun b o h => (hid_some h).2
theorem hid_mono {ns : List Addr} {H H' : Hp} (h : ∀ b o, b ∉ ns → H b = some o → H' b = some o) : Same (hid ns H) (hid ns H') := fun b o q => by
  obtain ⟨h1, h2⟩ := hid_some q
  rw [hid_out h1]
  exact h b o h1 h2
theorem lst_up {α : Type} {R : Rp α} [MonoS R] {ns : List Addr} {H : Hp} {vs : List V} {xs : List α} (h : A2 (R (hid ns H)) vs xs) : A2 (R H) vs xs := a2_monoS (hid_same ns H) h

theorem nw_new {H H' : Hp} {b : Addr} (h : H b = none) : nw H H' b = H' b := by
  unfold nw
  rw [h]
theorem nw_some {H H' : Hp} {b : Addr} {o : HO} (h : nw H H' b = some o) : H b = none ∧ H' b = some o := by
  unfold nw at h
  cases e : H b with
  | none =>
    rw [e] at h
    exact ⟨rfl, h⟩
  | some u =>
    rw [e] at h
    cases h
theorem nw_same (H H' : Hp) : Same (nw H H') H' := fun b o h => (nw_some h).2
theorem nw_mono {ns : List Addr} {H H1 H2 : Hp} (h : ∀ b o, b ∉ ns → H b = none → H1 b = some o → H2 b = some o) : Same (hid ns (nw H H1)) (hid ns (nw H H2)) := fun b o q => by
  obtain ⟨h1, h2⟩ := hid_some q
  obtain ⟨h3, h4⟩ := nw_some h2
  rw [hid_out h1, nw_new h3]
  exact h b o h1 h3 h4
/-- what is new behind is new ahead -/
theorem SrAt.back {H0 H H2 : Hp} {L : SLoc} {M : Mach} {piece : List Sk} {st : SS} (h : SrAt c H0 H2 L M piece st) (f : SFr L H H2) {p : Addr} (hp : H2 p = none) : H p = none := by
  obtain ⟨m0, m1, m2, m3⟩ := h.out hp
  cases e : H p with
  | none => rfl
  | some o =>
    rw [f _ _ e m0 m1 m2 m3] at hp
    cases hp
theorem rowGo_nil (M : Mach) (piece : List Sk) (s : Sk) (k : Nat) (st : SS) (d : Nat) : RwM.rowGo M piece s k st d [] = ([], st) := rfl
theorem rowGo_cons (M : Mach) (piece : List Sk) (s : Sk) (k : Nat) (st : SS) (d : Nat) (deed : Deed) (r : List Deed) : RwM.rowGo M piece s k st d (deed :: r) =
    ((RwM.placeAll M.first (some (d, k)) st (RwM.parts M.sizes s deed piece)).1 :: (RwM.rowGo M piece s k (RwM.placeAll M.first (some (d, k)) st (RwM.parts M.sizes s deed piece)).2 (d + 1) r).1,
      (RwM.rowGo M piece s k (RwM.placeAll M.first (some (d, k)) st (RwM.parts M.sizes s deed piece)).2 (d + 1) r).2) := rfl
theorem rd_Search_row (T : KF K c) (vs : List V) (H : Hp) (Q : VK) (E : XK) (h : spRow c vs H Q E) : t_Search_row K c { nx := fun _ H1 => Q .non H1, rt := Q } (start ["self", "number", "entries", "deed", "earlier"] vs) H := by
  obtain ⟨H0, L, M, piece, st, s, k, B, rfl, sr, ok, I, hpl, hp2, hk, q⟩ := h
  have vs := I.val s (List.mem_of_getElem? hk)
  obtain ⟨m, dxm, cv, dv, fv, em, hm, _, ⟨pd, us, edv, hpd, hrd⟩, _⟩ := sr.mach
  have nd := ok.fewD
  have lus := hrd.length
  refine ⟨Nat.zero_le _, fun le hle => ?_⟩
  obtain ⟨n0, n1, n2, n3⟩ := sr.out hle
  have s1 : Same H (upd H le (.lst [])) := same_new hle
  have sr1 := sr.move s1
  have hle0 := none_back sr.same hle
  refine ⟨_, rfl, L.x, _, _, _, _, rfl, sr1.obj, T.clS, T.s_machine, rfl, m, _, _, _, _, em, sr1.same _ _ hm, T.clM, T.m_deeds, rfl, pd, us, by rw [edv], .inr (sqT (sr1.same _ _ hpd)), _, rfl, by rw [lus]; omega, by rw [lus]; omega, ?_⟩
  rw [lus, Int.toNat_natCast]
  refine for_over over_range (fun r σ H1 => SFr L H H1 ∧ ∃ (d : Nat) (st' : SS) (rows : List (List Nat)) (ys : List V) (u3 u4 : Option V), r = (List.range M.deeds.length).drop d ∧ d ≤ M.deeds.length ∧ σ = [some (.ref L.x), some (nV k), some (.ref le), u3, u4] ∧ SrAt c H0 H1 L M piece st' ∧ SInv M piece B st' ∧ Ext st st' ∧
      H1 le = some (.lst ys) ∧ A2 (LstOf IsNat (hid [le] (nw H H1))) ys rows ∧ rows.length ≤ d ∧ rows ++ (RwM.rowGo M piece s k st' d (M.deeds.drop d)).1 = (RwM.rowGo M piece s k st 0 M.deeds).1 ∧ (RwM.rowGo M piece s k st' d (M.deeds.drop d)).2 = (RwM.rowGo M piece s k st 0 M.deeds).2)
    ⟨sfr_same s1, 0, st, [], [], _, _, by simp, Nat.zero_le _, rfl, sr1, I, Ext.refl _, upd_same, .nil, by simp, rfl, rfl⟩ (fun _ _ _ _ => trivial) ?_ ?_
  · rintro i r x σ _ H1 hmi ⟨f1, d, st', rows, ys, u3, u4, hr, hd, rfl, sr1, I1, e1, hl, hA, hn, q1, q2⟩ ⟨rfl, rfl⟩
    have hd1 : d < M.deeds.length := by
      refine Nat.lt_of_not_le fun z => ?_
      rw [List.drop_eq_nil_of_le (by simpa using z)] at hr
      cases hr
    have hr2 : (List.range M.deeds.length).drop d = d :: (List.range M.deeds.length).drop (d + 1) := by
      rw [List.drop_eq_getElem_cons (by simpa using hd1)]
      simp
    rw [hr2] at hr
    injection hr with e3 e2
    subst e3
    rw [List.drop_eq_getElem_cons hd1, rowGo_cons] at q1 q2
    have hdeed : M.deeds[i]? = some M.deeds[i] := List.getElem?_eq_getElem _
    have hk1 := e1.get hk
    have few1 := RwM.SInv.few ok I1
    obtain ⟨zs, hzs, hAz⟩ := sr1.sk
    obtain ⟨w, hw, hws⟩ := A2.get_r hAz hk1
    refine ⟨_, rfl, L.x, _, _, _, _, rfl, sr1.obj, T.clS, T.s_machine, rfl, _, rfl, L.x, _, _, _, _, rfl, sr1.obj, T.clS, T.s_sketches, rfl, _, rfl, L.l2, _, _, _, rfl, rfl, sqL hzs, at_nat hw, _, rfl, ?_⟩
    refine ⟨L.mv, w, M, s, i, M.deeds[i], rfl, MonoS.mono sr1.same sr1.mach, ok, hws, vs, hdeed, fun H2 v2 s2 hv2 => ?_⟩
    have sr2 := sr1.move s2
    have hl2 := s2 _ _ hl
    have hid2 : Same (hid [le] (nw H H1)) (hid [le] (nw H H2)) := nw_mono fun b o _ _ h => s2 b o h
    have f02 : SFr L H H2 := f1.trans (sfr_same s2)
    refine ⟨_, rfl, .inl ⟨rfl, _, sqL hl2⟩, ?_⟩
    cases eb : RwM.before M.sizes s M.deeds[i] with
    | none =>
      rw [eb] at hv2
      obtain rfl : v2 = .non := hv2
      have ep : RwM.parts M.sizes s M.deeds[i] piece = [] := by
        unfold RwM.parts
        rw [eb]
      rw [ep] at q1 q2
      refine ⟨_, rfl, _, rfl, if_is (c := true) rfl (fun _ => ?_) fun z => nomatch z⟩
      refine ⟨Nat.zero_le _, fun p hp => ?_⟩
      have s3 : Same H2 (upd H2 p (.lst [])) := same_new hp
      have hl3 := s3 _ _ hl2
      have hlen := hA.length
      have sr3 := sr2.move s3
      have fin : SFr L H (upd (upd H2 p (.lst [])) le (.lst (ys ++ [.ref p]))) := fun b u hb b0 b1 b2 b3 => by
        rw [upd_ne (ne_of_none hb hle)]
        exact s3 _ _ (s2 _ _ (f1 _ _ hb b0 b1 b2 b3))
      have m4 : p ≠ le := (ne_of_none hl2 hp).symm
      have hpH : H p = none := sr2.back f02 hp
      have hp3 : hid [le] (nw H (upd (upd H2 p (.lst [])) le (.lst (ys ++ [.ref p])))) p = some (.lst []) := by
        rw [hid_out (by simp [m4]), nw_new hpH, upd_ne m4, upd_same]
      have hid3 : Same (hid [le] (nw H H2)) (hid [le] (nw H (upd (upd H2 p (.lst [])) le (.lst (ys ++ [.ref p]))))) := nw_mono fun b o hb _ h => by
        rw [upd_ne (fun e => hb (by simp [e]))]
        exact s3 _ _ h
      refine ⟨le, _, _, rfl, rfl, hl3, sz_lt' (by omega), fin, i + 1, st', rows ++ [[]], _, _, _, e2, hd1, rfl, sr3.other hle0 n0 n1 n2 n3 (ts_lst hl3), I1, e1, upd_same, A2.snoc (a2_monoS (hid2.trans hid3) hA) ⟨p, [], rfl, hp3, .nil⟩, by rw [List.length_append, List.length_singleton]; omega, ?_, q2⟩
      rw [← q1, List.append_assoc]
      rfl
    | some b =>
      rw [eb] at hv2
      have hv2 : IsN H2 v2 b := hv2
      obtain ⟨pb, rfl, hpb⟩ := hv2
      have ep : RwM.parts M.sizes s M.deeds[i] piece = RwM.without b piece := by
        unfold RwM.parts
        rw [eb]
      rw [ep] at q1 q2
      have hdm := List.mem_of_getElem? hdeed
      have vb := RwM.vSk_before (ok.deed _ hdm) (fun n hn => (ok.size n hn).1) vs eb
      refine ⟨_, rfl, _, rfl, if_is (c := false) rfl (fun z => nomatch z) fun _ => ?_⟩
      refine ⟨_, rfl, L.x, _, _, rfl, sr2.obj, rfl, _, rfl, _, rfl, _, rfl, by show 2 ≤ sizeLine; decide, fun po hpo => ?_⟩
      have s3 : Same H2 (upd H2 po (.tup [nV i, nV k])) := same_new hpo
      have sr3 := sr2.move s3
      refine ⟨H0, L, M, piece, st', .ref pb, .ref po, b, some (i, k), B, rfl, sr3, ok, ⟨pb, rfl, s3 _ _ hpb⟩, ⟨po, rfl, upd_same⟩, vb, I1, hpl, hp2, fun p hp st2 hst2 => ⟨M.deeds[i], s, b, hdeed, hst2.get hk1, eb, hp⟩, fun H4 v4 sr4 f4 hn4 => ?_⟩
      obtain ⟨pn, xs, rfl, hpn0, hpn4, hAn⟩ := hn4
      have hl3 := s3 _ _ hl2
      have hl4 := f4 _ _ hl3 n0 n1 n2 n3
      have hlen := hA.length
      have mmp := RwM.placeAll_ok (o := some (i, k)) ok (ps := RwM.without b piece) I1 (RwM.vSk_without vb hpl) fun p hp st2 hst2 => ⟨M.deeds[i], s, b, hdeed, hst2.get hk1, eb, hp⟩
      obtain ⟨I4, e4, _⟩ := mmp
      have hpH : H pn = none := sr3.back (f02.trans (sfr_same s3)) hpn0
      have hpl' : pn ≠ le := (ne_of_none hl3 hpn0).symm
      have fin : SFr L H (upd H4 le (.lst (ys ++ [.ref pn]))) := fun b u hb b0 b1 b2 b3 => by
        rw [upd_ne (ne_of_none hb hle)]
        exact f4 _ _ (s3 _ _ (s2 _ _ (f1 _ _ hb b0 b1 b2 b3))) b0 b1 b2 b3
      have hp3 : hid [le] (nw H (upd H4 le (.lst (ys ++ [.ref pn])))) pn = some (.lst xs) := by
        rw [hid_out (by simp [hpl']), nw_new hpH, upd_ne hpl']
        exact hpn4
      have hid3 : Same (hid [le] (nw H H2)) (hid [le] (nw H (upd H4 le (.lst (ys ++ [.ref pn]))))) := nw_mono fun b o hb hH h => by
        obtain ⟨b0, b1, b2, b3⟩ := sr.out hH
        rw [upd_ne (fun e => hb (by simp [e]))]
        exact f4 _ _ (s3 _ _ h) b0 b1 b2 b3
      refine ⟨le, _, _, rfl, rfl, hl4, sz_lt' (by omega), fin, i + 1, _, rows ++ [(RwM.placeAll M.first (some (i, k)) st' (RwM.without b piece)).1], _, _, _, e2, hd1, rfl, sr4.other hle0 n0 n1 n2 n3 (ts_lst hl4), I4, e1.trans e4, upd_same, A2.snoc (a2_monoS (hid2.trans hid3) hA) ⟨pn, xs, rfl, hp3, A2.imp (fun _ _ h => h) hAn⟩, by rw [List.length_append, List.length_singleton]; omega, ?_, q2⟩
      rw [← q1, List.append_assoc]
      rfl
  · rintro σ H1 ⟨f1, d, st', rows, ys, u3, u4, hr, hd, rfl, sr1, I1, e1, hl, hA, hn, q1, q2⟩
    have hd1 : M.deeds.length ≤ d := by
      refine Nat.le_of_not_lt fun z => ?_
      rw [List.drop_eq_getElem_cons (by simpa using z)] at hr
      cases hr
    rw [List.drop_eq_nil_of_le hd1, rowGo_nil] at q1 q2
    have q1 : rows ++ [] = _ := q1
    rw [List.append_nil] at q1
    have q2 : st' = _ := q2
    rw [← q1, ← q2] at q
    exact ⟨_, rfl, q _ _ sr1 f1 ⟨le, ys, rfl, hle, hl, lst_up hA⟩⟩
end RwW
/-! readings, part 15: a history off the search -/
namespace RwW
open PySem L2 RwR
open RwM (A2 Sk Dk Src Deed Mach SS vSk vDk MachOk DeedOk SInv OrgOk Ext)
variable {K : PySem.W.Frag} {c : Cs}

theorem way_len {M : Mach} {piece : List Sk} {B : Nat → Sk → Prop} {st : SS} (I : SInv M piece B st) : ∀ {k s : Nat} {ds : List Nat}, RwM.Way st k ds s → k < st.sk.length → ds.length ≤ k ∧ s < st.sk.length
  | _, _, _, .nil _, h => ⟨Nat.zero_le _, h⟩
  | k, _, _, .cons (d := d) (j := j) h w, hk => by
    obtain ⟨hj, _⟩ := I.org k _ d j (List.getElem?_eq_getElem hk) h
    obtain ⟨h1, h2⟩ := way_len I w (by omega)
    rw [List.length_cons]
    exact ⟨by omega, h2⟩
theorem way_lt {M : Mach} {piece : List Sk} {B : Nat → Sk → Prop} {st : SS} (I : SInv M piece B st) {k d j : Nat} (hk : k < st.sk.length) (h : st.org[k]? = some (some (d, j))) : j < st.sk.length := by
  obtain ⟨hj, _⟩ := I.org k _ d j (List.getElem?_eq_getElem hk) h
  omega
theorem rd_way (T : KF K c) (vs : List V) (H : Hp) (Q : VK) (E : XK) (h : spWay c vs H Q E) : t_way K { nx := fun _ H1 => Q .non H1, rt := Q } (start ["search", "number", "deeds", "deed"] vs) H := by
  obtain ⟨H0, L, M, piece, st, k, start', ds, B, rfl, sr, I, hk, hz, hw, q⟩ := h
  have hlen := (way_len I hw hk).1
  refine ⟨Nat.zero_le _, fun l hl => ?_⟩
  have s1 : Same H (upd H l (.lst [])) := same_new hl
  refine ⟨fun m σ H1 => Same H H1 ∧ ∃ (k' : Nat) (ds' done : List Nat) (u : Option V), m = ds'.length ∧ σ = [some (.ref L.x), some (nV k'), some (.ref l), u] ∧ RwM.Way st k' ds' start' ∧ k' < st.sk.length ∧ done ++ ds' = ds ∧ H1 l = some (.lst (done.map nV)), ⟨ds.length, s1, k, ds, [], _, rfl, rfl, hw, hk, rfl, upd_same⟩, ?_⟩
  rintro m σ H1 ⟨s2, k', ds', done, u, rfl, rfl, hw', hk', he, hl1⟩
  have sr2 := sr.move s2
  obtain ⟨zs, hzs, hA⟩ := sr2.og
  cases hw' with
  | nil ho =>
    obtain ⟨w, hwz, hwo⟩ := A2.get_r hA ho
    obtain rfl : w = .non := hwo
    refine ⟨_, rfl, L.x, _, _, _, _, rfl, sr2.obj, T.clS, T.s_origins, rfl, _, rfl, L.l3, _, _, _, rfl, rfl, sqL hzs, at_nat hwz, _, rfl, if_is (c := false) rfl (fun z => nomatch z) fun _ => ?_⟩
    rw [List.append_nil] at he
    rw [← he] at q
    exact ⟨_, rfl, q _ _ s2 ⟨l, _, rfl, hl, hl1, a2_nat done⟩⟩
  | @cons _ d j dr _ ho hw' =>
    obtain ⟨w, hwz, hwo⟩ := A2.get_r hA ho
    obtain ⟨a, rfl, ha⟩ : IsPair H1 w (d, j) := hwo
    refine ⟨_, rfl, L.x, _, _, _, _, rfl, sr2.obj, T.clS, T.s_origins, rfl, _, rfl, L.l3, _, _, _, rfl, rfl, sqL hzs, at_nat hwz, _, rfl, if_is (c := true) rfl (fun _ => ?_) fun z => nomatch z⟩
    refine ⟨fun σ H2 => Same H H2 ∧ ∃ (k' : Nat) (done : List Nat) (u : Option V), σ = [some (.ref L.x), some (nV k'), some (.ref l), u] ∧ RwM.Way st k' dr start' ∧ k' < st.sk.length ∧ done ++ dr = ds ∧ H2 l = some (.lst (done.map nV)), ?_, ?_⟩
    · rintro σ' H' ⟨s3, k2, done2, u2, rfl, w2, hk2, he2, hl2⟩
      exact ⟨dr.length, by rw [List.length_cons]; omega, s3, k2, dr, done2, u2, rfl, rfl, w2, hk2, he2, hl2⟩
    · refine ⟨_, rfl, L.x, _, _, _, _, rfl, sr2.obj, T.clS, T.s_origins, rfl, _, rfl, L.l3, _, _, _, rfl, rfl, sqL hzs, at_nat hwz, a, _, rfl, sqT ha, rfl, _, _, rfl, _, _, rfl, rfl, ?_⟩
      have e2 := congrArg List.length he
      rw [List.length_append, List.length_cons] at e2
      refine ⟨_, rfl, .inl ⟨rfl, _, sqL hl1⟩, _, rfl, l, _, _, rfl, rfl, hl1, sz_lt' (by rw [List.length_map]; omega), same_mut s2 hl, j, done ++ [d], _, rfl, hw', way_lt I hk' ho, ?_, ?_⟩
      · rw [← he, List.append_assoc]
        rfl
      · rw [upd_same, List.map_append]
        rfl
theorem rd_Search_history (T : KF K c) (vs : List V) (H : Hp) (Q : VK) (E : XK) (h : spHistory c vs H Q E) : t_Search_history K { nx := fun _ H1 => Q .non H1, rt := Q } (start ["self", "number", "disk", "deeds", "deed"] vs) H := by
  obtain ⟨H0, L, M, piece, st, k, s, mm, start', ds, B, rfl, sr, ok, I, hf, hk, hm, hw, q⟩ := h
  have hkl := (List.getElem?_eq_some_iff.mp hk).1
  have hlen := (way_len I hw hkl).1
  have few := RwM.SInv.few ok I
  have vs := I.val s (List.mem_of_getElem? hk)
  have ls := RwM.vSk_len vs
  have fewM := ok.few.2
  have vm := RwM.vSk_meet vs (by rw [RwM.vSk_len ok.first, ls]) hm
  have h3 : ∀ n ∈ M.sizes, n ≤ 3 := fun n hn => (ok.size n hn).2
  obtain ⟨m, dxm, cv, dv, fv, em, hmm, _, _, hfv⟩ := sr.mach
  have ob := sr.obj
  rw [hf] at ob
  obtain ⟨ys, hys, hAy⟩ := sr.sk
  obtain ⟨w, hw1, hws⟩ := A2.get_r hAy hk
  refine ⟨_, rfl, L.x, _, _, _, _, rfl, ob, T.clS, T.s_found, rfl, ?_⟩
  refine ⟨_, rfl, L.x, _, _, _, _, rfl, ob, T.clS, T.s_sketches, rfl, _, rfl, L.l2, _, _, _, rfl, rfl, sqL hys, at_nat hw1, _, rfl, L.x, _, _, _, _, rfl, ob, T.clS, T.s_machine, rfl, m, _, _, _, _, em, sr.same _ _ hmm, T.clM, T.m_first, rfl, ?_⟩
  refine ⟨w, fv, s, M.first, rfl, hws, MonoS.mono sr.same hfv, by rw [ls, RwM.vSk_len ok.first], by omega, fun H1 w1 s1 hv1 => ?_⟩
  rw [hm] at hv1
  have hv1 : IsN H1 w1 mm := hv1
  have vpos := RwM.vSk_pos vm
  refine ⟨w1, mm, rfl, hv1, fun x hx => ⟨?_, ?_⟩, by rw [RwM.vSk_len vm]; omega, fun H2 w2 s2 hv2 => ?_⟩
  · exact Nat.pos_of_ne_zero fun e => vpos (e ▸ hx)
  · have := RwM.vSk_lt h3 vm x hx
    omega
  have s02 := s1.trans s2
  refine ⟨Nat.zero_le _, fun l hl => ?_⟩
  have s3 : Same H (upd H2 l (.lst [])) := s02.trans (same_new hl)
  have hlH := none_back s02 hl
  refine ⟨fun m σ H1 => Same H H1 ∧ IsN H1 w2 (RwM.leastDisk mm) ∧ ∃ (k' : Nat) (ds' done : List Nat) (u : Option V), m = ds'.length ∧ σ = [some (.ref L.x), some (nV k'), some w2, some (.ref l), u] ∧ RwM.Way st k' ds' start' ∧ k' < st.sk.length ∧ done ++ ds' = ds ∧ H1 l = some (.lst (done.map nV)), ⟨ds.length, s3, MonoS.mono (same_new hl) hv2, k, ds, [], _, rfl, rfl, hw, hkl, rfl, upd_same⟩, ?_⟩
  rintro m σ H1 ⟨s2, hd, k', ds', done, u, rfl, rfl, hw', hk', he, hl1⟩
  have sr2 := sr.move s2
  have ob2 := s2 _ _ ob
  obtain ⟨zs, hzs, hA⟩ := sr2.og
  cases hw' with
  | nil ho =>
    obtain ⟨w, hwz, hwo⟩ := A2.get_r hA ho
    obtain rfl : w = .non := hwo
    refine ⟨_, rfl, L.x, _, _, _, _, rfl, ob2, T.clS, T.s_origins, rfl, _, rfl, L.l3, _, _, _, rfl, rfl, sqL hzs, at_nat hwz, _, rfl, if_is (c := false) rfl (fun z => nomatch z) fun _ => ?_⟩
    rw [List.append_nil] at he
    rw [← he] at q
    exact ⟨_, rfl, _, rfl, by show 2 ≤ sizeLine; decide, fun a ha => q _ a w2 l (s2.trans (same_new ha)) upd_same (MonoS.mono (same_new ha) hd) (same_new ha _ _ hl1) hlH⟩
  | @cons _ d j dr _ ho hw' =>
    obtain ⟨w, hwz, hwo⟩ := A2.get_r hA ho
    obtain ⟨a, rfl, ha⟩ : IsPair H1 w (d, j) := hwo
    refine ⟨_, rfl, L.x, _, _, _, _, rfl, ob2, T.clS, T.s_origins, rfl, _, rfl, L.l3, _, _, _, rfl, rfl, sqL hzs, at_nat hwz, _, rfl, if_is (c := true) rfl (fun _ => ?_) fun z => nomatch z⟩
    refine ⟨fun σ H2 => Same H H2 ∧ IsN H2 w2 (RwM.leastDisk mm) ∧ ∃ (k' : Nat) (done : List Nat) (u : Option V), σ = [some (.ref L.x), some (nV k'), some w2, some (.ref l), u] ∧ RwM.Way st k' dr start' ∧ k' < st.sk.length ∧ done ++ dr = ds ∧ H2 l = some (.lst (done.map nV)), ?_, ?_⟩
    · rintro σ' H' ⟨s3, hd3, k2, done2, u2, rfl, w2, hk2, he2, hl2⟩
      exact ⟨dr.length, by rw [List.length_cons]; omega, s3, hd3, k2, dr, done2, u2, rfl, rfl, w2, hk2, he2, hl2⟩
    · refine ⟨_, rfl, L.x, _, _, _, _, rfl, ob2, T.clS, T.s_origins, rfl, _, rfl, L.l3, _, _, _, rfl, rfl, sqL hzs, at_nat hwz, a, _, rfl, sqT ha, rfl, _, _, rfl, _, _, rfl, rfl, ?_⟩
      have e2 := congrArg List.length he
      rw [List.length_append, List.length_cons] at e2
      refine ⟨_, rfl, .inl ⟨rfl, _, sqL hl1⟩, _, rfl, l, _, _, rfl, rfl, hl1, sz_lt' (by rw [List.length_map]; omega), same_mut s2 hlH, MonoT.mono (ts_lst hl1) hd, j, done ++ [d], _, rfl, hw', way_lt I hk' ho, ?_, ?_⟩
      · rw [← he, List.append_assoc]
        rfl
      · rw [upd_same, List.map_append]
        rfl
end RwW
/-! readings, part 16: how the machine is made -/
namespace RwW
open PySem L2 RwR
open RwM (A2 Sk Dk Src Deed Mach SS vSk vDk MachOk DeedOk SInv OrgOk Ext)
variable {K : PySem.W.Frag} {c : Cs}

def nameOkB (x : Str) : Bool := decide (1 ≤ x.cps.size) && decide (x.cps.size ≤ 12) && (match x.cps[0]? with | some k => decide (k ∈ LOWER.cps.toList) | none => false) && x.cps.toList.all fun k => decide (k ∈ LOWER.cps.toList) || decide (k ∈ DIGITS.cps.toList)
theorem nameOk_of {x : Str} (h : nameOkB x = true) : NameOk x := by
  unfold nameOkB at h
  simp only [Bool.and_eq_true, decide_eq_true_eq, List.all_eq_true, Bool.or_eq_true] at h
  obtain ⟨⟨⟨h1, h2⟩, h3⟩, h4⟩ := h
  refine ⟨h1, h2, ?_, h4⟩
  cases e : x.cps[0]? with
  | none =>
    rw [e] at h3
    cases h3
  | some k =>
    rw [e] at h3
    exact ⟨k, rfl, of_decide_eq_true h3⟩
theorem cNames : ∀ k : Fin 4, nameOkB (cName k.1) = true := by decide +kernel
theorem dNames : ∀ k : Fin 7, nameOkB (dName k.1) = true := by decide +kernel
theorem dInj : ∀ i j : Fin 7, dName i.1 = dName j.1 → i = j := by decide +kernel
theorem cInj : ∀ i j : Fin 4, cName i.1 = cName j.1 → i = j := by decide +kernel

def IsS : Rp Str := fun _ v x => v = .str x
instance : MonoT IsS := ⟨fun _ h => h⟩
theorem s_a2 {H : Hp} : ∀ {vs : List V} {xs : List Str}, A2 (IsS H) vs xs → vs = xs.map V.str
  | _, _, .nil => rfl
  | _, _, .cons h t => by
    rw [List.map_cons, ← s_a2 t, h]
theorem zip_fst : ∀ (l : List Nat) (k : Nat), (l.zipIdx k).map (fun p => p.1) = l
  | [], _ => rfl
  | x :: l, k => by rw [List.zipIdx_cons, List.map_cons, zip_fst l]
theorem zip_mem {l : List Nat} {n i : Nat} (h : (n, i) ∈ l.zipIdx) : i < l.length ∧ n ∈ l := by
  obtain ⟨j, hj, e⟩ := List.mem_iff_getElem.mp h
  rw [List.getElem_zipIdx] at e
  injection e with e1 e2
  rw [List.length_zipIdx] at hj
  exact ⟨by omega, by rw [← e1]; exact List.getElem_mem _⟩
theorem nodup_idx {α : Type} (f : α → Str) : ∀ {l : List α}, (∀ (i j : Nat) (a b : α), l[i]? = some a → l[j]? = some b → f a = f b → i = j) → (l.map f).Nodup := by
  intro l h
  unfold List.Nodup
  rw [List.pairwise_iff_getElem]
  intro i j hi hj hij e
  rw [List.length_map] at hi hj
  rw [List.getElem_map, List.getElem_map] at e
  have := h i j _ _ (List.getElem?_eq_getElem hi) (List.getElem?_eq_getElem hj) e
  omega
theorem fst_pair {H : Hp} {v : V} {g : List (Nat × Nat)} (h : TupOf IsPair H v g) : TupOf IsFst H v (g.map (·.1)) := by
  obtain ⟨a, vs, e, h1, h2⟩ := h
  refine ⟨a, vs, e, h1, A2.map_r (A2.imp ?_ h2)⟩
  rintro _ p ⟨b, rfl, hb⟩
  exact ⟨b, _, rfl, hb⟩
theorem fst_chg {H : Hp} {v : V} {g : List (Nat × Src)} (h : TupOf IsChg H v g) : TupOf IsFst H v (g.map (·.1)) := by
  obtain ⟨a, vs, e, h1, h2⟩ := h
  refine ⟨a, vs, e, h1, A2.map_r (A2.imp ?_ h2)⟩
  rintro _ p ⟨b, s, rfl, hb, _⟩
  exact ⟨b, _, rfl, hb⟩
theorem vSk_zip {sizes s : List Nat} {m n : Nat} (h : vSk sizes s) (hm : (m, n) ∈ s.zip sizes) : 1 ≤ m ∧ m < 2 ^ n ∧ n ∈ sizes := by
  obtain ⟨j, hj, e⟩ := List.mem_iff_getElem.mp hm
  rw [List.getElem_zip] at e
  injection e with e1 e2
  have hl := h.length
  rw [List.length_zip] at hj
  have := A2.get h (List.getElem?_eq_getElem (show j < sizes.length by omega)) (List.getElem?_eq_getElem (show j < s.length by omega))
  rw [e1, e2] at this
  exact ⟨this.1, this.2, by rw [← e2]; exact List.getElem_mem _⟩
theorem rd_Machine_init (T : KF K c) (vs : List V) (H : Hp) (Q : VK) (E : XK) (h : spMachine c vs H Q E) : t_Machine_init K c { nx := fun _ H1 => Q .non H1, rt := Q } (start ["self", "cells", "deeds", "first", "sizes", "_", "guard", "changes", "size", "name", "deed", "mask"] vs) H := by
  obtain ⟨m, dx, cv, dv, fv, M, H0, rfl, hm, s0, h0, ⟨pc, cs, rfl, hpc, hrc⟩, ⟨pd, ds, rfl, hpd, hrd⟩, ⟨pf, rfl, hpf⟩, ok, ids, q⟩ := h
  have lc := hrc.length
  rw [List.length_zipIdx] at lc
  have ld := hrd.length
  have few := ok.few
  have fd := ok.fewD
  have hzl : M.sizes.zipIdx.length = M.sizes.length := List.length_zipIdx
  have lf := RwM.vSk_len ok.first
  have hc0 := s0 _ _ hpc
  have hd0 := s0 _ _ hpd
  refine ⟨_, rfl, pc, _, rfl, .inl (sqL hc0), _, 1, rfl, rfl, _, rfl, if_no (by omega) ?_⟩
  refine ⟨_, rfl, pc, _, rfl, .inl (sqL hc0), _, 24, rfl, rfl, _, rfl, if_no (by omega) ?_⟩
  refine ⟨_, rfl, pd, _, rfl, .inl (sqL hd0), _, 400, rfl, rfl, _, rfl, if_no (by omega) ?_⟩
  refine ⟨_, rfl, pc, rfl, ⟨_, sqL hc0⟩, fun D1 hD1 => ?_⟩
  refine lc_map (S := IsS) (f := fun p => cName p.2) (over_list hrc) hD1 (fun H1 sm => sqL (sm _ _ hc0)) (by omega) ?_ ?_
  · rintro ⟨n, i⟩ x _ H1 N hmm sm ⟨rfl, a, rfl, ha⟩ hN
    exact ⟨a, _, rfl, sqT (sm _ _ (s0 _ _ ha)), rfl, _, _, rfl, _, _, rfl, rfl, rfl, _, rfl, hN _ _ (Same.refl _) rfl⟩
  rintro H1 ys1 s1 hy1 r1
  have e1 := s_a2 r1
  subst e1
  refine ⟨D1, M.sizes.zipIdx.map fun p => cName p.2, rfl, sqL hy1, ?_, ?_, by rw [List.length_map]; omega, fun H2 s2 => ?_⟩
  · intro x hx
    obtain ⟨⟨n, i⟩, hp, rfl⟩ := List.mem_map.mp hx
    have := (zip_mem hp).1
    exact nameOk_of (cNames ⟨i, by omega⟩)
  · refine nodup_idx _ fun i j a b hi hj he => ?_
    have h1 : ∀ {i : Nat} {a : Nat × Nat}, M.sizes.zipIdx[i]? = some a → a.2 = i ∧ i < 4 := fun {i a} h => by
      obtain ⟨hl, e⟩ := List.getElem?_eq_some_iff.mp h
      rw [List.getElem_zipIdx] at e
      rw [← e]
      exact ⟨by simp, by omega⟩
    obtain ⟨a1, a2⟩ := h1 hi
    obtain ⟨b1, b2⟩ := h1 hj
    have := cInj ⟨i, a2⟩ ⟨j, b2⟩ (by rw [a1, b1] at he; exact he)
    injection this
  have s02 := (s0.trans s1).trans s2
  have hc2 := s02 _ _ hpc
  refine ⟨_, rfl, pc, rfl, ⟨_, sqL hc2⟩, fun D2 hD2 => ?_⟩
  refine lc_map (S := IsNat) (f := fun p => p.1) (over_list hrc) hD2 (fun H1 sm => sqL (sm _ _ hc2)) (by omega) ?_ ?_
  · rintro ⟨n, i⟩ x _ H1 N hmm sm ⟨rfl, a, rfl, ha⟩ hN
    exact ⟨a, _, rfl, sqT (sm _ _ (s02 _ _ ha)), rfl, _, _, rfl, _, _, rfl, rfl, rfl, _, rfl, hN _ _ (Same.refl _) rfl⟩
  rintro H3 ys3 s3 hy3 r3
  rw [zip_fst] at r3
  have e3 := nat_a2 r3
  subst e3
  have s03 := s02.trans s3
  refine ⟨_, rfl, D2, rfl, ⟨_, sqL hy3⟩, fun D3 hD3 => ?_⟩
  refine lc_map (S := IsB) (f := fun _ => true) (over_list (a2_nat (H := H) M.sizes)) hD3 (fun H1 sm => sqL (sm _ _ hy3)) (by omega) ?_ ?_
  · rintro n x _ H1 N hmm sm ⟨rfl, rfl⟩ hN
    have hn := ok.size n hmm
    refine ⟨rfl, _, rfl, 1, n, rfl, rfl, _, rfl, if_yes hn.1 ?_⟩
    exact ⟨n, 16, rfl, rfl, hN _ _ (Same.refl _) (by show V.bl (decide (n ≤ 16)) = V.bl true; rw [decide_eq_true (show n ≤ 16 by omega)])⟩
  rintro H4 ys4 s4 hy4 r4
  refine ⟨D3, _, rfl, sqL (by rw [hy4, b_a2 r4]), _, rfl, if_is (c := false) (by simp) (fun z => nomatch z) fun _ => ?_⟩
  have s04 := s03.trans s4
  have hs4 := s4 _ _ hy3
  have hd4 := s04 _ _ hpd
  refine ⟨_, rfl, pd, rfl, ⟨_, sqL hd4⟩, fun D4 hD4 => ?_⟩
  refine lc_map (S := IsS) (f := fun d => dName d.id) (over_list hrd) hD4 (fun H1 sm => sqL (sm _ _ hd4)) (by omega) ?_ ?_
  · rintro d x _ H1 N hmm sm ⟨rfl, a, g, ch, rfl, ha, _⟩ hN
    exact ⟨rfl, _, rfl, a, _, _, _, rfl, rfl, sqT (sm _ _ (s04 _ _ ha)), at_nat (j := 0) rfl, hN _ _ (Same.refl _) rfl⟩
  rintro H5 ys5 s5 hy5 r5
  have e5 := s_a2 r5
  subst e5
  have hh := sqL (K := K) hy5
  generalize hNM : (M.deeds.map fun d => dName d.id) = nm at hh
  refine ⟨D4, nm, rfl, hh, ?_, ?_, ?_, fun H6 s6 => ?_⟩
  · intro x hx
    rw [← hNM] at hx
    obtain ⟨d, hp, rfl⟩ := List.mem_map.mp hx
    obtain ⟨j, hj, e⟩ := List.mem_iff_getElem.mp hp
    have := ids j d (by rw [List.getElem?_eq_getElem hj, e])
    rw [this]
    exact nameOk_of (dNames ⟨j, by omega⟩)
  · rw [← hNM]
    refine nodup_idx _ fun i j a b hi hj he => ?_
    rw [ids i a hi, ids j b hj] at he
    have := dInj ⟨i, by have := (List.getElem?_eq_some_iff.mp hi).1; omega⟩ ⟨j, by have := (List.getElem?_eq_some_iff.mp hj).1; omega⟩ he
    injection this
  · rw [← hNM, List.length_map]
    omega
  have s06 := (s04.trans s5).trans s6
  have hs6 := s6 _ _ (s5 _ _ hs4)
  have hd6 := s06 _ _ hpd
  have hm6 : H6 m = some (.ins c.M dx []) := s6 _ _ (s5 _ _ (s4 _ _ (s3 _ _ (s2 _ _ (s1 _ _ hm)))))
  refine ⟨_, rfl, pd, rfl, ⟨_, sqL hd6⟩, ?_⟩
  refine for_over (over_list hrd) (fun r σ H7 => Same H6 H7 ∧ ∃ (u5 u6 u7 u8 u9 u10 u11 : Option V), σ = [some (.ref m), some (.ref pc), some (.ref pd), some (.ref pf), some (.ref D2), u5, u6, u7, u8, u9, u10, u11]) ⟨Same.refl _, _, _, _, _, _, _, _, rfl⟩ (fun r σ H7 p => sqL (p.1 _ _ hd6)) ?_ ?_
  · rintro d r x σ _ H7 hmd ⟨s7, u5, u6, u7, u8, u9, u10, u11, rfl⟩ ⟨rfl, a, g, ch, rfl, ha, hg, hch⟩
    have s07 := s06.trans s7
    have hok := ok.deed d hmd
    have hg7 := MonoS.mono s07 hg
    have hch7 := MonoS.mono s07 hch
    refine ⟨a, _, rfl, sqT (s07 _ _ ha), rfl, _, _, rfl, _, _, rfl, _, _, rfl, rfl, ?_⟩
    refine ⟨_, rfl, _, rfl, pc, _, rfl, .inl (sqL (s07 _ _ hpc)), g, d.guard.map (·.1), M.sizes.length, (by rw [lc]; rfl), fst_pair hg7, ?_, ?_, fun H8 s8 => ?_⟩
    · exact List.pairwise_map.mpr hok.guardUp
    · intro k hk
      obtain ⟨p, hp, rfl⟩ := List.mem_map.mp hk
      exact (hok.guard p hp).1
    refine ⟨_, rfl, _, rfl, pc, _, rfl, .inl (sqL (s8 _ _ (s07 _ _ hpc))), ch, d.changes.map (·.1), M.sizes.length, (by rw [lc]; rfl), fst_chg (MonoS.mono s8 hch7), ?_, ?_, fun H9 s9 => ?_⟩
    · exact List.pairwise_map.mpr hok.chgUp
    · intro k hk
      obtain ⟨p, hp, rfl⟩ := List.mem_map.mp hk
      exact (hok.chg p hp).1
    have s79 := s7.trans (s8.trans s9)
    refine ⟨_, rfl, m, dx, _, rfl, s79 _ _ hm6, rfl, _, rfl, _, rfl, _, rfl, .ref m, .ref D2, g, ch, M.sizes, d, rfl, ⟨D2, _, rfl, s79 _ _ hs6, a2_nat _⟩, MonoS.mono (s8.trans s9) hg7, MonoS.mono (s8.trans s9) hch7, hok, fun n hn => by have := ok.size n hn; omega, fun H10 s10 => ⟨s79.trans s10, _, _, _, _, _, _, _, rfl⟩⟩
  rintro σ H7 ⟨s7, u5, u6, u7, u8, u9, u10, u11, rfl⟩
  have s07 := s06.trans s7
  have hs7 := s7 _ _ hs6
  refine ⟨_, rfl, pf, _, rfl, .inr (sqT (s07 _ _ hpf)), _, rfl, pc, _, rfl, .inl (sqL (s07 _ _ hpc)), _, _, rfl, rfl, _, rfl, ?_⟩
  refine if_is (c := false) (by simp [lf, lc]) (fun z => nomatch z) fun _ => ?_
  refine ⟨_, rfl, _, rfl, pf, D2, _, _, rfl, sqT (s07 _ _ hpf), sqL hs7, fun D5 hD5 => ?_⟩
  refine lc_map (S := IsB) (f := fun _ => true) (over_zipM (a2_nat (H := H) M.first) (a2_nat (H := H) M.sizes) lf) hD5 (fun H1 sm => ⟨sqT (sm _ _ (s07 _ _ hpf)), sqL (sm _ _ hs7)⟩) (by rw [List.length_zip]; omega) ?_ ?_
  · rintro ⟨mk, n⟩ w H8 H9 N hmm sm ⟨T', _, _, rfl, hT, rfl, rfl, rfl⟩ hN
    obtain ⟨g1, g2, g3⟩ := vSk_zip ok.first hmm
    refine ⟨T', _, rfl, sqT upd_same, rfl, _, _, rfl, _, _, rfl, rfl, rfl, _, rfl, _, rfl, mk, n, rfl, by have := ok.size n g3; omega, hN _ _ (same_new hT) ?_⟩
    show V.bl _ = V.bl true
    rw [decide_eq_true (show 0 < mk by omega), decide_eq_true g2]
    rfl
  rintro H8 ys8 s8 hy8 r8
  refine ⟨D5, _, rfl, sqL (by rw [hy8, b_a2 r8]), _, rfl, if_is (c := false) (by simp) (fun z => nomatch z) fun _ => ?_⟩
  have s08 := s07.trans s8
  have hm8 := s8 _ _ (s7 _ _ hm6)
  have hc8 := s08 _ _ hpc
  refine ⟨_, rfl, pc, rfl, ⟨_, sqL hc8⟩, fun D6 hD6 => ?_⟩
  refine lc_map (S := IsCell) (f := fun p => p) (over_list hrc) hD6 (fun H1 sm => sqL (sm _ _ hc8)) (by omega) ?_ ?_
  · rintro ⟨n, i⟩ x _ H1 N hmm sm ⟨rfl, a, rfl, ha⟩ hN
    exact ⟨a, _, rfl, sqT (sm _ _ (s08 _ _ ha)), rfl, _, _, rfl, _, _, rfl, rfl, rfl, _, rfl, _, rfl, by show 2 ≤ sizeLine; decide, fun p hp => hN _ _ (same_new hp) ⟨p, rfl, upd_same⟩⟩
  rintro H9 ys9 s9 hy9 r9
  rw [List.map_id'] at r9
  refine ⟨D6, _, rfl, .inl ⟨sqL hy9, fun l1 hl1 => ?_⟩⟩
  have hm9 := same_new (o := .tup ys9) hl1 _ _ (s9 _ _ hm8)
  have n1 : l1 ≠ m := (ne_of_none (s9 _ _ hm8) hl1).symm
  refine ⟨_, rfl, m, _, dx, _, rfl, hm9, T.clM, T.m_cells, by decide, ?_⟩
  have sA : Same H0 (upd (upd H9 l1 (.tup ys9)) m (.ins c.M dx (putF "cells" (.ref l1) []))) := same_mut ((s08.trans s9).trans (same_new hl1)) h0
  have bA : Bx m H (upd (upd H9 l1 (.tup ys9)) m (.ins c.M dx (putF "cells" (.ref l1) []))) := ((bx_same (((((((s1.trans s2).trans s3).trans s4).trans s5).trans s6).trans s7).trans (s8.trans s9))).trans (bx_new hl1)).trans bx_x
  have tA : Ts H9 (upd (upd H9 l1 (.tup ys9)) m (.ins c.M dx (putF "cells" (.ref l1) []))) := (ts_new hl1).trans (ts_ins hm9)
  have cA : TupOf IsCell (upd (upd H9 l1 (.tup ys9)) m (.ins c.M dx (putF "cells" (.ref l1) []))) (.ref l1) M.sizes.zipIdx := ⟨l1, ys9, rfl, by rw [upd_ne n1, upd_same], a2_mono tA r9⟩
  have mA : (upd (upd H9 l1 (.tup ys9)) m (.ins c.M dx (putF "cells" (.ref l1) []))) m = some (.ins c.M dx [("cells", .ref l1)]) := upd_same
  generalize (upd (upd H9 l1 (.tup ys9)) m (.ins c.M dx (putF "cells" (.ref l1) []))) = GA at sA bA cA mA ⊢
  have hdA := sA _ _ hpd
  refine ⟨_, rfl, pd, rfl, ⟨_, sqL hdA⟩, fun D7 hD7 => ?_⟩
  refine lc_map (S := IsDeed) (f := fun p => p) (over_list hrd) hD7 (fun H1 sm => sqL (sm _ _ hdA)) (by omega) ?_ ?_
  · rintro d x _ H1 N hmm sm ⟨rfl, a, g, ch, rfl, ha, ⟨pg, gs, rfl, hpg, hrg⟩, ⟨ph, hs, rfl, hph, hrh⟩⟩ hN
    have sB := sA.trans sm
    refine ⟨a, _, rfl, sqT (sB _ _ ha), rfl, _, _, rfl, _, _, rfl, _, _, rfl, rfl, rfl, _, rfl, _, rfl, pg, _, rfl, .inr ⟨sqT (sB _ _ hpg), _, rfl, ph, _, rfl, .inr ⟨sqT (sB _ _ hph), ?_⟩⟩⟩
    exact ⟨by show 3 ≤ sizeLine; decide, fun p hp => hN _ _ (same_new hp) ⟨p, _, _, rfl, upd_same, ⟨pg, gs, rfl, same_new hp _ _ (sB _ _ hpg), a2_monoS (sB.trans (same_new hp)) hrg⟩, ⟨ph, hs, rfl, same_new hp _ _ (sB _ _ hph), a2_monoS (sB.trans (same_new hp)) hrh⟩⟩⟩
  rintro HB ysB sB hyB rB
  rw [List.map_id'] at rB
  refine ⟨D7, _, rfl, .inl ⟨sqL hyB, fun l2 hl2 => ?_⟩⟩
  have hmB := same_new (o := .tup ysB) hl2 _ _ (sB _ _ mA)
  have n2 : l2 ≠ m := (ne_of_none (sB _ _ mA) hl2).symm
  refine ⟨_, rfl, m, _, dx, _, rfl, hmB, T.clM, T.m_deeds, by show 1 < 1000; decide, ?_⟩
  have tB : Ts HB (upd (upd HB l2 (.tup ysB)) m (.ins c.M dx [("cells", .ref l1), ("deeds", .ref l2)])) := (ts_new hl2).trans (ts_ins hmB)
  have sC : Same H0 (upd (upd HB l2 (.tup ysB)) m (.ins c.M dx [("cells", .ref l1), ("deeds", .ref l2)])) := same_mut ((sA.trans sB).trans (same_new hl2)) h0
  have tC : Ts (upd (upd HB l2 (.tup ysB)) m (.ins c.M dx [("cells", .ref l1), ("deeds", .ref l2)])) (upd (upd (upd HB l2 (.tup ysB)) m (.ins c.M dx [("cells", .ref l1), ("deeds", .ref l2)])) m (.ins c.M dx [("cells", .ref l1), ("deeds", .ref l2), ("first", .ref pf)])) := ts_ins upd_same
  refine ⟨_, rfl, pf, _, rfl, .inr ⟨sqT (sC _ _ hpf), ?_⟩⟩
  refine ⟨_, rfl, m, _, dx, _, rfl, upd_same, T.clM, T.m_first, by show 2 < 1000; decide, ?_⟩
  refine q _ ((((bA.trans (bx_same sB)).trans (bx_new hl2)).trans bx_x).trans bx_x) ⟨m, dx, .ref l1, .ref l2, .ref pf, rfl, upd_same, ?_, ?_, ?_⟩
  · exact MonoT.mono (((ts_of sB).trans tB).trans tC) cA
  · exact ⟨l2, ysB, rfl, tC _ _ (by rw [upd_ne n2, upd_same]), a2_mono (tB.trans tC) rB⟩
  · exact ⟨pf, rfl, tC _ _ (sC _ _ hpf)⟩
end RwW
/-! readings, part 17: what the law asks of a paper -/
namespace RwW
open PySem L2 RwR
open RwM (A2 Sk Dk Src Deed Mach SS vSk vDk MachOk DeedOk SInv OrgOk Ext)
variable {K : PySem.W.Frag} {c : Cs}

theorem a2_zip {α β : Type} {R : α → β → Prop} : ∀ {xs : List α} {ys : List β} {a : α} {b : β}, A2 R xs ys → (a, b) ∈ xs.zip ys → R a b
  | _, _, _, _, .nil, h => by simp at h
  | _, _, _, _, .cons r t, h => by
    rw [List.zip_cons_cons, List.mem_cons] at h
    rcases h with h | h
    · injection h with h1 h2
      rw [h1, h2]
      exact r
    · exact a2_zip t h
theorem rd_l_covers (vs : List V) (H : Hp) (Q : VK) (E : XK) (h : lCovers vs H Q E) : t_l_covers K { nx := fun _ H1 => Q .non H1, rt := Q } (start ["_law_sketches", "_law_entry", "_law_parts_here", "_law_number", "_law_part"] vs) H := by
  obtain ⟨v1, v2, v3, sk, e, ps, n, rfl, ⟨p1, us, rfl, h1, hr1⟩, ⟨p2, rfl, h2⟩, ⟨p3, ws, rfl, h3, hr3⟩, hcov, hn1, hn2, q⟩ := h
  have l1 := hcov.length
  have l3 := hr3.length
  refine ⟨_, rfl, .ref p2, _, true, rfl, .base (.tup h2), kit_tt, _, rfl, iteF ?_⟩
  refine ⟨_, rfl, p2, _, rfl, .inr (sqT h2), _, rfl, p3, _, rfl, .inl (sqL h3), _, _, rfl, rfl, _, rfl, if_is (c := false) (by simp [l1, l3]) (fun z => nomatch z) fun _ => ?_⟩
  refine ⟨_, rfl, _, rfl, p2, p3, _, _, rfl, sqT h2, sqL h3, ?_⟩
  refine for_over (over_zipM (a2_nat (H := H) e) hr3 l1) (fun r σ H1 => Same H H1 ∧ ∃ (u3 u4 : Option V), σ = [some (.ref p1), some (.ref p2), some (.ref p3), u3, u4]) ⟨Same.refl H, _, _, rfl⟩ (fun r σ H1 p => ⟨sqT (p.1 _ _ h2), sqL (p.1 _ _ h3)⟩) ?_ ?_
  · rintro ⟨i, p⟩ r x σ H1 H2 hm ⟨sm, u3, u4, rfl⟩ ⟨T', _, y, rfl, hT, rfl, rfl, hy⟩
    have sT : Same H1 (upd H1 T' (.tup [nV i, y])) := same_new hT
    obtain ⟨t, ht, hin⟩ := a2_zip hcov hm
    obtain ⟨w, hw, hwt⟩ := A2.get_r hr1 ht
    have hil := (List.getElem?_eq_some_iff.mp ht).1
    have lu := hr1.length
    refine ⟨T', _, rfl, sqT upd_same, rfl, _, _, rfl, _, _, rfl, rfl, ?_⟩
    refine ⟨_, rfl, i, rfl, fun H3 s3 => ⟨_, rfl, iteF ?_⟩⟩
    have s03 := (sm.trans sT).trans s3
    refine ⟨_, rfl, 0, i, rfl, rfl, _, rfl, iteT ⟨_, rfl, p1, _, rfl, .inr (sqT (s03 _ _ h1)), i, _, rfl, rfl, _, rfl, ?_⟩⟩
    refine if_is (c := false) (by rw [decide_eq_true (show i < us.length by omega)]; rfl) (fun z => nomatch z) fun _ => ?_
    refine ⟨_, rfl, _, rfl, _, rfl, p1, _, _, _, rfl, rfl, sqT (s03 _ _ h1), at_nat hw, y, w, p, t, rfl, MonoS.mono s03 hy, MonoS.mono s03 hwt, ?_, fun H4 s4 => ⟨_, rfl, ?_⟩⟩
    · rw [hn2 p (List.of_mem_zip hm).2, hn1 t (List.mem_of_getElem? ht)]
    · exact if_is (c := false) (by rw [hin]; rfl) (fun z => nomatch z) fun _ => ⟨s03.trans s4, _, _, rfl⟩
  · rintro σ H1 ⟨sm, _⟩
    exact q _ sm
theorem rd_l_are_sketches (vs : List V) (H : Hp) (Q : VK) (E : XK) (h : lAreSk vs H Q E) : t_l_are_sketches K { nx := fun _ H1 => Q .non H1, rt := Q } (start ["_law_sketches", "_law_sizes", "_law_sketch_here", "_law_mask_here", "_law_size"] vs) H := by
  obtain ⟨v1, v2, sk, sizes, rfl, ⟨p1, us, rfl, h1, hr1⟩, ⟨p2, ws, rfl, h2, hr2⟩, sz, hv, q⟩ := h
  obtain rfl := nat_a2 hr2
  refine ⟨_, rfl, .ref p1, _, true, rfl, .base (.tup h1), kit_tt, _, rfl, iteF ?_⟩
  refine ⟨_, rfl, p1, rfl, ⟨_, sqT h1⟩, ?_⟩
  refine for_over (over_tup hr1) (fun r σ H1 => Same H H1 ∧ ∃ (u2 u3 u4 : Option V), σ = [some (.ref p1), some (.ref p2), u2, u3, u4]) ⟨Same.refl H, _, _, _, rfl⟩ (fun r σ H1 p => sqT (p.1 _ _ h1)) ?_ ?_
  · rintro s r x σ _ H1 hm ⟨sm, u2, u3, u4, rfl⟩ ⟨rfl, ps, rfl, hps⟩
    have vs := hv s hm
    have ls := RwM.vSk_len vs
    have hp1 := sm _ _ hps
    refine ⟨_, rfl, .ref ps, _, true, rfl, .base (.tup hp1), kit_tt, _, rfl, iteF ?_⟩
    refine ⟨_, rfl, ps, _, rfl, .inr (sqT hp1), _, rfl, p2, _, rfl, .inl (sqL (sm _ _ h2)), _, _, rfl, rfl, _, rfl, if_is (c := false) (by simp [ls]) (fun z => nomatch z) fun _ => ?_⟩
    refine ⟨_, rfl, _, rfl, ps, p2, _, _, rfl, sqT hp1, sqL (sm _ _ h2), ?_⟩
    refine for_over (over_zipM (a2_nat (H := H) s) (a2_nat (H := H) sizes) ls) (fun r σ H1 => Same H H1 ∧ ∃ (u3 u4 : Option V), σ = [some (.ref p1), some (.ref p2), some (.ref ps), u3, u4]) ⟨sm, _, _, rfl⟩ (fun r σ H1 p => ⟨sqT (p.1 _ _ hps), sqL (p.1 _ _ h2)⟩) ?_ ?_
    · rintro ⟨m, n⟩ r x σ H1 H2 hm ⟨sm, u3, u4, rfl⟩ ⟨T', _, _, rfl, hT, rfl, rfl, rfl⟩
      have sT : Same H1 (upd H1 T' (.tup [nV m, nV n])) := same_new hT
      obtain ⟨g1, g2, g3⟩ := vSk_zip vs hm
      have n3 := (sz.2.2 n g3).2
      refine ⟨T', _, rfl, sqT upd_same, rfl, _, _, rfl, _, _, rfl, rfl, ?_⟩
      refine ⟨_, rfl, m, rfl, fun H3 s3 => ⟨_, rfl, iteF ?_⟩⟩
      refine ⟨_, rfl, m, 1, rfl, rfl, _, rfl, if_no (by omega) ?_⟩
      refine ⟨_, rfl, _, rfl, 1, n, rfl, rfl, ⟨by decide, by omega⟩, m, _, rfl, rfl, _, rfl, if_no (by rw [Nat.one_mul]; omega) ?_⟩
      exact ⟨(sm.trans sT).trans s3, _, _, rfl⟩
    · rintro σ H1 ⟨sm, u3, u4, rfl⟩
      exact ⟨sm, _, _, _, rfl⟩
  · rintro σ H1 ⟨sm, _⟩
    exact q _ sm
theorem sz_of {M : Mach} (ok : MachOk M) : SzOk M.sizes := ⟨ok.few.1, ok.few.2, ok.size⟩
theorem rd_l_is_closed (vs : List V) (H : Hp) (Q : VK) (E : XK) (h : lClosed vs H Q E) : t_l_is_closed K { nx := fun _ H1 => Q .non H1, rt := Q } (start ["_law_deeds", "_law_sizes", "_law_sketches", "_law_table", "_law_piece_here", "_law_k", "_law_deed_here", "_law_place", "_law_parts_here"] vs) H := by
  obtain ⟨v1, v2, v3, v4, v5, M, sk, table, piece, rfl, ⟨p1, ds, rfl, h1, hr1⟩, hsz, ⟨p3, us, rfl, h3, hr3⟩, ⟨p4, ts, rfl, h4, hr4⟩, hpc, ok, hv, hpv, hp2, hz, hcl, q⟩ := h
  have l3 := hr3.length
  have l4 := hr4.length
  have l1 := hr1.length
  have lc := hcl.length
  have fd := ok.fewD
  refine ⟨_, rfl, .ref p4, _, true, rfl, .base (.tup h4), kit_tt, _, rfl, iteF ?_⟩
  refine ⟨_, rfl, p4, _, rfl, .inr (sqT h4), _, rfl, p3, _, rfl, .inr (sqT h3), _, _, rfl, rfl, _, rfl, if_is (c := false) (by simp [l3, l4, lc]) (fun z => nomatch z) fun _ => ?_⟩
  refine ⟨_, rfl, p3, _, rfl, .inr (sqT h3), _, rfl, by omega, by omega, ?_⟩
  rw [l3, Int.toNat_natCast]
  refine for_over over_range (fun r σ H1 => Same H H1 ∧ ∃ (u5 u6 u7 u8 : Option V), σ = [some (.ref p1), some v2, some (.ref p3), some (.ref p4), some v5, u5, u6, u7, u8]) ⟨Same.refl H, _, _, _, _, rfl⟩ (fun _ _ _ _ => trivial) ?_ ?_
  · rintro k r x σ _ H1 hm ⟨sm, u5, u6, u7, u8, rfl⟩ ⟨rfl, rfl⟩
    have hk : k < sk.length := by simpa using hm
    have hs := List.getElem?_eq_getElem hk
    obtain ⟨row, hrow, hcr⟩ := A2.get_r hcl hs
    obtain ⟨tv, htv, pr, rs, rfl, hpr, hrr⟩ := A2.get_r hr4 hrow
    obtain ⟨sv, hsv, hsn⟩ := A2.get_r hr3 hs
    have vs := hv _ (List.mem_of_getElem? hs)
    have lr := hrr.length
    have lcr := hcr.length
    have hpr1 := sm _ _ hpr
    refine ⟨_, rfl, _, rfl, p4, _, _, _, rfl, rfl, sqT (sm _ _ h4), at_nat htv, .ref pr, _, true, rfl, .base (.tup hpr1), kit_tt, _, rfl, iteF ?_⟩
    refine ⟨_, rfl, _, rfl, p4, _, _, _, rfl, rfl, sqT (sm _ _ h4), at_nat htv, pr, _, rfl, .inr (sqT hpr1), _, rfl, p1, _, rfl, .inl (sqL (sm _ _ h1)), _, _, rfl, rfl, _, rfl, if_is (c := false) (by simp [lr, lcr, l1]) (fun z => nomatch z) fun _ => ?_⟩
    refine ⟨_, rfl, p1, _, rfl, .inl (sqL (sm _ _ h1)), _, rfl, by omega, by omega, ?_⟩
    rw [l1, Int.toNat_natCast]
    refine for_over over_range (fun r σ H1 => Same H H1 ∧ ∃ (u6 u7 u8 : Option V), σ = [some (.ref p1), some v2, some (.ref p3), some (.ref p4), some v5, some (nV k), u6, u7, u8]) ⟨sm, _, _, _, rfl⟩ (fun _ _ _ _ => trivial) ?_ ?_
    · rintro d r x σ _ H1 hm ⟨sm, u6, u7, u8, rfl⟩ ⟨rfl, rfl⟩
      have hd : d < M.deeds.length := by simpa using hm
      have hdd := List.getElem?_eq_getElem hd
      obtain ⟨en, hen, hce⟩ := A2.get_r hcr hdd
      obtain ⟨ev, hev, hevn⟩ := A2.get_r hrr hen
      have hdm := List.mem_of_getElem? hdd
      have dok := ok.deed _ hdm
      refine ⟨_, rfl, _, rfl, _, rfl, _, rfl, p3, _, _, _, rfl, rfl, sqT (sm _ _ h3), at_nat hsv, _, rfl, .ref p1, v2, sv, M.deeds, M.sizes, sk[k], d, M.deeds[d], rfl, ⟨p1, ds, rfl, sm _ _ h1, a2_monoS sm hr1⟩, MonoS.mono sm hsz, MonoS.mono sm hsn, sz_of ok, vs, hdd, dok, fun H2 w s2 hw => ?_⟩
      have fin : ∀ (G : Hp) (wp : V), Same H G → LstOf IsN G wp (RwM.parts M.sizes sk[k] M.deeds[d] piece) → (tIfS (tNot (tB (tCall (lCovers) [] E0 (tCons (tVar 2) (tCons (tOp (rIxT K) (tOp (rIxT K) (tVar 3) (tVar 5)) (tVar 6)) (tCons (tVar 8) tNil)))))) (tRet (tC (.bl false))) tNext)
          { nx := fun σ H1 => Same H H1 ∧ ∃ (u6 u7 u8 : Option V), σ = [some (.ref p1), some v2, some (.ref p3), some (.ref p4), some v5, some (nV k), u6, u7, u8], rt := Q, bk := fun σ H1 => Same H H1 ∧ ∃ (u5 u6 u7 u8 : Option V), σ = [some (.ref p1), some v2, some (.ref p3), some (.ref p4), some v5, u5, u6, u7, u8], ct := fun σ H1 => Same H H1 ∧ ∃ (u6 u7 u8 : Option V), σ = [some (.ref p1), some v2, some (.ref p3), some (.ref p4), some v5, some (nV k), u6, u7, u8] }
          [some (.ref p1), some v2, some (.ref p3), some (.ref p4), some v5, some (nV k), some (nV d), some w, some wp] G := by
        intro G wp sG hwp
        have vp := RwM.parts_v ok hdm (fun x hx => RwM.vSk_len (hpv x hx)) vs
        refine ⟨_, rfl, _, rfl, _, rfl, p4, _, _, _, rfl, rfl, sqT (sG _ _ h4), at_nat htv, _, rfl, pr, _, _, _, rfl, rfl, sqT (sG _ _ hpr), at_nat hev, _, rfl, .ref p3, ev, wp, sk, en, _, M.sizes.length, rfl, ⟨p3, us, rfl, sG _ _ h3, a2_monoS sG hr3⟩, MonoS.mono sG hevn, hwp, hce, fun s hs => RwM.vSk_len (hv s hs), fun s hs => RwM.vSk_len (vp s hs), fun H3 s3 => ⟨_, rfl, ?_⟩⟩
        exact iteF ⟨sG.trans s3, _, _, _, rfl⟩
      have s02 := sm.trans s2
      cases eb : RwM.before M.sizes sk[k] M.deeds[d] with
      | none =>
        rw [eb] at hw
        obtain rfl : w = .non := hw
        refine ⟨_, rfl, _, rfl, if_is (c := true) rfl (fun _ => ?_) fun z => nomatch z⟩
        refine ⟨Nat.zero_le _, fun p hp => fin _ _ (s02.trans (same_new hp)) ⟨p, [], rfl, upd_same, ?_⟩⟩
        unfold RwM.parts
        rw [eb]
        exact .nil
      | some b =>
        rw [eb] at hw
        have hw : IsN H2 w b := hw
        obtain ⟨pb, rfl, hpb⟩ := hw
        have vb := RwM.vSk_before dok (fun n hn => (ok.size n hn).1) vs eb
        have lb := RwM.vSk_len vb
        have f4 := ok.few.2
        refine ⟨_, rfl, _, rfl, if_is (c := false) rfl (fun z => nomatch z) fun _ => ?_⟩
        refine ⟨_, rfl, _, rfl, .ref pb, v5, b, piece, rfl, ⟨pb, rfl, hpb⟩, MonoS.mono s02 hpc, fun x hx => by rw [RwM.vSk_len (hpv x hx), lb], by omega, hp2, fun H3 w3 s3 hn3 => fin _ _ (s02.trans s3) ?_⟩
        have := hn3.lst
        unfold RwM.parts
        rw [eb]
        exact this
    · rintro σ H1 ⟨sm, u6, u7, u8, rfl⟩
      exact ⟨sm, _, _, _, _, rfl⟩
  · rintro σ H1 ⟨sm, _⟩
    exact q _ sm
theorem rd_l_is_history (vs : List V) (H : Hp) (Q : VK) (E : XK) (h : lHistory vs H Q E) : t_l_is_history K { nx := fun _ H1 => Q .non H1, rt := Q } (start ["_law_deeds", "_law_first", "_law_image", "_law_piece_here", "_law_disk", "_law_numbers", "_law_number"] vs) H := by
  obtain ⟨v1, v2, v3, v4, v5, v6, M, image, d, ks, e, rfl, ⟨p1, ds, rfl, h1, hr1⟩, hf, hi, hpc, ⟨p5, rfl, h5⟩, ⟨p6, rfl, h6⟩, ok, li, vd, hin, hruns, hend, q⟩ := h
  have l1 := hr1.length
  have fd := ok.fewD
  have lf := RwM.vSk_len ok.first
  have ldk := RwM.vDk_len vd
  refine ⟨_, rfl, .ref p5, _, true, rfl, .base (.tup h5), kit_tt, _, rfl, iteF ?_⟩
  refine ⟨_, rfl, .ref p6, _, true, rfl, .base (.tup h6), kit_tt, _, rfl, iteF ?_⟩
  refine ⟨_, rfl, _, rfl, v2, .ref p5, M.first, d, rfl, hf, ⟨p5, rfl, h5⟩, by rw [lf, ldk], fun H1 s1 => ⟨_, rfl, ?_⟩⟩
  rw [hin]
  refine iteF ?_
  refine ⟨_, rfl, _, rfl, v4, .ref p5, [], d, rfl, MonoS.mono s1 hpc, ⟨p5, rfl, s1 _ _ h5⟩, (fun _ h => nomatch h), fun H2 s2 => ⟨_, rfl, ?_⟩⟩
  refine iteF ?_
  have s02 := s1.trans s2
  refine ⟨_, rfl, p6, rfl, ⟨_, sqT (s02 _ _ h6)⟩, ?_⟩
  refine for_over (over_tup (a2_nat (H := H) ks)) (fun r σ H1 => Same H H1 ∧ ∃ (dv : V) (d' : Dk) (u6 : Option V), σ = [some (.ref p1), some v2, some v3, some v4, some dv, some (.ref p6), u6] ∧ IsN H1 dv d' ∧ vDk M.sizes d' ∧ RwM.Runs M [] d' r e) ⟨s02, .ref p5, d, _, rfl, ⟨p5, rfl, s02 _ _ h5⟩, vd, hruns⟩ (fun r σ H1 p => sqT (p.1 _ _ h6)) ?_ ?_
  · rintro k r x σ _ H1 hm ⟨sm, dv, d', u6, rfl, hd, vd', hr⟩ ⟨rfl, rfl⟩
    cases hr with
    | @cons _ _ _ _ deed _ hk hc hr =>
      have hkl := (List.getElem?_eq_some_iff.mp hk).1
      have dok := ok.deed deed (List.mem_of_getElem? hk)
      have ld' := RwM.vDk_len vd'
      refine ⟨_, rfl, k, rfl, fun H3 s3 => ⟨_, rfl, iteF ?_⟩⟩
      have s03 := sm.trans s3
      refine ⟨_, rfl, 0, k, rfl, rfl, _, rfl, iteT ⟨_, rfl, p1, _, rfl, .inl (sqL (s03 _ _ h1)), k, _, rfl, rfl, _, rfl, ?_⟩⟩
      refine if_is (c := false) (by rw [decide_eq_true (show k < ds.length by omega)]; rfl) (fun z => nomatch z) fun _ => ?_
      have hd3 := MonoS.mono s3 hd
      refine ⟨_, rfl, _, rfl, _, rfl, .ref p1, dv, M.deeds, d', k, deed, rfl, ⟨p1, ds, rfl, s03 _ _ h1, a2_monoS s03 hr1⟩, hd3, hk, fun p hp => by rw [ld']; exact (dok.guard p hp).1, fun H4 s4 => ⟨_, rfl, ?_⟩⟩
      rw [hc]
      refine iteF ?_
      have s04 := s03.trans s4
      refine ⟨_, rfl, _, rfl, _, rfl, .ref p1, dv, M.deeds, d', k, deed, M.sizes, rfl, ⟨p1, ds, rfl, s04 _ _ h1, a2_monoS s04 hr1⟩, MonoS.mono s4 hd3, hk, dok, ld'.symm, fun H5 w5 s5 hw5 => ?_⟩
      have s05 := s04.trans s5
      refine ⟨_, rfl, _, rfl, v4, w5, [], RwM.after deed d', rfl, MonoS.mono s05 hpc, hw5, (fun _ h => nomatch h), fun H6 s6 => ⟨_, rfl, ?_⟩⟩
      exact iteF ⟨s05.trans s6, w5, RwM.after deed d', _, rfl, MonoS.mono s6 hw5, RwM.vDk_after dok vd', hr⟩
  · rintro σ H1 ⟨sm, dv, d', u6, rfl, hd, vd', hr⟩
    cases hr with
    | nil _ =>
      refine ⟨_, rfl, _, rfl, v3, dv, image, _, rfl, MonoS.mono sm hi, hd, by rw [li, RwM.vDk_len vd'], fun H2 s2 => ?_⟩
      rw [hend]
      exact q _ (sm.trans s2)
end RwW
/-! readings, part 18: the law asks the paper of an order -/
namespace RwW
open PySem L2 RwR
open RwM (A2 Sk Dk Src Deed Mach SS vSk vDk MachOk DeedOk SInv OrgOk Ext)
variable {K : PySem.W.Frag} {c : Cs}

theorem rd_l_is_order (T : KF K c) (vs : List V) (H : Hp) (Q : VK) (E : XK) (h : lOrder c vs H Q E) : t_l_is_order K { nx := fun _ H1 => Q .non H1, rt := Q } (start ["_law_deeds", "_law_sizes", "_law_first", "_law_image", "_law_early", "_law_late_here", "_law_paper", "_law_sketch_here", "_law_k"] vs) H := by
  obtain ⟨v1, v2, v3, v4, v5, v6, a, M, image, early, late, reach, cover, table, sk, links, steps, rfl, hD, hS, hF, hI, hE, hL, ok, vI, vE, vL, zE, zL, hOP, vR, vS, cCov, cTab, cNo, cLink, cStep, zR, zS, q⟩ := h
  obtain ⟨dx, w1, w2, w3, w4, w5, w6, ha, t1, t2, t3, t4, t5, t6⟩ := hOP.ex
  have f4 := ok.few.2
  have lI := RwM.vSk_len vI
  refine ⟨_, rfl, a, _, _, _, _, rfl, ha, T.clOP, T.op_reach, rfl, _, rfl, w1, v2, reach, M.sizes, rfl, t1, hS, sz_of ok, vR, fun H1 s1 => ⟨_, rfl, iteF ?_⟩⟩
  refine ⟨_, rfl, a, _, _, _, _, rfl, s1 _ _ ha, T.clOP, T.op_sketches, rfl, _, rfl, w4, v2, sk, M.sizes, rfl, MonoS.mono s1 t4, MonoS.mono s1 hS, sz_of ok, vS, fun H2 s2 => ⟨_, rfl, iteF ?_⟩⟩
  have s02 := s1.trans s2
  obtain ⟨p4, us4, rfl, h4, hr4⟩ := t4
  refine ⟨_, rfl, a, _, _, _, _, rfl, s02 _ _ ha, T.clOP, T.op_sketches, rfl, p4, rfl, ⟨_, sqT (s02 _ _ h4)⟩, ?_⟩
  refine for_over (over_tup hr4) (fun r σ H1 => Same H H1 ∧ ∃ (u7 u8 : Option V), σ = [some v1, some v2, some v3, some v4, some v5, some v6, some (.ref a), u7, u8]) ⟨s02, _, _, rfl⟩ (fun r σ H1 p => sqT (p.1 _ _ h4)) ?_ ?_
  · rintro s r x σ _ H3 hm ⟨sm, u7, u8, rfl⟩ ⟨rfl, hx⟩
    have ls := RwM.vSk_len (vS s hm)
    refine ⟨_, rfl, _, rfl, x, v3, s, M.first, rfl, MonoS.mono sm hx, MonoS.mono sm hF, by rw [ls, RwM.vSk_len ok.first], by omega, fun H4 w s4 hw => ?_⟩
    rw [cNo s hm] at hw
    obtain rfl : w = .non := hw
    exact ⟨_, rfl, iteF ⟨sm.trans s4, _, _, rfl⟩⟩
  rintro σ H3 ⟨s3, u7, u8, rfl⟩
  refine ⟨_, rfl, a, _, _, _, _, rfl, s3 _ _ ha, T.clOP, T.op_reach, rfl, _, rfl, a, _, _, _, _, rfl, s3 _ _ ha, T.clOP, T.op_cover, rfl, _, rfl, by show 1 ≤ sizeLine; decide, fun pl hpl => ?_⟩
  have sl := s3.trans (same_new (o := .lst [v4]) hpl)
  refine ⟨w1, w2, .ref pl, reach, cover, [image], M.sizes.length, rfl, MonoS.mono sl t1, MonoS.mono sl t2, ⟨pl, _, rfl, upd_same, .cons (MonoS.mono sl hI) .nil⟩, cCov, fun s hs => RwM.vSk_len (vR s hs), fun s hs => by rw [List.mem_singleton] at hs; rw [hs, lI], fun H4 s4 => ⟨_, rfl, iteF ?_⟩⟩
  have s04 := sl.trans s4
  refine ⟨_, rfl, _, rfl, _, rfl, a, _, _, _, _, rfl, s04 _ _ ha, T.clOP, T.op_reach, rfl, _, rfl, a, _, _, _, _, rfl, s04 _ _ ha, T.clOP, T.op_table, rfl, Nat.zero_le _, fun pe hpe => ?_⟩
  have sl5 := s04.trans (same_new (o := .lst []) hpe)
  refine ⟨v1, v2, w1, w3, .ref pe, M, reach, table, [], rfl, MonoS.mono sl5 hD, MonoS.mono sl5 hS, MonoS.mono sl5 t1, MonoS.mono sl5 t3, ⟨pe, [], rfl, upd_same, .nil⟩, ok, vR, (fun _ h => nomatch h), Nat.zero_le _, by omega, cTab, fun H5 s5 => ⟨_, rfl, iteF ?_⟩⟩
  have s05 := sl5.trans s5
  obtain ⟨p5, us5, rfl, h5, hr5⟩ := t5
  obtain ⟨p1, us1, rfl, h1, hr1⟩ := t1
  have l5 := hr5.length
  have l1 := hr1.length
  have ll := cLink.length
  refine ⟨_, rfl, a, _, _, _, _, rfl, s05 _ _ ha, T.clOP, T.op_links, rfl, .ref p5, _, true, rfl, .base (.tup (s05 _ _ h5)), kit_tt, _, rfl, iteF ?_⟩
  refine ⟨_, rfl, a, _, _, _, _, rfl, s05 _ _ ha, T.clOP, T.op_links, rfl, p5, _, rfl, .inr (sqT (s05 _ _ h5)), _, rfl, a, _, _, _, _, rfl, s05 _ _ ha, T.clOP, T.op_reach, rfl, p1, _, rfl, .inr (sqT (s05 _ _ h1)), _, _, rfl, rfl, _, rfl, if_is (c := false) (by simp [l5, l1, ll]) (fun z => nomatch z) fun _ => ?_⟩
  refine ⟨_, rfl, a, _, _, _, _, rfl, s05 _ _ ha, T.clOP, T.op_reach, rfl, p1, _, rfl, .inr (sqT (s05 _ _ h1)), _, rfl, by omega, by omega, ?_⟩
  rw [l1, Int.toNat_natCast]
  refine for_over over_range (fun r σ H1 => Same H H1 ∧ ∃ (u7 u8 : Option V), σ = [some v1, some v2, some v3, some v4, some v5, some v6, some (.ref a), u7, u8]) ⟨s05, _, _, rfl⟩ (fun _ _ _ _ => trivial) ?_ ?_
  · rintro k r x σ _ H6 hm ⟨sm, u7, u8, rfl⟩ ⟨rfl, rfl⟩
    have hk : k < reach.length := by simpa using hm
    have hs := List.getElem?_eq_getElem hk
    obtain ⟨en, hen, hce⟩ := A2.get_r cLink hs
    obtain ⟨ev, hev, hevn⟩ := A2.get_r hr5 hen
    obtain ⟨rv, hrv, hrn⟩ := A2.get_r hr1 hs
    have vs := vR _ (List.mem_of_getElem? hs)
    have ls := RwM.vSk_len vs
    refine ⟨_, rfl, a, _, _, _, _, rfl, sm _ _ ha, T.clOP, T.op_sketches, rfl, _, rfl, a, _, _, _, _, rfl, sm _ _ ha, T.clOP, T.op_links, rfl, _, rfl, p5, _, _, _, rfl, rfl, sqT (sm _ _ h5), at_nat hev, ?_⟩
    refine ⟨_, rfl, a, _, _, _, _, rfl, sm _ _ ha, T.clOP, T.op_reach, rfl, _, rfl, p1, _, _, _, rfl, rfl, sqT (sm _ _ h1), at_nat hrv, _, rfl, _, rfl, ?_⟩
    refine ⟨rv, v5, v6, reach[k], early, late, rfl, MonoS.mono sm hrn, MonoS.mono sm hE, MonoS.mono sm hL, fun x hx => by rw [RwM.vSk_len (vE x hx), ls], fun x hx => by rw [RwM.vSk_len (vL x hx), ls], by omega, zE, zL, fun H7 w7 s7 hn7 => ?_⟩
    have s07 := sm.trans s7
    have vp := RwM.vSk_late (early := early) (late := late) vs (fun x hx => RwM.vSk_len (vE x hx)) fun x hx => RwM.vSk_len (vL x hx)
    refine ⟨.ref p4, ev, w7, sk, en, _, M.sizes.length, rfl, ⟨p4, us4, rfl, s07 _ _ h4, a2_monoS s07 hr4⟩, MonoS.mono s07 hevn, hn7.lst, hce, fun s hs => RwM.vSk_len (vS s hs), fun s hs => RwM.vSk_len (vp s hs), fun H8 s8 => ⟨_, rfl, iteF ⟨s07.trans s8, _, _, rfl⟩⟩⟩
  rintro σ H6 ⟨s6, u7, u8, rfl⟩
  refine ⟨_, rfl, _, rfl, _, rfl, a, _, _, _, _, rfl, s6 _ _ ha, T.clOP, T.op_sketches, rfl, _, rfl, a, _, _, _, _, rfl, s6 _ _ ha, T.clOP, T.op_steps, rfl, _, rfl, ?_⟩
  exact ⟨v1, v2, .ref p4, w6, v5, M, sk, steps, early, rfl, MonoS.mono s6 hD, MonoS.mono s6 hS, ⟨p4, us4, rfl, s6 _ _ h4, a2_monoS s6 hr4⟩, MonoS.mono s6 t6, MonoS.mono s6 hE, ok, vS, vE, zE, by omega, cStep, fun H7 s7 => q _ (s6.trans s7)⟩
end RwW
/-! readings, part 19: the law draws sketches and pieces -/
namespace RwW
open PySem L2 RwR
open RwM (A2 Sk Dk Src Deed Mach SS vSk vDk MachOk DeedOk SInv OrgOk Ext)
variable {K : PySem.W.Frag} {c : Cs}

theorem range_step {n k : Nat} (h : k < n) : (List.range n).drop k = k :: (List.range n).drop (k + 1) := by
  rw [List.drop_eq_getElem_cons (by simpa using h)]
  simp
theorem range_in {n k i : Nat} {r : List Nat} (h : i :: r = (List.range n).drop k) : k < n ∧ i = k ∧ r = (List.range n).drop (k + 1) := by
  have hk : k < n := by
    refine Nat.lt_of_not_le fun z => ?_
    rw [List.drop_eq_nil_of_le (by simpa using z)] at h
    cases h
  rw [range_step hk] at h
  injection h with e1 e2
  exact ⟨hk, e1, e2⟩
theorem range_out {n k : Nat} (h : [] = (List.range n).drop k) : n ≤ k := by
  refine Nat.le_of_not_lt fun z => ?_
  rw [range_step z] at h
  cases h
theorem take_snoc {R : Nat → Nat → Prop} {sizes done : List Nat} {k m n : Nat} (h : A2 R (sizes.take k) done) (hk : sizes[k]? = some n) (r : R n m) : A2 R (sizes.take (k + 1)) (done ++ [m]) := by
  rw [List.take_add_one, hk]
  exact A2.snoc h r
theorem mask_ok (n s : Nat) (h : 1 ≤ s) : 1 ≤ maskOf n s ∧ maskOf n s < 2 ^ s := by
  have hp : 2 ^ 1 ≤ 2 ^ s := Nat.pow_le_pow_right (by omega) h
  have := Nat.mod_lt n (show 0 < 2 ^ s - 1 by omega)
  unfold maskOf
  omega
theorem pow_mod_ok (x s : Nat) (h : 1 ≤ s) : 1 ≤ 1 * 2 ^ (x % s) ∧ 1 * 2 ^ (x % s) < 2 ^ s := by
  have h1 := Nat.mod_lt x (show 0 < s by omega)
  have h2 : 2 ^ (x % s) < 2 ^ s := Nat.pow_lt_pow_right (by omega) h1
  have h3 : 1 ≤ 2 ^ (x % s) := Nat.one_le_two_pow
  omega
def InvS (H : Hp) (z : Int) (p l : Addr) (sizes : List Nat) (r : List Nat) (σ : St) (H1 : Hp) : Prop := Same H H1 ∧ ∃ (k : Nat) (done : List Nat) (u3 u4 u5 : Option V), r = (List.range sizes.length).drop k ∧ k ≤ sizes.length ∧ σ = [some (.int z), some (.ref p), some (.ref l), u3, u4, u5] ∧
  H1 l = some (.lst (done.map nV)) ∧ A2 (fun n m => 1 ≤ m ∧ m < 2 ^ n) (sizes.take k) done
theorem rd_l_sketch (vs : List V) (H : Hp) (Q : VK) (E : XK) (h : lSketch vs H Q E) : t_l_sketch K { nx := fun _ H1 => Q .non H1, rt := Q } (start ["_law_cell_here", "_law_sizes", "_law_masks", "_law_k", "_law_number", "_law_mask_here"] vs) H := by
  obtain ⟨z, v, sizes, rfl, ⟨p, us, rfl, hp, hr⟩, sz, q⟩ := h
  obtain rfl := nat_a2 hr
  have hz := sz.2.1
  refine ⟨Nat.zero_le _, fun l hl0 => ?_⟩
  have s0 : Same H (upd H l (.lst [])) := same_new hl0
  refine ⟨_, rfl, p, _, rfl, .inl (sqL (s0 _ _ hp)), _, rfl, by rw [List.length_map]; omega, by rw [List.length_map]; omega, ?_⟩
  rw [List.length_map, Int.toNat_natCast]
  refine for_over over_range (InvS H z p l sizes) ⟨s0, 0, [], _, _, _, rfl, Nat.zero_le _, rfl, upd_same, .nil⟩ (fun _ _ _ _ => trivial) ?_ ?_
  · rintro i r x σ _ H1 hm ⟨sm, k, done, u3, u4, u5, hrr, hk, rfl, hl, hA⟩ ⟨rfl, rfl⟩
    obtain ⟨hk1, rfl, e2⟩ := range_in hrr
    have hn := getD_at hk1
    have n13 := sz.2.2 _ (List.mem_of_getElem? hn)
    have la := hA.length
    rw [List.length_take] at la
    refine ⟨_, rfl, _, rfl, 3, i, rfl, rfl, .inl (by decide), z, 3 * i, rfl, fun H2 s2 => ?_⟩
    refine ⟨_, rfl, _, rfl, _, rfl, p, _, _, _, rfl, rfl, sqL (s2 _ _ (sm _ _ hp)), at_nat (map_at hn), _, _, rfl, n13.1, n13.2, fun H3 s3 => ?_⟩
    have s03 := (sm.trans s2).trans s3
    have hl3 := s3 _ _ (s2 _ _ hl)
    have hp3 := s03 _ _ hp
    have inv : ∀ (m : Nat) (u3 u4 u5 : Option V), 1 ≤ m ∧ m < 2 ^ sizes.getD i 0 → InvS H z p l sizes r [some (.int z), some (.ref p), some (.ref l), u3, u4, u5] (upd H3 l (.lst (done.map nV ++ [nV m]))) :=
      fun m u3 u4 u5 hm => ⟨same_mut s03 hl0, i + 1, done ++ [m], _, _, _, e2, hk1, rfl, upd_same.trans (by rw [List.map_append]; rfl), take_snoc hA hn hm⟩
    have hd : (done.map nV).length < sizeLine := sz_lt' (by rw [List.length_map]; omega)
    have h2p : 1 ≤ 2 ^ sizes.getD i 0 := Nat.one_le_two_pow
    have h2q : 2 ^ 1 ≤ 2 ^ sizes.getD i 0 := Nat.pow_le_pow_right (by omega) n13.1
    have hsh : (1 : Nat) < 2 ^ 64 ∧ sizes.getD i 0 ≤ 1000 := ⟨by decide, by omega⟩
    have hfull : 1 ≤ 1 * 2 ^ sizes.getD i 0 - 1 ∧ 1 * 2 ^ sizes.getD i 0 - 1 < 2 ^ sizes.getD i 0 := by
      rw [Nat.one_mul]
      omega
    have hsh2 : (1 : Nat) < 2 ^ 64 ∧ mix z (3 * i) % sizes.getD i 0 ≤ 1000 := ⟨by decide, by
      have := Nat.mod_lt (mix z (3 * i)) (show 0 < sizes.getD i 0 by omega)
      omega⟩
    refine ⟨_, rfl, _, 16, rfl, rfl, by decide, _, 3, rfl, rfl, by decide, _, 0, rfl, rfl, _, rfl, if_b (fun e => ?_) fun e => ?_⟩
    · refine ⟨_, rfl, _, rfl, p, _, _, _, rfl, rfl, sqL hp3, at_nat (map_at hn), 1, _, rfl, rfl, hsh, _, 1, rfl, rfl, by rw [Nat.one_mul]; exact h2p, ?_⟩
      refine ⟨_, rfl, z, 4, rfl, rfl, by decide, _, 1, rfl, rfl, _, rfl, if_b (fun e => ?_) fun e => ?_⟩
      · refine ⟨_, rfl, _, rfl, _, rfl, p, _, _, _, rfl, rfl, sqL hp3, at_nat (map_at hn), mix z (3 * i), _, rfl, rfl, by omega, 1, _, rfl, rfl, hsh2, ?_⟩
        exact ⟨_, rfl, .inl ⟨rfl, _, sqL hl3⟩, _, rfl, l, _, _, rfl, rfl, hl3, hd, inv _ _ _ _ (pow_mod_ok _ _ n13.1)⟩
      · exact ⟨_, rfl, .inl ⟨rfl, _, sqL hl3⟩, _, rfl, l, _, _, rfl, rfl, hl3, hd, inv _ _ _ _ hfull⟩
    · refine ⟨_, rfl, z, 4, rfl, rfl, by decide, _, 1, rfl, rfl, _, rfl, if_b (fun e => ?_) fun e => ?_⟩
      · refine ⟨_, rfl, _, rfl, _, rfl, p, _, _, _, rfl, rfl, sqL hp3, at_nat (map_at hn), mix z (3 * i), _, rfl, rfl, by omega, 1, _, rfl, rfl, hsh2, ?_⟩
        exact ⟨_, rfl, .inl ⟨rfl, _, sqL hl3⟩, _, rfl, l, _, _, rfl, rfl, hl3, hd, inv _ _ _ _ (pow_mod_ok _ _ n13.1)⟩
      · exact ⟨_, rfl, .inl ⟨rfl, _, sqL hl3⟩, _, rfl, l, _, _, rfl, rfl, hl3, hd, inv _ _ _ _ (mask_ok _ _ n13.1)⟩
  · rintro σ H1 ⟨sm, k, done, u3, u4, u5, hrr, hk, rfl, hl, hA⟩
    have hk2 := range_out hrr
    rw [List.take_of_length_le hk2] at hA
    exact ⟨_, rfl, l, _, rfl, .inl ⟨sqL hl, fun t ht => q _ _ done (sm.trans (same_new ht)) ⟨t, rfl, upd_same⟩ hA⟩⟩
theorem rd_l_piece (vs : List V) (H : Hp) (Q : VK) (E : XK) (h : lPiece vs H Q E) : t_l_piece K { nx := fun _ H1 => Q .non H1, rt := Q } (start ["_law_cell_here", "_law_sizes", "_law_k"] vs) H := by
  obtain ⟨z, v, sizes, rfl, hsz, sz, q⟩ := h
  refine ⟨by show 4 ≤ sizeLine; decide, fun pt hpt => ?_⟩
  have s0 : Same H (upd H pt (.tup [nV 0, nV 1, nV 1, nV 2])) := same_new hpt
  have hj : (z % ((4 : Nat) : Int)).toNat < [0, 1, 1, 2].length := by
    have h1 := Int.emod_nonneg z (show ((4 : Nat) : Int) ≠ 0 by decide)
    have h2 := Int.emod_lt_of_pos z (show (0 : Int) < ((4 : Nat) : Int) by decide)
    show _ < 4
    omega
  have hg := getD_at hj
  have h2 : [0, 1, 1, 2].getD (z % ((4 : Nat) : Int)).toNat 0 ≤ 2 := by
    have := List.mem_of_getElem? hg
    generalize [0, 1, 1, 2].getD (z % ((4 : Nat) : Int)).toNat 0 = y at this
    simp at this
    omega
  generalize [0, 1, 1, 2].getD (z % ((4 : Nat) : Int)).toNat 0 = n at hg h2
  refine ⟨_, rfl, z, 4, rfl, rfl, by decide, pt, [0, 1, 1, 2].map nV, _, nV n, rfl, rfl, sqT upd_same, at_nat (map_at hg), _, rfl, by omega, by omega, fun D hD => ?_⟩
  rw [Int.toNat_natCast]
  have hDH := none_back s0 hD
  refine lc_over over_range (fun r H2 => Same H H2 ∧ ∃ (ys : List V) (done : List Sk), H2 D = some (.lst ys) ∧ A2 (IsN H2) ys done ∧ (∀ x ∈ done, vSk sizes x) ∧ done.length + r.length ≤ n) ⟨s0.trans (same_new hD), [], [], upd_same, .nil, (fun _ h => nomatch h), by simp⟩ (fun _ _ _ => trivial) ?_ ?_
  · rintro k r x _ H2 hm ⟨s2, ys, done, hd, hA, hv, hlen⟩ ⟨rfl, rfl⟩
    rw [List.length_cons] at hlen
    refine ⟨rfl, yes_ ?_⟩
    refine ⟨_, rfl, z, 3, rfl, rfl, ⟨by decide, by decide⟩, _, rfl, 1000, k, rfl, rfl, .inl (by decide), _, _, rfl, rfl, _, rfl, ?_⟩
    refine ⟨_, v, sizes, rfl, MonoS.mono s2 hsz, sz, fun H3 u s s3 hu hs => ?_⟩
    have hd3 := s3 _ _ hd
    have t3 : Ts H3 (upd H3 D (.lst (ys ++ [u]))) := ts_lst hd3
    have la := hA.length
    exact ⟨ys, hd3, sz_lt' (by omega), same_mut (s2.trans s3) hDH, _, done ++ [s], upd_same, A2.snoc (a2_mono ((ts_of s3).trans t3) hA) (MonoT.mono t3 hu), fun x hx => by
      rcases List.mem_append.mp hx with hx | hx
      · exact hv x hx
      · rw [List.mem_singleton] at hx
        rw [hx]
        exact hs, by rw [List.length_append, List.length_singleton]; omega⟩
  · rintro H2 ⟨s2, ys, done, hd, hA, hv, hlen⟩
    simp at hlen
    exact q _ _ done s2 ⟨D, ys, rfl, hDH, hd, hA⟩ hv (by omega)
end RwW
/-! readings, part 20: the law draws deeds -/
namespace RwW
open PySem L2 RwR
open RwM (A2 Sk Dk Src Deed Mach SS vSk vDk MachOk DeedOk SInv OrgOk Ext srcOk)
variable {K : PySem.W.Frag} {c : Cs}

def GOk (sizes : List Nat) (k : Nat) (gs : List (Nat × Nat)) : Prop := (∀ p ∈ gs, p.1 < k ∧ p.1 < sizes.length ∧ 1 ≤ p.2 ∧ p.2 < 2 ^ sizes.getD p.1 0) ∧ gs.Pairwise fun p q => p.1 < q.1
def COk (sizes : List Nat) (k : Nat) (cs : List (Nat × Src)) : Prop := (∀ p ∈ cs, p.1 < k ∧ p.1 < sizes.length ∧ srcOk sizes p.1 p.2) ∧ cs.Pairwise fun p q => p.1 < q.1
theorem GOk.up {sizes : List Nat} {k : Nat} {gs : List (Nat × Nat)} (h : GOk sizes k gs) : GOk sizes (k + 1) gs := ⟨fun p hp => ⟨Nat.lt_succ_of_lt (h.1 p hp).1, (h.1 p hp).2⟩, h.2⟩
theorem COk.up {sizes : List Nat} {k : Nat} {cs : List (Nat × Src)} (h : COk sizes k cs) : COk sizes (k + 1) cs := ⟨fun p hp => ⟨Nat.lt_succ_of_lt (h.1 p hp).1, (h.1 p hp).2⟩, h.2⟩
theorem pw_snoc {α : Type} {f : α → Nat} {k : Nat} {l : List α} {a : α} (h : l.Pairwise fun p q => f p < f q) (hk : ∀ p ∈ l, f p < k) (ha : f a = k) : (l ++ [a]).Pairwise fun p q => f p < f q := by
  rw [List.pairwise_append]
  refine ⟨h, by simp, fun p hp q hq => ?_⟩
  rw [List.mem_singleton] at hq
  rw [hq, ha]
  exact hk p hp
theorem GOk.snoc {sizes : List Nat} {k m : Nat} {gs : List (Nat × Nat)} (h : GOk sizes k gs) (hk : k < sizes.length) (h1 : 1 ≤ m ∧ m < 2 ^ sizes.getD k 0) : GOk sizes (k + 1) (gs ++ [(k, m)]) :=
  ⟨fun p hp => by
    rcases List.mem_append.mp hp with hp | hp
    · exact h.up.1 p hp
    · rw [List.mem_singleton] at hp
      rw [hp]
      exact ⟨Nat.lt_succ_self k, hk, h1⟩, pw_snoc (f := fun p : Nat × Nat => p.1) h.2 (fun p hp => (h.1 p hp).1) rfl⟩
theorem COk.snoc {sizes : List Nat} {k : Nat} {s : Src} {cs : List (Nat × Src)} (h : COk sizes k cs) (hk : k < sizes.length) (h1 : srcOk sizes k s) : COk sizes (k + 1) (cs ++ [(k, s)]) :=
  ⟨fun p hp => by
    rcases List.mem_append.mp hp with hp | hp
    · exact h.up.1 p hp
    · rw [List.mem_singleton] at hp
      rw [hp]
      exact ⟨Nat.lt_succ_self k, hk, h1⟩, pw_snoc (f := fun p : Nat × Src => p.1) h.2 (fun p hp => (h.1 p hp).1) rfl⟩
/-- what the two lists hold -/
structure DH (H : Hp) (lg lc : Addr) (sizes : List Nat) (kg kc : Nat) (yg yc : List V) (gs : List (Nat × Nat)) (cs : List (Nat × Src)) (H1 : Hp) : Prop where
  same : Same H H1
  lg : H1 lg = some (.lst yg)
  ag : A2 (IsPair H1) yg gs
  lc : H1 lc = some (.lst yc)
  ac : A2 (IsChg H1) yc cs
  gok : GOk sizes kg gs
  cok : COk sizes kc cs
  ng : gs.length ≤ kg
  nc : cs.length ≤ kc
theorem DH.move {H : Hp} {lg lc : Addr} {sizes : List Nat} {kg kc : Nat} {yg yc : List V} {gs : List (Nat × Nat)} {cs : List (Nat × Src)} {H1 H2 : Hp} (h : DH H lg lc sizes kg kc yg yc gs cs H1) (s : Same H1 H2) : DH H lg lc sizes kg kc yg yc gs cs H2 :=
  ⟨h.same.trans s, s _ _ h.lg, a2_monoS s h.ag, s _ _ h.lc, a2_monoS s h.ac, h.gok, h.cok, h.ng, h.nc⟩
theorem DH.guard {H : Hp} {lg lc : Addr} {sizes : List Nat} {k kc m : Nat} {yg yc : List V} {gs : List (Nat × Nat)} {cs : List (Nat × Src)} {H1 : Hp} {pt : Addr} (h : DH H lg lc sizes k kc yg yc gs cs H1) (h0 : H lg = none) (ne : lg ≠ lc) (hk : k < sizes.length) (hm : 1 ≤ m ∧ m < 2 ^ sizes.getD k 0)
    (hp : H1 pt = some (.tup [nV k, nV m])) : DH H lg lc sizes (k + 1) kc (yg ++ [.ref pt]) yc (gs ++ [(k, m)]) cs (upd H1 lg (.lst (yg ++ [.ref pt]))) := by
  have t : Ts H1 (upd H1 lg (.lst (yg ++ [.ref pt]))) := ts_lst h.lg
  exact ⟨same_mut h.same h0, upd_same, A2.snoc (a2_mono t h.ag) ⟨pt, rfl, t _ _ hp⟩, (upd_ne ne.symm).trans h.lc, a2_mono t h.ac, h.gok.snoc hk hm, h.cok, by rw [List.length_append, List.length_singleton]; exact Nat.succ_le_succ h.ng, h.nc⟩
theorem DH.change {H : Hp} {lg lc : Addr} {sizes : List Nat} {k kg : Nat} {s : Src} {yg yc : List V} {gs : List (Nat × Nat)} {cs : List (Nat × Src)} {H1 : Hp} {pt ps : Addr} (h : DH H lg lc sizes kg k yg yc gs cs H1) (h0 : H lc = none) (ne : lg ≠ lc) (hk : k < sizes.length) (hs : srcOk sizes k s)
    (hp : H1 pt = some (.tup [nV k, .ref ps])) (hps : H1 ps = some (.tup (srcV s))) : DH H lg lc sizes kg (k + 1) yg (yc ++ [.ref pt]) gs (cs ++ [(k, s)]) (upd H1 lc (.lst (yc ++ [.ref pt]))) := by
  have t : Ts H1 (upd H1 lc (.lst (yc ++ [.ref pt]))) := ts_lst h.lc
  exact ⟨same_mut h.same h0, (upd_ne ne).trans h.lg, a2_mono t h.ag, upd_same, A2.snoc (a2_mono t h.ac) ⟨pt, .ref ps, rfl, t _ _ hp, ps, rfl, t _ _ hps⟩, h.gok, h.cok.snoc hk hs, h.ng, by rw [List.length_append, List.length_singleton]; exact Nat.succ_le_succ h.nc⟩
theorem str_few : ∀ k : Fin 101, ((k.1 : Int).natAbs.log2 < 1920) ∧ ("m" : Str).length + (((toString (k.1 : Int) : String)) : Str).length ≤ 100000 := by decide +kernel
theorem rd_l_deed (vs : List V) (H : Hp) (Q : VK) (E : XK) (h : lDeed vs H Q E) : t_l_deed K { nx := fun _ H1 => Q .non H1, rt := Q } (start ["_law_cell_here", "_law_sizes", "_law_number", "_law_count", "_law_guard", "_law_changes", "_law_k", "_law_kind", "_law_other"] vs) H := by
  obtain ⟨z, v, sizes, num, rfl, ⟨p, us, rfl, hp, hr⟩, sz, hnum, q⟩ := h
  obtain rfl := nat_a2 hr
  have hz := sz.2.1
  have hz1 := sz.1
  have hln : (sizes.map nV).length = sizes.length := List.length_map _
  refine ⟨_, rfl, p, _, rfl, .inl (sqL hp), ?_⟩
  rw [hln]
  refine ⟨Nat.zero_le _, fun lg hlg0 => ?_⟩
  have s0 : Same H (upd H lg (.lst [])) := same_new hlg0
  refine ⟨Nat.zero_le _, fun lc hlc0 => ?_⟩
  have hlcH := none_back s0 hlc0
  have ne : lg ≠ lc := ne_of_none upd_same hlc0
  have s1 : Same H (upd (upd H lg (.lst [])) lc (.lst [])) := s0.trans (same_new hlc0)
  refine ⟨_, rfl, _, rfl, by omega, by omega, ?_⟩
  rw [Int.toNat_natCast]
  refine for_over over_range (fun r σ H1 => ∃ (k : Nat) (yg yc : List V) (gs : List (Nat × Nat)) (cs : List (Nat × Src)) (u6 u7 u8 : Option V), r = (List.range sizes.length).drop k ∧ k ≤ sizes.length ∧ σ = [some (.int z), some (.ref p), some (nV num), some (nV sizes.length), some (.ref lg), some (.ref lc), u6, u7, u8] ∧ DH H lg lc sizes k k yg yc gs cs H1)
    ⟨0, [], [], [], [], _, _, _, rfl, Nat.zero_le _, rfl, ⟨s1, (upd_ne ne).trans upd_same, .nil, upd_same, .nil, ⟨fun _ h => (nomatch h), .nil⟩, ⟨fun _ h => (nomatch h), .nil⟩, Nat.le_refl _, Nat.le_refl _⟩⟩ (fun _ _ _ _ => trivial) ?_ ?_
  · rintro i r x σ _ H1 hm ⟨k, yg, yc, gs, cs, u6, u7, u8, hrr, hk, rfl, dh⟩ ⟨rfl, rfl⟩
    obtain ⟨hk1, rfl, e2⟩ := range_in hrr
    have hn := getD_at hk1
    have n13 := sz.2.2 _ (List.mem_of_getElem? hn)
    have mid : ∀ (D : Ends) (G : Hp) (yg yc : List V) (gs : List (Nat × Nat)) (cs : List (Nat × Src)), DH H lg lc sizes (i + 1) i yg yc gs cs G →
        (∀ (u7 u8 : Option V) (G' : Hp) (yg yc : List V) (gs : List (Nat × Nat)) (cs : List (Nat × Src)), DH H lg lc sizes (i + 1) (i + 1) yg yc gs cs G' → D.nx [some (.int z), some (.ref p), some (nV num), some (nV sizes.length), some (.ref lg), some (.ref lc), some (nV i), u7, u8] G') →
        (tSeq (tAsg (tOp rModN (tCall (spMix) [] E0 (tCons (tVar 0) (tCons (tOp rAddN (tOp rMulN (tC (nV 4)) (tVar 6)) (tC (nV 2))) tNil))) (tC (nV 6))) (gName 7))
          (tSeq (tAsg (tOp rModN (tCall (spMix) [] E0 (tCons (tVar 0) (tCons (tOp rAddN (tOp rMulN (tC (nV 4)) (tVar 6)) (tC (nV 3))) tNil))) (tVar 3)) (gName 8))
          (tIfS (tTest (tOp rLtN (tVar 7) (tC (nV 2)))) (tDrop (tBM K "list" rAppend (tVar 5) (tCons (tTup (tCons (tVar 6) (tCons (tTup (tCons (tC (.str "set")) (tCons (tOp rModN (tCall (spMix) [] E0 (tCons (tVar 0) (tCons (tOp rAddN (tOp rMulN (tC (nV 4)) (tVar 6)) (tC (nV 3))) tNil))) (tOp (rIxL K) (tVar 1) (tVar 6))) tNil))) tNil))) tNil)))
          (tIfS (tAnd (tTest (tOp rEqN (tVar 7) (tC (nV 2)))) (tTest (tOp rLeN (tOp (rIxL K) (tVar 1) (tVar 8)) (tOp (rIxL K) (tVar 1) (tVar 6))))) (tDrop (tBM K "list" rAppend (tVar 5) (tCons (tTup (tCons (tVar 6) (tCons (tTup (tCons (tC (.str "copy")) (tCons (tVar 8) tNil))) tNil))) tNil)))
          tNext)))) D [some (.int z), some (.ref p), some (nV num), some (nV sizes.length), some (.ref lg), some (.ref lc), some (nV i), u7, u8] G := by
      intro D G yg yc gs cs dg hD
      refine ⟨_, rfl, _, rfl, 4, i, rfl, rfl, .inl (by decide), _, 2, rfl, rfl, z, _, rfl, fun H2 s2 => ⟨_, 6, rfl, rfl, by decide, ?_⟩⟩
      refine ⟨_, rfl, _, rfl, 4, i, rfl, rfl, .inl (by decide), _, 3, rfl, rfl, z, _, rfl, fun H3 s3 => ⟨_, rfl, _, sizes.length, rfl, rfl, by omega, ?_⟩⟩
      have d3 := dg.move (s2.trans s3)
      have hp3 := d3.same _ _ hp
      have lyc := d3.ac.length
      have ncc := d3.nc
      have hszc : yc.length < sizeLine := sz_lt' (by omega)
      have hup : ∀ u7 u8, D.nx [some (.int z), some (.ref p), some (nV num), some (nV sizes.length), some (.ref lg), some (.ref lc), some (nV i), u7, u8] H3 := fun u7 u8 => hD u7 u8 H3 yg yc gs cs ⟨d3.same, d3.lg, d3.ag, d3.lc, d3.ac, d3.gok, d3.cok.up, d3.ng, Nat.le_succ_of_le d3.nc⟩
      refine ⟨_, rfl, _, 2, rfl, rfl, _, rfl, if_b (fun e => ?_) fun e => ?_⟩
      · refine ⟨_, rfl, .inl ⟨rfl, _, sqL d3.lc⟩, _, rfl, _, rfl, _, rfl, 4, i, rfl, rfl, .inl (by decide), _, 3, rfl, rfl, z, _, rfl, fun H4 s4 => ?_⟩
        refine ⟨_, rfl, _, rfl, p, _, _, _, rfl, rfl, sqL (s4 _ _ hp3), at_nat (map_at hn), _, _, rfl, rfl, by omega, by show 2 ≤ sizeLine; decide, fun ps hps => ⟨by show 2 ≤ sizeLine; decide, fun pt hpt => ?_⟩⟩
        have s5 := same_new (o := .tup [.str "set", nV (mix z (4 * i + 3) % sizes.getD i 0)]) hps
        have s6 := same_new (o := .tup [nV i, .ref ps]) hpt
        have d6 := d3.move (s4.trans (s5.trans s6))
        exact ⟨lc, _, _, rfl, rfl, d6.lc, hszc, hD _ _ _ _ _ _ _ (d6.change (s := .set (mix z (4 * i + 3) % sizes.getD i 0)) hlcH ne hk1 (Nat.mod_lt _ (by omega)) upd_same (s6 _ _ upd_same))⟩
      · refine ⟨_, rfl, _, 2, rfl, rfl, _, rfl, if_b (fun e2 => ?_) fun e2 => iteF (hup _ _)⟩
        have ho : mix z (4 * i + 3) % sizes.length < sizes.length := Nat.mod_lt _ (by omega)
        refine ⟨_, rfl, _, rfl, p, _, _, _, rfl, rfl, sqL hp3, at_nat (map_at (getD_at ho)), _, rfl, _, rfl, p, _, _, _, rfl, rfl, sqL hp3, at_nat (map_at hn), _, _, rfl, rfl, _, rfl, if_b (fun e3 => ?_) fun e3 => hup _ _⟩
        refine ⟨_, rfl, .inl ⟨rfl, _, sqL d3.lc⟩, _, rfl, _, rfl, by show 2 ≤ sizeLine; decide, fun ps hps => ⟨by show 2 ≤ sizeLine; decide, fun pt hpt => ?_⟩⟩
        have s5 := same_new (o := .tup [.str "copy", nV (mix z (4 * i + 3) % sizes.length)]) hps
        have s6 := same_new (o := .tup [nV i, .ref ps]) hpt
        have d6 := d3.move (s5.trans s6)
        exact ⟨lc, _, _, rfl, rfl, d6.lc, hszc, hD _ _ _ _ _ _ _ (d6.change (s := .copy (mix z (4 * i + 3) % sizes.length)) hlcH ne hk1 ⟨ho, of_decide_eq_true e3⟩ upd_same (s6 _ _ upd_same))⟩
    have dh1 : ∀ {H2 : Hp}, Same H1 H2 → DH H lg lc sizes (i + 1) i yg yc gs cs H2 := fun s => ⟨(dh.move s).same, (dh.move s).lg, (dh.move s).ag, (dh.move s).lc, (dh.move s).ac, dh.gok.up, dh.cok, Nat.le_succ_of_le dh.ng, dh.nc⟩
    refine ⟨_, rfl, _, rfl, 4, i, rfl, rfl, .inl (by decide), z, 4 * i, rfl, fun H2 s2 => ⟨_, 5, rfl, rfl, by decide, _, 2, rfl, rfl, _, rfl, if_b (fun e => ?_) fun e => ?_⟩⟩
    · have d2 := dh.move s2
      have lyg := d2.ag.length
      have ngg := d2.ng
      refine ⟨_, rfl, .inl ⟨rfl, _, sqL d2.lg⟩, _, rfl, _, rfl, _, rfl, 4, i, rfl, rfl, .inl (by decide), _, 1, rfl, rfl, z, _, rfl, fun H3 s3 => ?_⟩
      refine ⟨_, rfl, _, rfl, p, _, _, _, rfl, rfl, sqL (s3 _ _ (d2.same _ _ hp)), at_nat (map_at hn), _, _, rfl, n13.1, n13.2, fun H4 s4 => ⟨by show 2 ≤ sizeLine; decide, fun pt hpt => ?_⟩⟩
      have s5 := same_new (o := .tup [nV i, nV (maskOf (mix z (4 * i + 1)) (sizes.getD i 0))]) hpt
      have d5 := d2.move (s3.trans (s4.trans s5))
      refine ⟨lg, _, _, rfl, rfl, d5.lg, sz_lt' (by omega), ?_⟩
      exact mid _ _ _ _ _ _ (d5.guard hlg0 ne hk1 (mask_ok _ _ n13.1) upd_same) fun u7 u8 G' yg yc gs cs d => ⟨i + 1, yg, yc, gs, cs, _, _, _, e2, hk1, rfl, d⟩
    · show (tSeq _ _) _ _ _
      exact mid _ _ _ _ _ _ (dh1 s2) fun u7 u8 G' yg yc gs cs d => ⟨i + 1, yg, yc, gs, cs, _, _, _, e2, hk1, rfl, d⟩
  · rintro σ H1 ⟨k, yg, yc, gs, cs, u6, u7, u8, hrr, hk, rfl, dh⟩
    obtain ⟨b1, b2⟩ := str_few ⟨num, by omega⟩
    refine ⟨_, rfl, (num : Int), rfl, b1, _, _, rfl, rfl, sz12 b2, _, rfl, lg, yg, rfl, .inl ⟨sqL dh.lg, fun t1 ht1 => ?_⟩⟩
    have s1 := same_new (o := .tup yg) ht1
    refine ⟨_, rfl, lc, yc, rfl, .inl ⟨sqL (s1 _ _ dh.lc), fun t2 ht2 => ⟨by show 3 ≤ sizeLine; decide, fun tt htt => ?_⟩⟩⟩
    have s2 := same_new (o := .tup yc) ht2
    have s3 := same_new (o := .tup [.str (dName num), .ref t1, .ref t2]) htt
    refine q _ (.ref tt) ⟨num, gs, cs⟩ (((dh.same.trans s1).trans s2).trans s3) ⟨tt, .ref t1, .ref t2, rfl, upd_same, ⟨t1, yg, rfl, s3 _ _ (s2 _ _ upd_same), a2_monoS (s1.trans (s2.trans s3)) dh.ag⟩, ⟨t2, yc, rfl, s3 _ _ upd_same, a2_monoS (s1.trans (s2.trans s3)) dh.ac⟩⟩ rfl ⟨fun p hp => (dh.gok.1 p hp).2, dh.gok.2, fun p hp => (dh.cok.1 p hp).2, dh.cok.2⟩
end RwW
/-! readings, part 21: the law draws the parts of a machine -/
namespace RwW
open PySem L2 RwR
open RwM (A2 Sk Dk Src Deed Mach SS vSk vDk MachOk DeedOk SInv OrgOk Ext srcOk)
variable {K : PySem.W.Frag} {c : Cs}

theorem abcd_at : ∀ k : Fin 4, ("abcd" : Str).cps.toList[k.1]? = some (97 + k.1) ∧ ("abcd" : Str).length ≤ 100000 := by decide +kernel
theorem range_cells (sizes : List Nat) : (List.range sizes.length).map (fun k => (sizes.getD k 0, k)) = sizes.zipIdx := by
  apply List.ext_getElem
  · rw [List.length_map, List.length_range, List.length_zipIdx]
  intro i h1 h2
  rw [List.getElem_map, List.getElem_range, List.getElem_zipIdx]
  rw [List.length_zipIdx] at h2
  rw [List.getD_eq_getElem?_getD, List.getElem?_eq_getElem h2, Nat.zero_add]
  rfl
theorem mod_lt' (z : Int) (m : Nat) (h : 0 < m) : (z % (m : Int)).toNat < m := by
  have h1 := Int.emod_nonneg z (show (m : Int) ≠ 0 by omega)
  have h2 := Int.emod_lt_of_pos z (show (0 : Int) < (m : Int) by omega)
  omega
theorem rd_l_parts (vs : List V) (H : Hp) (Q : VK) (E : XK) (h : lParts K vs H Q E) : t_l_parts K { nx := fun _ H1 => Q .non H1, rt := Q } (start ["_law_script", "_law_first", "_law_most", "_law_count", "_law_sizes", "_law_cells", "_law_deeds", "_law_k", "_law_initial", "_law_mask_here"] vs) H := by
  obtain ⟨a, ns, rfl, hS, hz, q⟩ := h
  -- the count
  refine ⟨_, rfl, _, rfl, a, ns, 4, rfl, hS, hz, fun H1 s1 => ⟨_, 4, rfl, rfl, by decide, 1, _, rfl, rfl, ?_⟩⟩
  have hc := mod_lt' (cellAt ns 4) 4 (by decide)
  have hc1 : 1 ≤ 1 + (cellAt ns 4 % ((4 : Nat) : Int)).toNat := by omega
  have hc4 : 1 + (cellAt ns 4 % ((4 : Nat) : Int)).toNat ≤ 4 := by omega
  generalize 1 + (cellAt ns 4 % ((4 : Nat) : Int)).toNat = n at hc1 hc4 ⊢
  -- the sizes
  refine ⟨_, rfl, _, rfl, by omega, by omega, fun D1 hD1 => ?_⟩
  rw [Int.toNat_natCast]
  refine lc_map (S := IsNat) (f := fun k => 1 + mix (cellAt ns 4) k % 3) over_range hD1 (fun _ _ => trivial) (by rw [List.length_range]; omega) ?_ ?_
  · rintro k x _ H2 N hm s2 ⟨rfl, rfl⟩ hN
    refine ⟨rfl, _, rfl, _, rfl, a, ns, 4, rfl, (s1.trans s2).seq hS, hz, fun H3 s3 => ?_⟩
    exact ⟨_, rfl, _, k, rfl, fun H4 s4 => ⟨_, 3, rfl, rfl, by decide, 1, _, rfl, rfl, hN _ _ (s3.trans s4) rfl⟩⟩
  rintro H2 ys2 s2 hy2 r2
  have e2 := nat_a2 r2
  subst e2
  obtain ⟨sizes, hsz⟩ : ∃ l, l = (List.range n).map fun k => 1 + mix (cellAt ns 4) k % 3 := ⟨_, rfl⟩
  rw [← hsz] at hy2
  have hln : sizes.length = n := by rw [hsz, List.length_map, List.length_range]
  have h13 : ∀ x ∈ sizes, 1 ≤ x ∧ x ≤ 3 := fun x hx => by
    rw [hsz] at hx
    obtain ⟨k, _, rfl⟩ := List.mem_map.mp hx
    omega
  have szk : SzOk sizes := ⟨by omega, by omega, h13⟩
  subst hln
  have s02 := s1.trans s2
  -- the cells
  refine ⟨_, rfl, _, rfl, by omega, by omega, fun D2 hD2 => ?_⟩
  rw [Int.toNat_natCast]
  refine lc_map (S := IsCell) (f := fun k => (sizes.getD k 0, k)) over_range hD2 (fun _ _ => trivial) (by rw [List.length_range]; omega) ?_ ?_
  · rintro k x _ H3 N hm s3 ⟨rfl, rfl⟩ hN
    have hk : k < sizes.length := by simpa using hm
    obtain ⟨b1, b2⟩ := abcd_at ⟨k, by omega⟩
    refine ⟨rfl, _, rfl, _, _, _, rfl, rfl, sz12 b2, at_nat b1, _, rfl, _, rfl, D1, _, _, _, rfl, rfl, sqL (s3 _ _ hy2), at_nat (map_at (getD_at hk)), by show 2 ≤ sizeLine; decide, fun p hp => hN _ _ (same_new hp) ⟨p, rfl, upd_same⟩⟩
  rintro H3 ys3 s3 hy3 r3
  rw [range_cells] at r3
  have s03 := s02.trans s3
  -- the deeds
  refine ⟨Nat.zero_le _, fun ld hld => ?_⟩
  have s4 := same_new (o := .lst []) hld
  have hldH := none_back s03 hld
  have ne2 : D2 ≠ ld := ne_of_none hy3 hld
  refine ⟨_, rfl, _, rfl, 4, 1, rfl, rfl, a, ns, 5, rfl, (s03.trans s4).seq hS, hz, fun H5 s5 => ?_⟩
  refine ⟨_, rfl, 7, 1, rfl, rfl, _, 8, rfl, rfl, by decide, ?_⟩
  have hm8 := mod_lt' (cellAt ns 5) 8 (by decide)
  generalize (cellAt ns 5 % ((8 : Nat) : Int)).toNat = md at hm8 ⊢
  refine ⟨_, rfl, by omega, by omega, ?_⟩
  rw [Int.toNat_natCast]
  have hsz5 := s5 _ _ (s4 _ _ (s3 _ _ hy2))
  have s35 := s4.trans s5
  refine for_over over_range (fun r σ H6 => Same H H6 ∧ Same H3 H6 ∧ ∃ (k : Nat) (ds : List Deed) (ys : List V) (u7 u8 u9 : Option V), r = (List.range md).drop k ∧ k ≤ md ∧ σ = [some (.ref a), some (nV 4), some (nV 7), some (nV sizes.length), some (.ref D1), some (.ref D2), some (.ref ld), u7, u8, u9] ∧
      H6 ld = some (.lst ys) ∧ A2 (IsDeed H6) ys ds ∧ ds.length = k ∧ (∀ d ∈ ds, DeedOk sizes d) ∧ ∀ (k : Nat) (d : Deed), ds[k]? = some d → d.id = k) ⟨s03.trans s35, s35, 0, [], [], _, _, _, rfl, Nat.zero_le _, rfl, s5 _ _ upd_same, .nil, rfl, (fun _ h => nomatch h), fun _ _ h => by simp at h⟩ (fun _ _ _ _ => trivial) ?_ ?_
  · rintro i r x σ _ H6 hm ⟨s6, s36, k, ds, ys, u7, u8, u9, hrr, hk, rfl, hl, hA, hdl, hok, hid⟩ ⟨rfl, rfl⟩
    obtain ⟨hk1, rfl, e2⟩ := range_in hrr
    have la := hA.length
    have hl6 : H6 D1 = some (.lst (sizes.map nV)) := s36 _ _ (s3 _ _ hy2)
    refine ⟨_, rfl, .inl ⟨rfl, _, sqL hl⟩, _, rfl, _, rfl, 4, 2, rfl, rfl, _, rfl, 6, i, rfl, rfl, a, ns, 6 + i, rfl, s6.seq hS, hz, fun H7 s7 => ?_⟩
    refine ⟨_, rfl, _, rfl, _, .ref D1, sizes, i, rfl, ⟨D1, _, rfl, s7 _ _ hl6, a2_nat _⟩, szk, by omega, fun H8 u deed s8 hu hud hdk => ?_⟩
    have s68 := s7.trans s8
    have hl8 := s68 _ _ hl
    have t : Ts H8 (upd H8 ld (.lst (ys ++ [u]))) := ts_lst hl8
    refine ⟨ld, _, _, rfl, rfl, hl8, sz_lt' (by omega), same_mut (s6.trans s68) hldH, same_mut (s36.trans s68) hld, i + 1, ds ++ [deed], _, _, _, _, e2, hk1, rfl, upd_same, A2.snoc (a2_mono ((ts_of s68).trans t) hA) (MonoT.mono t hu), by rw [List.length_append, List.length_singleton, hdl], ?_, ?_⟩
    · intro d hd
      rcases List.mem_append.mp hd with hd | hd
      · exact hok d hd
      · rw [List.mem_singleton] at hd
        rw [hd]
        exact hdk
    · intro k d hd
      rcases RwM.snoc_get hd with hd | ⟨e1, e3⟩
      · exact hid k d hd
      · rw [e3, hud, e1, hdl]
  rintro σ H6 ⟨s6, s36, k, ds, ys, u7, u8, u9, hrr, hk, rfl, hl, hA, hdl, hok, hid⟩
  have hkm := range_out hrr
  have hl6 : H6 D1 = some (.lst (sizes.map nV)) := s36 _ _ (s3 _ _ hy2)
  -- the first disks
  refine ⟨Nat.zero_le _, fun li hli => ?_⟩
  have s7 := same_new (o := .lst []) hli
  have hliH := none_back s6 hli
  refine ⟨_, rfl, _, rfl, by omega, by omega, ?_⟩
  rw [Int.toNat_natCast]
  refine for_over over_range (fun r σ H7 => Same H6 H7 ∧ ∃ (k : Nat) (done : List Nat) (u7 u9 : Option V), r = (List.range sizes.length).drop k ∧ k ≤ sizes.length ∧ σ = [some (.ref a), some (nV 4), some (nV 7), some (nV sizes.length), some (.ref D1), some (.ref D2), some (.ref ld), u7, some (.ref li), u9] ∧
      H7 li = some (.lst (done.map nV)) ∧ A2 (fun n m => 1 ≤ m ∧ m < 2 ^ n) (sizes.take k) done) ⟨s7, 0, [], _, _, rfl, Nat.zero_le _, rfl, upd_same, .nil⟩ (fun _ _ _ _ => trivial) ?_ ?_
  · rintro i r x σ _ H7 hm ⟨s7, k, done, u7, u9, hrr, hk, rfl, hli7, hA7⟩ ⟨rfl, rfl⟩
    obtain ⟨hk1, rfl, e2⟩ := range_in hrr
    have hn := getD_at hk1
    have n13 := szk.2.2 _ (List.mem_of_getElem? hn)
    have la := hA7.length
    rw [List.length_take] at la
    have s07 := s6.trans s7
    have hd : (done.map nV).length < sizeLine := sz_lt' (by rw [List.length_map]; omega)
    refine ⟨_, rfl, _, rfl, 4, 1, rfl, rfl, a, ns, 5, rfl, s07.seq hS, hz, fun H8 s8 => ⟨_, rfl, _, i, rfl, fun H9 s9 => ?_⟩⟩
    have s79 := s8.trans s9
    have hD9 := s79 _ _ (s7 _ _ hl6)
    refine ⟨_, rfl, _, rfl, D1, _, _, _, rfl, rfl, sqL hD9, at_nat (map_at hn), _, _, rfl, n13.1, n13.2, fun HA sA => ?_⟩
    have sAA := s79.trans sA
    refine ⟨_, rfl, _, rfl, 4, 1, rfl, rfl, a, ns, 5, rfl, (s07.trans sAA).seq hS, hz, fun HB sB => ?_⟩
    have sBB := sAA.trans sB
    have hlB := sBB _ _ hli7
    refine ⟨_, 64, rfl, rfl, ⟨by decide, by decide⟩, _, 2, rfl, rfl, by decide, _, 1, rfl, rfl, _, rfl, if_b (fun e => ?_) fun e => ?_⟩
    · refine ⟨_, rfl, _, rfl, 4, 1, rfl, rfl, a, ns, 5, rfl, (s07.trans sBB).seq hS, hz, fun HC sC => ⟨_, rfl, _, i, rfl, fun HD sD => ?_⟩⟩
      have sDD := sBB.trans (sC.trans sD)
      have hmm := Nat.mod_lt (mix (cellAt ns 5) i) (show 0 < sizes.getD i 0 by omega)
      refine ⟨_, rfl, _, rfl, D1, _, _, _, rfl, rfl, sqL (sDD _ _ (s7 _ _ hl6)), at_nat (map_at hn), _, _, rfl, rfl, by omega, 1, _, rfl, rfl, ⟨by decide, by omega⟩, ?_⟩
      refine ⟨_, rfl, .inl ⟨rfl, _, sqL (sDD _ _ hli7)⟩, _, rfl, li, _, _, rfl, rfl, sDD _ _ hli7, hd, same_mut (s7.trans sDD) hli, i + 1, done ++ [1 * 2 ^ (mix (cellAt ns 5) i % sizes.getD i 0)], _, _, e2, hk1, rfl, upd_same.trans (by rw [List.map_append]; rfl), take_snoc hA7 hn (pow_mod_ok _ _ n13.1)⟩
    · refine ⟨_, rfl, .inl ⟨rfl, _, sqL hlB⟩, _, rfl, li, _, _, rfl, rfl, hlB, hd, same_mut (s7.trans sBB) hli, i + 1, done ++ [maskOf (mix (cellAt ns 5) i) (sizes.getD i 0)], _, _, e2, hk1, rfl, upd_same.trans (by rw [List.map_append]; rfl), take_snoc hA7 hn (mask_ok _ _ n13.1)⟩
  rintro σ H7 ⟨s7, k, done, u7, u9, hrr, hk, rfl, hli7, hA7⟩
  have hk2 := range_out hrr
  rw [List.take_of_length_le hk2] at hA7
  refine ⟨_, rfl, _, rfl, _, rfl, li, _, rfl, .inl ⟨sqL hli7, fun t1 ht1 => ⟨by show 3 ≤ sizeLine; decide, fun t ht => ?_⟩⟩⟩
  have s8 := same_new (o := .tup (done.map nV)) ht1
  have s9 := same_new (o := .tup [.ref D2, .ref ld, .ref t1]) ht
  have s79 := s7.trans (s8.trans s9)
  refine q _ t (.ref D2) (.ref ld) (.ref t1) ⟨sizes, ds, done⟩ (s6.trans s79) upd_same ⟨D2, ys3, rfl, s79 _ _ (s36 _ _ hy3), a2_monoS (s36.trans s79) r3⟩ ⟨ld, ys, rfl, s79 _ _ hl, a2_monoS s79 hA⟩ ⟨t1, rfl, s9 _ _ upd_same⟩ ⟨⟨szk.1, szk.2.1⟩, szk.2.2, hok, ?_, hA7⟩ hid
  show ds.length ≤ 7
  omega
end RwW
/-! readings, part 22: the law lists the disks of a sketch -/
namespace RwW
open PySem L2 RwR
open RwM (A2 Sk Dk Src Deed Mach SS vSk vDk MachOk DeedOk SInv OrgOk Ext srcOk)
variable {K : PySem.W.Frag} {c : Cs}

/-- one cell more -/
def grow (m : Nat) (d : Dk) : List Dk := ((List.range 16).filter fun v => m.testBit v).map fun v => d ++ [v]
theorem disks_cons (m : Nat) (s : List Nat) (ds : List Dk) : disksGo (m :: s) ds = disksGo s (ds.flatMap (grow m)) := rfl
theorem grow_len (m : Nat) (d : Dk) : (grow m d).length ≤ 16 := by
  unfold grow
  rw [List.length_map]
  exact Nat.le_trans (List.length_filter_le _ _) (by simp)
theorem grows_len (m : Nat) : ∀ ds : List Dk, (ds.flatMap (grow m)).length ≤ 16 * ds.length
  | [] => by simp
  | d :: ds => by
    have := grows_len m ds
    have := grow_len m d
    rw [List.flatMap_cons, List.length_append, List.length_cons]
    omega
theorem snoc_inj {a b : List Nat} {v w : Nat} (h : a ++ [v] = b ++ [w]) : a = b ∧ v = w := by
  have := List.append_inj' h rfl
  exact ⟨this.1, by simpa using this.2⟩
theorem grows_nodup (m : Nat) : ∀ {ds : List Dk}, ds.Nodup → (ds.flatMap (grow m)).Nodup
  | [], _ => by simp
  | d :: ds, h => by
    obtain ⟨h1, h2⟩ := List.nodup_cons.mp h
    rw [List.flatMap_cons, List.nodup_append]
    refine ⟨?_, grows_nodup m h2, ?_⟩
    · unfold grow
      exact List.Pairwise.map _ (fun a b (hab : a ≠ b) e => hab (snoc_inj e).2) (List.Pairwise.filter _ List.nodup_range)
    · intro a ha b hb e
      subst e
      obtain ⟨v, _, rfl⟩ := List.mem_map.mp ha
      obtain ⟨d', hd', hb⟩ := List.mem_flatMap.mp hb
      obtain ⟨w, _, e⟩ := List.mem_map.mp hb
      have := (snoc_inj e).1
      subst this
      exact h1 hd'
theorem disks_nodup : ∀ (s : List Nat) {ds : List Dk}, ds.Nodup → (disksGo s ds).Nodup
  | [], _, h => h
  | m :: s, ds, h => by
    rw [disks_cons]
    exact disks_nodup s (grows_nodup m h)
theorem disks_mem : ∀ (s : List Nat) {ds : List Dk} {d : Dk}, d ∈ disksGo s ds ↔ ∃ pre ∈ ds, ∃ t, d = pre ++ t ∧ A2 (fun m v => v < 16 ∧ m.testBit v = true) s t
  | [], ds, d => by
    constructor
    · intro h
      exact ⟨d, h, [], by simp, .nil⟩
    · rintro ⟨pre, h, t, rfl, ht⟩
      cases ht
      rw [List.append_nil]
      exact h
  | m :: s, ds, d => by
    rw [disks_cons, disks_mem s]
    constructor
    · rintro ⟨pre', h, t, rfl, ht⟩
      obtain ⟨pre, hp, h⟩ := List.mem_flatMap.mp h
      obtain ⟨v, hv, rfl⟩ := List.mem_map.mp h
      obtain ⟨h1, h2⟩ := List.mem_filter.mp hv
      exact ⟨pre, hp, v :: t, by simp, .cons ⟨by simpa using h1, h2⟩ ht⟩
    · rintro ⟨pre, hp, t, rfl, ht⟩
      cases ht with
      | @cons _ v _ t h ht => exact ⟨pre ++ [v], List.mem_flatMap.mpr ⟨pre, hp, List.mem_map.mpr ⟨v, List.mem_filter.mpr ⟨by simpa using h.1, h.2⟩, rfl⟩⟩, t, by simp, ht⟩
theorem disks_val : ∀ {sizes s t : List Nat}, vSk sizes s → (∀ n ∈ sizes, n ≤ 3) → (A2 (fun m v => v < 16 ∧ m.testBit v = true) s t ↔ vDk sizes t ∧ RwM.inS s t = true)
  | _, _, t, .nil, _ => by
    constructor
    · intro h
      cases h
      exact ⟨.nil, rfl⟩
    · rintro ⟨h, _⟩
      cases h
      exact .nil
  | _, _, t, .cons (a := n) (b := m) (as := sz) (bs := s) h hs, h3 => by
    have hn := h3 n List.mem_cons_self
    have ih := fun t => disks_val (t := t) hs fun x hx => h3 x (List.mem_cons_of_mem _ hx)
    have lt : ∀ v, m.testBit v = true → v < n := fun v hv => by
      refine Nat.lt_of_not_le fun q => ?_
      rw [Nat.testBit_lt_two_pow (Nat.lt_of_lt_of_le h.2 (Nat.pow_le_pow_right (by omega) q))] at hv
      cases hv
    constructor
    · intro q
      cases q with
      | @cons _ v _ t q1 q2 =>
        obtain ⟨i1, i2⟩ := (ih t).mp q2
        refine ⟨.cons (lt v q1.2) i1, ?_⟩
        simp [RwM.inS, q1.2, i2]
    · rintro ⟨q1, q2⟩
      cases q1 with
      | @cons _ v _ t q1 q3 =>
        simp only [RwM.inS, Bool.and_eq_true] at q2
        exact .cons ⟨by omega, q2.1⟩ ((ih t).mpr ⟨q3, q2.2⟩)
/-- the disks of the first sketch, each once -/
theorem disks_first {M : Mach} (ok : MachOk M) (d : Dk) : d ∈ disksGo M.first [[]] ↔ vDk M.sizes d ∧ RwM.inS M.first d = true := by
  rw [disks_mem]
  constructor
  · rintro ⟨pre, hp, t, rfl, ht⟩
    rw [List.mem_singleton] at hp
    subst hp
    exact (disks_val ok.first fun n hn => (ok.size n hn).2).mp ht
  · intro h
    exact ⟨[], by simp, d, rfl, (disks_val ok.first fun n hn => (ok.size n hn).2).mpr h⟩
theorem bit_dec1 (m v : Nat) : decide ((m / 2 ^ v) &&& 1 = 1) = m.testBit v := by
  rw [Nat.testBit_eq_decide_div_mod_eq, Nat.and_one_is_mod]
theorem rd_l_disks (vs : List V) (H : Hp) (Q : VK) (E : XK) (h : lDisks vs H Q E) : t_l_disks K { nx := fun _ H1 => Q .non H1, rt := Q } (start ["_law_sketch_here", "_law_disks_here", "_law_mask_here", "_law_longer", "_law_disk", "_law_value"] vs) H := by
  obtain ⟨v, s, rfl, ⟨p, rfl, hp⟩, hz, h8, q⟩ := h
  refine ⟨Nat.zero_le _, fun pt hpt => ⟨by show 1 ≤ sizeLine; decide, fun l0 hl0 => ?_⟩⟩
  have s1 := same_new (o := .tup []) hpt
  have s2 := same_new (o := .lst [.ref pt]) hl0
  have s0 := s1.trans s2
  refine ⟨_, rfl, p, rfl, ⟨_, sqT (s0 _ _ hp)⟩, ?_⟩
  refine for_over (over_tup (a2_nat (H := H) s)) (fun r σ H1 => Same H H1 ∧ ∃ (lc : Addr) (cur : List Dk) (ys : List V) (u2 u3 u4 u5 : Option V), σ = [some (.ref p), some (.ref lc), u2, u3, u4, u5] ∧ H lc = none ∧ H1 lc = some (.lst ys) ∧ A2 (IsN H1) ys cur ∧ cur.length * 16 ^ r.length ≤ 65536 ∧ r.length ≤ 4 ∧
      (∀ d ∈ cur, d.length + r.length ≤ 4) ∧ disksGo r cur = disksGo s [[]]) ⟨s0, l0, [[]], _, _, _, _, _, rfl, none_back s1 hl0, upd_same, .cons ⟨pt, rfl, s2 _ _ upd_same⟩ .nil, ?_, hz, fun d hd => by rw [List.mem_singleton] at hd; rw [hd]; simpa using hz, rfl⟩ (fun r σ H1 p' => sqT (p'.1 _ _ hp)) ?_ ?_
  · have : 16 ^ s.length ≤ 16 ^ 4 := Nat.pow_le_pow_right (by omega) hz
    simp
    omega
  · rintro m r x σ _ H1 hm ⟨sm, lc, cur, ys, u2, u3, u4, u5, rfl, hlc0, hlc, hA, hb, hr4, hcl, he⟩ ⟨rfl, rfl⟩
    rw [disks_cons] at he
    have gl := grows_len m cur
    have hb2 : (cur.flatMap (grow m)).length * 16 ^ r.length ≤ 65536 := by
      rw [List.length_cons, Nat.pow_succ, Nat.mul_comm (16 ^ r.length) 16, ← Nat.mul_assoc, Nat.mul_comm cur.length 16] at hb
      exact Nat.le_trans (Nat.mul_le_mul_right _ gl) hb
    have hb3 : (cur.flatMap (grow m)).length ≤ 65536 := Nat.le_trans (Nat.le_mul_of_pos_right _ (Nat.pow_pos (by decide))) hb2
    rw [List.length_cons] at hr4 hcl
    refine ⟨Nat.zero_le _, fun lf hlf => ?_⟩
    have sF : Same H1 (upd H1 lf (.lst [])) := same_new hlf
    refine ⟨_, rfl, lc, rfl, ⟨_, sqL (sF _ _ hlc)⟩, ?_⟩
    refine for_over (over_list hA) (fun r' σ H2 => Same H1 H2 ∧ ∃ (zs : List V) (done : List Dk) (u4 u5 : Option V), σ = [some (.ref p), some (.ref lc), some (nV m), some (.ref lf), u4, u5] ∧ H2 lf = some (.lst zs) ∧ A2 (IsN H2) zs done ∧ done ++ r'.flatMap (grow m) = cur.flatMap (grow m))
      ⟨sF, [], [], _, _, rfl, upd_same, .nil, rfl⟩ (fun r' σ H2 p' => sqL (p'.1 _ _ hlc)) ?_ ?_
    · rintro d r' x σ _ H2 hmd ⟨s2, zs, done, u4, u5, rfl, hz2, hA2, he2⟩ ⟨rfl, hx⟩
      obtain ⟨pd, rfl, hpd⟩ := hx
      have hdl := hcl d hmd
      refine ⟨16, rfl, by omega, by omega, ?_⟩
      refine for_over over_range (fun r'' σ H3 => Same H1 H3 ∧ ∃ (zs : List V) (done2 : List Dk) (u5 : Option V), σ = [some (.ref p), some (.ref lc), some (nV m), some (.ref lf), some (.ref pd), u5] ∧ H3 lf = some (.lst zs) ∧ A2 (IsN H3) zs (done ++ done2) ∧ done2 ++ ((r''.filter fun v => m.testBit v).map fun v => d ++ [v]) = grow m d)
        ⟨s2, zs, [], _, rfl, hz2, by rw [List.append_nil]; exact hA2, rfl⟩ (fun _ _ _ _ => trivial) ?_ ?_
      · rintro v r'' x σ _ H3 hmv ⟨s3, zs3, done3, u5, rfl, hz3, hA3, he3⟩ ⟨rfl, rfl⟩
        refine ⟨_, rfl, _, rfl, m, v, rfl, rfl, _, 1, rfl, rfl, _, 1, rfl, rfl, _, rfl, if_is (bit_dec1 m v) (fun e => ?_) fun e => ?_⟩
        · refine ⟨_, rfl, .inl ⟨rfl, _, sqL hz3⟩, _, rfl, _, rfl, by show 1 ≤ sizeLine; decide, fun p1 hp1 => ?_⟩
          have s4 := same_new (o := .tup [nV v]) hp1
          refine cat_any (s4 _ _ (s3 _ _ hpd)) upd_same (by rw [List.length_map]; simp; omega) fun H5 pe s5 hpe => ?_
          have s45 := s4.trans s5
          have hz5 := s45 _ _ hz3
          have t : Ts H5 (upd H5 lf (.lst (zs3 ++ [.ref pe]))) := ts_lst hz5
          rw [List.filter_cons, if_pos e, List.map_cons] at he3
          have e1 := hA3.length
          have e2 := congrArg List.length he2
          have e3 := congrArg List.length he3
          rw [List.flatMap_cons] at e2
          simp only [List.length_append, List.length_cons] at e1 e2 e3
          refine ⟨lf, _, _, rfl, rfl, hz5, sz_lt' (by omega), same_mut (s3.trans s45) hlf, _, done3 ++ [d ++ [v]], _, rfl, upd_same, ?_, ?_⟩
          · rw [← List.append_assoc]
            refine A2.snoc (a2_mono ((ts_of s45).trans t) hA3) ⟨pe, rfl, t _ _ ?_⟩
            rw [hpe, List.map_append]
            rfl
          · rw [← he3, List.append_assoc]
            rfl
        · rw [List.filter_cons, if_neg (by rw [e]; decide)] at he3
          exact ⟨s3, zs3, done3, _, rfl, hz3, hA3, he3⟩
      · rintro σ H3 ⟨s3, zs3, done3, u5, rfl, hz3, hA3, he3⟩
        have he3 : done3 ++ [] = grow m d := he3
        rw [List.append_nil] at he3
        rw [he3] at hA3
        refine ⟨s3, zs3, done ++ grow m d, _, _, rfl, hz3, hA3, ?_⟩
        rw [← he2, List.flatMap_cons, List.append_assoc]
    · rintro σ H2 ⟨s2, zs, done, u4, u5, rfl, hz2, hA2, he2⟩
      rw [List.flatMap_nil, List.append_nil] at he2
      rw [he2] at hA2
      refine ⟨_, rfl, sm.trans s2, lf, _, zs, _, _, _, _, rfl, none_back sm hlf, hz2, hA2, hb2, by omega, ?_, he⟩
      intro d' hd'
      obtain ⟨d, hd, h⟩ := List.mem_flatMap.mp hd'
      obtain ⟨v, _, rfl⟩ := List.mem_map.mp h
      have := hcl d hd
      rw [List.length_append, List.length_singleton]
      omega
  · rintro σ H1 ⟨sm, lc, cur, ys, u2, u3, u4, u5, rfl, hlc0, hlc, hA, hb, hr4, hcl, he⟩
    have he : cur = disksGo s [[]] := he
    rw [← he] at q
    exact ⟨_, rfl, q _ _ sm ⟨lc, ys, rfl, hlc0, hlc, hA⟩⟩
end RwW
/-! readings, part 23: the law walks forward -/
namespace RwW
open PySem L2 RwR
open RwM (A2 Sk Dk Src Deed Mach SS vSk vDk MachOk DeedOk SInv OrgOk Ext srcOk BInv)
variable {K : PySem.W.Frag} {c : Cs}

theorem key_inj : ∀ {a b : List Nat}, keyOf a = keyOf b → a = b
  | [], [], _ => rfl
  | [], _ :: _, h => by cases h
  | _ :: _, [], h => by cases h
  | x :: a, y :: b, h => by
    have h : (Sum.inl (x : Int) : Key) :: keyOf a = (Sum.inl (y : Int) : Key) :: keyOf b := h
    injection h with h1 h2
    injection h1 with h1
    rw [key_inj h2, Int.ofNat.inj h1]
theorem key_in {kvs : List (List Key × V)} {order : List Dk} (h : kvs.map (·.1) = order.map keyOf) (d : Dk) : (valV kvs (keyOf d)).isSome = decide (d ∈ order) := by
  rw [← valV_any]
  have e : (kvs.any fun kv => decide (kv.1 = keyOf d)) = true ↔ d ∈ order := by
    rw [List.any_eq_true]
    constructor
    · rintro ⟨e, he, hd⟩
      have : e.1 ∈ kvs.map (·.1) := List.mem_map.mpr ⟨e, he, rfl⟩
      rw [h] at this
      obtain ⟨d', hd', e2⟩ := List.mem_map.mp this
      rw [of_decide_eq_true hd] at e2
      rw [← key_inj e2]
      exact hd'
    · intro hd
      have : keyOf d ∈ kvs.map (·.1) := by
        rw [h]
        exact List.mem_map.mpr ⟨d, hd, rfl⟩
      obtain ⟨e, he, e2⟩ := List.mem_map.mp this
      exact ⟨e, he, decide_eq_true e2⟩
  by_cases q : d ∈ order
  · rw [decide_eq_true q, e.mpr q]
  · rw [decide_eq_false q]
    cases q2 : (kvs.any fun kv => decide (kv.1 = keyOf d)) with
    | false => rfl
    | true => exact absurd (e.mp q2) q
theorem key_get {kvs : List (List Key × V)} {k : List Key} {v : V} (h : valV kvs k = some v) : ∃ e ∈ kvs, e.2 = v := by
  unfold valV at h
  cases q : kvs.find? fun kv => decide (kv.1 = k) with
  | none =>
    rw [q] at h
    cases h
  | some e =>
    rw [q] at h
    exact ⟨e, List.mem_of_find?_eq_some q, Option.some.inj h⟩
/-- the dict and the list of what is met -/
structure WK (H : Hp) (p lo : Addr) (order : List Dk) (Pv : V → Prop) (H2 : Hp) : Prop where
  same : Same H H2
  kv : ∃ kvs : List (List Key × V), H2 p = some (.dT kvs) ∧ kvs.map (·.1) = order.map keyOf ∧ ∀ e ∈ kvs, Pv e.2
  lo : ∃ ys, H2 lo = some (.lst ys) ∧ A2 (IsN H2) ys order
theorem WK.move {H H2 H3 : Hp} {p lo : Addr} {order : List Dk} {Pv : V → Prop} (h : WK H p lo order Pv H2) (s : Same H2 H3) : WK H p lo order Pv H3 :=
  ⟨h.same.trans s, let ⟨kvs, a, b, c⟩ := h.kv; ⟨kvs, s _ _ a, b, c⟩, let ⟨ys, a, b⟩ := h.lo; ⟨ys, s _ _ a, a2_monoS s b⟩⟩
theorem wk_ts {H2 : Hp} {p lo : Addr} {kvs kvs' : List (List Key × V)} {ys ys' : List V} (h1 : H2 p = some (.dT kvs)) (h2 : H2 lo = some (.lst ys)) : Ts H2 (upd (upd H2 p (.dT kvs')) lo (.lst ys')) := by
  have ne : lo ≠ p := ne_of h2 h1 (by intro z; cases z)
  exact (ts_mut (fun xs q => by rw [h1] at q; cases q)).trans (ts_lst ((upd_ne ne).trans h2))
theorem wk_add {H H2 : Hp} {p lo : Addr} {order : List Dk} {Pv : V → Prop} {kvs : List (List Key × V)} {ys : List V} {x v : V} {d : Dk} (s : Same H H2) (hp : H p = none) (hl : H lo = none) (h1 : H2 p = some (.dT kvs)) (hk : kvs.map (·.1) = order.map keyOf) (hv : ∀ e ∈ kvs, Pv e.2)
    (h2 : H2 lo = some (.lst ys)) (hA : A2 (IsN H2) ys order) (hx : IsN H2 x d) (hd : d ∉ order) (pv : Pv v) : WK H p lo (order ++ [d]) Pv (upd (upd H2 p (.dT (putK kvs (keyOf d) v))) lo (.lst (ys ++ [x]))) := by
  have t := wk_ts (kvs' := putK kvs (keyOf d) v) (ys' := ys ++ [x]) h1 h2
  have ne : lo ≠ p := ne_of h2 h1 (by intro z; cases z)
  have hn : valV kvs (keyOf d) = none := by
    have := key_in hk d
    rw [decide_eq_false hd] at this
    cases q : valV kvs (keyOf d) with
    | none => rfl
    | some v => rw [q] at this; cases this
  refine ⟨same_mut (same_mut s hp) hl, ⟨_, (upd_ne ne.symm).trans upd_same, ?_, ?_⟩, ⟨_, upd_same, A2.snoc (a2_mono t hA) (MonoT.mono t hx)⟩⟩
  · rw [putK_new v hn, List.map_append, List.map_append, hk]
    rfl
  · rw [putK_new v hn]
    intro e he
    rcases List.mem_append.mp he with he | he
    · exact hv e he
    · rw [List.mem_singleton] at he
      rw [he]
      exact pv
theorem key_tup {H : Hp} {b : Addr} {d : Dk} (h : H b = some (.tup (d.map nV))) : H b = some (.tup ((keyOf d).map kV)) := by rw [key_val]; exact h
theorem nodup_mid {α : Type} {a b : List α} {x : α} (h : (a ++ x :: b).Nodup) : x ∉ a := by
  rw [List.nodup_append] at h
  intro q
  exact h.2.2 x q x List.mem_cons_self rfl
def Num : V → Prop := fun v => ∃ n : Nat, v = nV n
theorem rd_l_steps (vs : List V) (H : Hp) (Q : VK) (E : XK) (h : lSteps vs H Q E) : t_l_steps K { nx := fun _ H1 => Q .non H1, rt := Q } (start ["_law_deeds", "_law_first", "_law_piece_here", "_law_steps_here", "_law_order", "_law_disk", "_law_k", "_law_deed_here", "_law_following"] vs) H := by
  obtain ⟨v, u, t, M, piece, rfl, ⟨pd, us, rfl, hpd, hrd⟩, hu, ht, ok, hpl, q⟩ := h
  have nd := ok.fewD
  have lus := hrd.length
  refine fun p hp => ⟨Nat.zero_le _, fun lo hlo => ?_⟩
  have sa := same_new (o := .dT []) hp
  have sb := same_new (o := .lst []) hlo
  have s0 := sa.trans sb
  have hloH := none_back sa hlo
  refine ⟨_, rfl, u, M.first, rfl, MonoS.mono s0 hu, by rw [RwM.vSk_len ok.first]; exact ok.few.2, RwM.vSk_lt (fun n hn => (ok.size n hn).2) ok.first, fun H1 w s1 hn => ?_⟩
  obtain ⟨pw, ws, rfl, hpw, h1, hA⟩ := hn
  have s01 := s0.trans s1
  have hp1 : H1 p = some (.dT []) := s1 _ _ (sb _ _ upd_same)
  have hl1 : H1 lo = some (.lst []) := s1 _ _ upd_same
  have nep : pw ≠ p := (ne_of_none (sb _ _ upd_same) hpw).symm
  have nel : pw ≠ lo := (ne_of_none upd_same hpw).symm
  have dn : (disksGo M.first [[]]).Nodup := disks_nodup M.first (by simp)
  have dv : ∀ d ∈ disksGo M.first [[]], vDk M.sizes d := fun d hd => ((disks_first ok d).mp hd).1
  have df := RwM.disks_few ok dn dv
  have fn : ((disksGo M.first [[]]).filter fun d => !RwM.has piece d).Nodup := List.Pairwise.filter _ dn
  refine ⟨pw, rfl, ⟨_, sqL h1⟩, ?_⟩
  refine for_over (over_list hA) (fun r σ H2 => Ts H1 H2 ∧ H2 pw = some (.lst ws) ∧ ∃ (order : List Dk) (u5 u6 u7 u8 : Option V), σ = [some (.ref pd), some u, some t, some (.ref p), some (.ref lo), u5, u6, u7, u8] ∧ WK H p lo order Num H2 ∧ order ++ (r.filter fun d => !RwM.has piece d) = (disksGo M.first [[]]).filter fun d => !RwM.has piece d)
    ⟨Ts.refl _, h1, [], _, _, _, _, rfl, ⟨s01, ⟨[], hp1, rfl, fun _ h => nomatch h⟩, ⟨[], hl1, .nil⟩⟩, rfl⟩ (fun r σ H2 p' => sqL p'.2.1) ?_ ?_
  · rintro d r x σ _ H2 hm ⟨t2, hpw2, order, u5, u6, u7, u8, rfl, wk, he⟩ ⟨rfl, hx⟩
    have ld := RwM.vDk_len (dv d hm)
    have hx2 := MonoT.mono t2 hx
    refine ⟨_, rfl, _, rfl, t, x, piece, d, rfl, MonoS.mono wk.same ht, hx2, fun z hz => by rw [hpl z hz, ld], fun H3 s3 => ⟨_, rfl, if_b (fun e => ?_) fun e => ?_⟩⟩
    · have e : RwM.has piece d = false := by simpa using e
      rw [List.filter_cons, if_pos (by rw [e]; rfl)] at he
      have wk3 := wk.move s3
      obtain ⟨kvs, hkv, hk, hv⟩ := wk3.kv
      obtain ⟨ys, hys, hAy⟩ := wk3.lo
      have hx3 := MonoS.mono s3 hx2
      obtain ⟨b, rfl, hb⟩ := hx3
      have hno : d ∉ order := nodup_mid (he ▸ fn)
      have lo1 : order.length ≤ 256 := by
        have := congrArg List.length he
        have := List.length_filter_le (fun d => !RwM.has piece d) (disksGo M.first [[]])
        simp only [List.length_append] at *
        omega
      have lk := congrArg List.length hk
      rw [List.length_map, List.length_map] at lk
      have ly := hAy.length
      have ne : lo ≠ p := ne_of hys hkv (by intro z; cases z)
      refine ⟨_, rfl, _, rfl, p, _, rfl, DPut.t hkv (key_tup hb) (sz_lt' (by omega)), ?_⟩
      refine ⟨_, rfl, .inl ⟨rfl, _, sqL ((upd_ne ne).trans hys)⟩, _, rfl, lo, _, _, rfl, rfl, (upd_ne ne).trans hys, sz_lt' (by omega), ?_⟩
      refine ⟨(t2.trans (ts_of s3)).trans (wk_ts hkv hys), ?_, order ++ [d], _, _, _, _, rfl, wk_add wk3.same hp hloH hkv hk hv hys hAy ⟨b, rfl, hb⟩ hno ⟨0, rfl⟩, ?_⟩
      · rw [upd_ne nel, upd_ne nep]
        exact s3 _ _ hpw2
      · rw [← he, List.append_assoc]
        rfl
    · have e : RwM.has piece d = true := by simpa using e
      rw [List.filter_cons, if_neg (by rw [e]; decide)] at he
      exact ⟨t2.trans (ts_of s3), s3 _ _ hpw2, order, _, _, _, _, rfl, wk.move s3, he⟩
  rintro σ H2 ⟨t2, hpw2, order, u5, u6, u7, u8, rfl, wk, he⟩
  have he : order ++ [] = _ := he
  rw [List.append_nil] at he
  have I0 : BInv M piece (fun d => vDk M.sizes d ∧ RwM.inS M.first d = true) 0 0 order := by
    subst he
    refine ⟨fn, fun d hd => dv d (List.mem_filter.mp hd).1, fun d hd => ?_, fun d hd hn => ?_, fun i _ hi => absurd hi (Nat.not_lt_zero _), fun _ _ i _ hi => absurd hi (Nat.not_lt_zero _)⟩
    · obtain ⟨h1, h2⟩ := List.mem_filter.mp hd
      exact ⟨d, (disks_first ok d).mp h1, .refl (by simpa using h2)⟩
    · exact List.mem_filter.mpr ⟨(disks_first ok d).mpr hd, by rw [hn]; rfl⟩
  refine ⟨5000, rfl, by decide, by decide, ?_⟩
  refine for_over over_range (fun r σ H3 => ∃ (k : Nat) (order : List Dk) (u5 u6 u7 u8 : Option V), r = (List.range 5000).drop k ∧ k ≤ 5000 ∧ σ = [some (.ref pd), some u, some t, some (.ref p), some (.ref lo), u5, u6, u7, u8] ∧ WK H p lo order Num H3 ∧ BInv M piece (fun d => vDk M.sizes d ∧ RwM.inS M.first d = true) k 0 order)
    ⟨0, order, _, _, _, _, rfl, by decide, rfl, wk, I0⟩ (fun _ _ _ _ => trivial) ?_ ?_
  · rintro i r x σ _ H3 hm ⟨k, order, u5, u6, u7, u8, hrr, hk, rfl, wk, I⟩ ⟨rfl, rfl⟩
    obtain ⟨hk1, rfl, e2⟩ := range_in hrr
    obtain ⟨ys, hys, hAy⟩ := wk.lo
    have ly := hAy.length
    refine ⟨_, rfl, _, rfl, lo, ys, rfl, .inl (sqL hys), i, _, rfl, rfl, _, rfl, if_b (fun e => ?_) fun e => ?_⟩
    · have e : i < ys.length := of_decide_eq_true e
      refine ⟨_, rfl, pd, _, rfl, .inl (sqL (wk.same _ _ hpd)), _, rfl, by omega, by omega, ?_⟩
      rw [lus, Int.toNat_natCast]
      refine for_over over_range (fun r' σ H4 => ∃ (j : Nat) (order : List Dk) (u7 u8 : Option V), r' = (List.range M.deeds.length).drop j ∧ j ≤ M.deeds.length ∧ σ = [some (.ref pd), some u, some t, some (.ref p), some (.ref lo), u5, some (nV i), u7, u8] ∧ WK H p lo order Num H4 ∧ BInv M piece (fun d => vDk M.sizes d ∧ RwM.inS M.first d = true) i j order ∧ i < order.length)
        ⟨0, order, _, _, rfl, Nat.zero_le _, rfl, wk, I, by omega⟩ (fun _ _ _ _ => trivial) ?_ ?_
      · rintro j r' x σ _ H4 hmj ⟨j', order, u7, u8, hrj, hj, rfl, wk, I, hio⟩ ⟨rfl, rfl⟩
        obtain ⟨hj1, rfl, e4⟩ := range_in hrj
        obtain ⟨ys, hys, hAy⟩ := wk.lo
        have hd := List.getElem?_eq_getElem hio
        generalize order[i] = d at hd
        obtain ⟨w, hw, hwd⟩ := A2.get_r hAy hd
        have hdm := List.mem_of_getElem? hd
        have vd := I.val d hdm
        have ld := RwM.vDk_len vd
        have hdeed := List.getElem?_eq_getElem hj1
        generalize M.deeds[j] = deed at hdeed
        have dok := ok.deed deed (List.mem_of_getElem? hdeed)
        have of := RwM.disks_few ok I.nd I.val
        refine ⟨_, rfl, _, rfl, _, rfl, lo, _, _, _, rfl, rfl, sqL hys, at_nat hw, _, rfl, .ref pd, w, M.deeds, d, j, deed, rfl, ⟨pd, us, rfl, wk.same _ _ hpd, a2_monoS wk.same hrd⟩, hwd, hdeed, fun z hz => by rw [ld]; exact (dok.guard z hz).1, fun H5 s5 => ⟨_, rfl, if_b (fun e => ?_) fun e => ?_⟩⟩
        · have wk5 := wk.move s5
          have hys5 := s5 _ _ hys
          refine ⟨_, rfl, _, rfl, _, rfl, lo, _, _, _, rfl, rfl, sqL hys5, at_nat hw, _, rfl, .ref pd, w, M.deeds, d, j, deed, M.sizes, rfl, ⟨pd, us, rfl, wk5.same _ _ hpd, a2_monoS wk5.same hrd⟩, MonoS.mono s5 hwd, hdeed, dok, ld.symm, fun H6 w6 s6 hw6 => ?_⟩
          have wk6 := wk5.move s6
          obtain ⟨kvs, hkv, hk, hv⟩ := wk6.kv
          obtain ⟨b, rfl, hb⟩ := hw6
          have vf := RwM.vDk_after dok vd
          have lf := RwM.vDk_len vf
          have hys6 := s6 _ _ hys5
          have hAy6 := a2_monoS (s5.trans s6) hAy
          have hwd6 := MonoS.mono (s5.trans s6) hwd
          refine ⟨_, rfl, _, rfl, p, _, rfl, DGet.t hkv (key_tup hb), _, rfl, if_is (c := !decide (RwM.after deed d ∈ order)) (by rw [key_in hk]) (fun e2 => ?_) fun e2 => ?_⟩
          · have hno : RwM.after deed d ∉ order := by simpa using e2
            refine ⟨_, rfl, _, rfl, t, .ref b, piece, RwM.after deed d, rfl, MonoS.mono wk6.same ht, ⟨b, rfl, hb⟩, fun z hz => by rw [hpl z hz, lf], fun H7 s7 => ⟨_, rfl, if_b (fun e3 => ?_) fun e3 => ?_⟩⟩
            · have e3 : RwM.has piece (RwM.after deed d) = false := by simpa using e3
              have wk7 := wk6.move s7
              have hkv7 := s7 _ _ hkv
              have hys7 := s7 _ _ hys6
              obtain ⟨bw, rfl, hbw⟩ := MonoS.mono (R := IsN) s7 hwd6
              have lk := congrArg List.length hk
              rw [List.length_map, List.length_map] at lk
              have ne : lo ≠ p := ne_of hys7 hkv7 (by intro z; cases z)
              have ly := hAy.length
              have hin : (valV kvs (keyOf d)).isSome = true := by rw [key_in hk, decide_eq_true hdm]
              obtain ⟨vv, hvv⟩ := Option.isSome_iff_exists.mp hin
              obtain ⟨en, hen, e5⟩ := key_get hvv
              obtain ⟨n, hn⟩ := hv en hen
              rw [e5] at hn
              subst hn
              have hget : DGet H7 p (.ref bw) (some (nV n)) := by
                rw [← hvv]
                exact DGet.t hkv7 (key_tup hbw)
              refine ⟨_, rfl, _, rfl, _, rfl, lo, _, _, _, rfl, rfl, sqL hys7, at_nat hw, p, _, rfl, hget, n, 1, rfl, rfl, _, rfl, _, rfl, p, _, rfl, DPut.t hkv7 (key_tup (s7 _ _ hb)) (sz_lt' (by omega)), ?_⟩
              refine ⟨_, rfl, .inl ⟨rfl, _, sqL ((upd_ne ne).trans hys7)⟩, _, rfl, lo, _, _, rfl, rfl, (upd_ne ne).trans hys7, sz_lt' (by omega), ?_⟩
              exact ⟨j + 1, order ++ [RwM.after deed d], _, _, e4, hj1, rfl, wk_add wk7.same hp hloH hkv7 hk hv hys7 (a2_monoS s7 hAy6) ⟨b, rfl, s7 _ _ hb⟩ hno ⟨n + 1, rfl⟩, I.more ok hd hdeed e e3 hno, by rw [List.length_append]; omega⟩
            · have e3 : RwM.has piece (RwM.after deed d) = true := by simpa using e3
              exact ⟨j + 1, order, _, _, e4, hj1, rfl, wk6.move s7, I.skip hd hdeed (fun _ z => by rw [e3] at z; cases z), hio⟩
          · have hin : RwM.after deed d ∈ order := by simpa using e2
            exact iteF ⟨j + 1, order, _, _, e4, hj1, rfl, wk6, I.skip hd hdeed (fun _ _ => hin), hio⟩
        · exact ⟨j + 1, order, _, _, e4, hj1, rfl, wk.move s5, I.skip hd hdeed (fun z => by rw [e] at z; cases z), hio⟩
      · rintro σ H4 ⟨j, order, u7, u8, hrj, hj, rfl, wk, I, hio⟩
        have hj2 := range_out hrj
        have ej : j = M.deeds.length := by omega
        subst ej
        exact ⟨i + 1, order, _, _, _, _, e2, hk1, rfl, wk, I.next⟩
    · have e : ¬ (i < ys.length) := of_decide_eq_false e
      exact ⟨i + 1, order, _, _, _, _, e2, hk1, rfl, wk, I.pass (by omega)⟩
  · rintro σ H3 ⟨k, order, u5, u6, u7, u8, hrr, hk, rfl, wk, I⟩
    have hk2 := range_out hrr
    have of := RwM.disks_few ok I.nd I.val
    obtain ⟨kvs, hkv, hkk, _⟩ := wk.kv
    exact ⟨_, rfl, q _ p order k wk.same hp ⟨kvs, hkv, hkk⟩ I (by omega)⟩
end RwW
/-! readings, part 24: the law's bad histories -/
namespace RwW
open PySem L2 RwR
open RwM (A2 Sk Dk Src Deed Mach SS vSk vDk MachOk DeedOk SInv OrgOk Ext srcOk BInv)
variable {K : PySem.W.Frag} {c : Cs}

def AnyV : V → Prop := fun _ => True
theorem rd_l_forward (vs : List V) (H : Hp) (Q : VK) (E : XK) (h : lForward vs H Q E) : t_l_forward K { nx := fun _ H1 => Q .non H1, rt := Q } (start ["_law_deeds", "_law_starts", "_law_seen", "_law_order", "_law_disk", "_law_k", "_law_deed_here", "_law_following"] vs) H := by
  obtain ⟨v, u, M, starts, rfl, ⟨pd, us, rfl, hpd, hrd⟩, ⟨pw, ws, rfl, h1, hA⟩, ok, fn, dv, q⟩ := h
  have nd := ok.fewD
  have lus := hrd.length
  refine fun p hp => ⟨Nat.zero_le _, fun lo hlo => ?_⟩
  have sa := same_new (o := .dT []) hp
  have sb := same_new (o := .lst []) hlo
  have s0 := sa.trans sb
  have hloH := none_back sa hlo
  have hp1 : (upd (upd H p (.dT [])) lo (.lst [])) p = some (.dT []) := sb _ _ upd_same
  have df := RwM.disks_few ok fn dv
  refine ⟨_, rfl, pw, rfl, ⟨_, sqL (s0 _ _ h1)⟩, ?_⟩
  refine for_over (over_list hA) (fun r σ H2 => ∃ (order : List Dk) (u4 u5 u6 u7 : Option V), σ = [some (.ref pd), some (.ref pw), some (.ref p), some (.ref lo), u4, u5, u6, u7] ∧ WK H p lo order AnyV H2 ∧ order ++ r = starts)
    ⟨[], _, _, _, _, rfl, ⟨s0, ⟨[], hp1, rfl, fun _ _ => trivial⟩, ⟨[], upd_same, .nil⟩⟩, rfl⟩ (fun r σ H2 p' => by obtain ⟨_, _, _, _, _, _, wk, _⟩ := p'; exact sqL (wk.same _ _ h1)) ?_ ?_
  · rintro d r x σ _ H3 hm ⟨order, u5, u6, u7, u8, rfl, wk3, he⟩ ⟨rfl, hx⟩
    obtain ⟨kvs, hkv, hk, hv⟩ := wk3.kv
    obtain ⟨ys, hys, hAy⟩ := wk3.lo
    have hx3 := MonoS.mono wk3.same hx
    obtain ⟨b, rfl, hb⟩ := hx3
    have hno : d ∉ order := nodup_mid (he ▸ fn)
    have lo1 : order.length ≤ 256 := by
      have := congrArg List.length he
      simp only [List.length_append] at this
      omega
    have lk := congrArg List.length hk
    rw [List.length_map, List.length_map] at lk
    have ly := hAy.length
    have ne : lo ≠ p := ne_of hys hkv (by intro z; cases z)
    refine ⟨_, rfl, _, rfl, p, _, rfl, DGet.t hkv (key_tup hb), _, rfl, if_is (c := !decide (d ∈ order)) (by rw [key_in hk]) (fun e2 => ?_) fun e2 => absurd hno (by simpa using e2)⟩
    refine ⟨_, rfl, _, rfl, p, _, rfl, DPut.t hkv (key_tup hb) (sz_lt' (by omega)), ?_⟩
    refine ⟨_, rfl, .inl ⟨rfl, _, sqL ((upd_ne ne).trans hys)⟩, _, rfl, lo, _, _, rfl, rfl, (upd_ne ne).trans hys, sz_lt' (by omega), ?_⟩
    refine ⟨order ++ [d], _, _, _, _, rfl, wk_add wk3.same hp hloH hkv hk hv hys hAy ⟨b, rfl, hb⟩ hno trivial, ?_⟩
    rw [← he, List.append_assoc]
    rfl
  rintro σ H2 ⟨order, u5, u6, u7, u8, rfl, wk, he⟩
  rw [List.append_nil] at he
  have I0 : BInv M [] (fun d => d ∈ starts) 0 0 order := by
    subst he
    exact ⟨fn, dv, fun d hd => ⟨d, hd, .refl rfl⟩, fun d hd _ => hd, fun i _ hi => absurd hi (Nat.not_lt_zero _), fun _ _ i _ hi => absurd hi (Nat.not_lt_zero _)⟩
  refine ⟨5000, rfl, by decide, by decide, ?_⟩
  refine for_over over_range (fun r σ H3 => ∃ (k : Nat) (order : List Dk) (u4 u5 u6 u7 : Option V), r = (List.range 5000).drop k ∧ k ≤ 5000 ∧ σ = [some (.ref pd), some (.ref pw), some (.ref p), some (.ref lo), u4, u5, u6, u7] ∧ WK H p lo order AnyV H3 ∧ BInv M [] (fun d => d ∈ starts) k 0 order)
    ⟨0, order, _, _, _, _, rfl, by decide, rfl, wk, I0⟩ (fun _ _ _ _ => trivial) ?_ ?_
  · rintro i r x σ _ H3 hm ⟨k, order, u4, u5, u6, u7, hrr, hk, rfl, wk, I⟩ ⟨rfl, rfl⟩
    obtain ⟨hk1, rfl, e2⟩ := range_in hrr
    obtain ⟨ys, hys, hAy⟩ := wk.lo
    have ly := hAy.length
    refine ⟨_, rfl, _, rfl, lo, ys, rfl, .inl (sqL hys), i, _, rfl, rfl, _, rfl, if_b (fun e => ?_) fun e => ?_⟩
    · have e : i < ys.length := of_decide_eq_true e
      refine ⟨_, rfl, pd, _, rfl, .inl (sqL (wk.same _ _ hpd)), _, rfl, by omega, by omega, ?_⟩
      rw [lus, Int.toNat_natCast]
      refine for_over over_range (fun r' σ H4 => ∃ (j : Nat) (order : List Dk) (u6 u7 : Option V), r' = (List.range M.deeds.length).drop j ∧ j ≤ M.deeds.length ∧ σ = [some (.ref pd), some (.ref pw), some (.ref p), some (.ref lo), u4, some (nV i), u6, u7] ∧ WK H p lo order AnyV H4 ∧ BInv M [] (fun d => d ∈ starts) i j order ∧ i < order.length)
        ⟨0, order, _, _, rfl, Nat.zero_le _, rfl, wk, I, by omega⟩ (fun _ _ _ _ => trivial) ?_ ?_
      · rintro j r' x σ _ H4 hmj ⟨j', order, u6, u7, hrj, hj, rfl, wk, I, hio⟩ ⟨rfl, rfl⟩
        obtain ⟨hj1, rfl, e4⟩ := range_in hrj
        obtain ⟨ys, hys, hAy⟩ := wk.lo
        have hd := List.getElem?_eq_getElem hio
        generalize order[i] = d at hd
        obtain ⟨w, hw, hwd⟩ := A2.get_r hAy hd
        have hdm := List.mem_of_getElem? hd
        have vd := I.val d hdm
        have ld := RwM.vDk_len vd
        have hdeed := List.getElem?_eq_getElem hj1
        generalize M.deeds[j] = deed at hdeed
        have dok := ok.deed deed (List.mem_of_getElem? hdeed)
        have of := RwM.disks_few ok I.nd I.val
        refine ⟨_, rfl, _, rfl, _, rfl, lo, _, _, _, rfl, rfl, sqL hys, at_nat hw, _, rfl, .ref pd, w, M.deeds, d, j, deed, rfl, ⟨pd, us, rfl, wk.same _ _ hpd, a2_monoS wk.same hrd⟩, hwd, hdeed, fun z hz => by rw [ld]; exact (dok.guard z hz).1, fun H5 s5 => ⟨_, rfl, if_b (fun e => ?_) fun e => ?_⟩⟩
        · have wk5 := wk.move s5
          have hys5 := s5 _ _ hys
          refine ⟨_, rfl, _, rfl, _, rfl, lo, _, _, _, rfl, rfl, sqL hys5, at_nat hw, _, rfl, .ref pd, w, M.deeds, d, j, deed, M.sizes, rfl, ⟨pd, us, rfl, wk5.same _ _ hpd, a2_monoS wk5.same hrd⟩, MonoS.mono s5 hwd, hdeed, dok, ld.symm, fun H6 w6 s6 hw6 => ?_⟩
          have wk6 := wk5.move s6
          obtain ⟨kvs, hkv, hk, hv⟩ := wk6.kv
          obtain ⟨b, rfl, hb⟩ := hw6
          have hys6 := s6 _ _ hys5
          have hAy6 := a2_monoS (s5.trans s6) hAy
          refine ⟨_, rfl, _, rfl, p, _, rfl, DGet.t hkv (key_tup hb), _, rfl, if_is (c := !decide (RwM.after deed d ∈ order)) (by rw [key_in hk]) (fun e2 => ?_) fun e2 => ?_⟩
          · have hno : RwM.after deed d ∉ order := by simpa using e2
            have lk := congrArg List.length hk
            rw [List.length_map, List.length_map] at lk
            have ne : lo ≠ p := ne_of hys6 hkv (by intro z; cases z)
            have ly := hAy.length
            refine ⟨_, rfl, _, rfl, p, _, rfl, DPut.t hkv (key_tup hb) (sz_lt' (by omega)), ?_⟩
            refine ⟨_, rfl, .inl ⟨rfl, _, sqL ((upd_ne ne).trans hys6)⟩, _, rfl, lo, _, _, rfl, rfl, (upd_ne ne).trans hys6, sz_lt' (by omega), ?_⟩
            exact ⟨j + 1, order ++ [RwM.after deed d], _, _, e4, hj1, rfl, wk_add wk6.same hp hloH hkv hk hv hys6 hAy6 ⟨b, rfl, hb⟩ hno trivial, I.more ok hd hdeed e rfl hno, by rw [List.length_append]; omega⟩
          · have hin : RwM.after deed d ∈ order := by simpa using e2
            exact ⟨j + 1, order, _, _, e4, hj1, rfl, wk6, I.skip hd hdeed (fun _ _ => hin), hio⟩
        · exact ⟨j + 1, order, _, _, e4, hj1, rfl, wk.move s5, I.skip hd hdeed (fun z => by rw [e] at z; cases z), hio⟩
      · rintro σ H4 ⟨j, order, u6, u7, hrj, hj, rfl, wk, I, hio⟩
        have hj2 := range_out hrj
        have ej : j = M.deeds.length := by omega
        subst ej
        exact ⟨i + 1, order, _, _, _, _, e2, hk1, rfl, wk, I.next⟩
    · have e : ¬ (i < ys.length) := of_decide_eq_false e
      exact ⟨i + 1, order, _, _, _, _, e2, hk1, rfl, wk, I.pass (by omega)⟩
  · rintro σ H3 ⟨k, order, u4, u5, u6, u7, hrr, hk, rfl, wk, I⟩
    have hk2 := range_out hrr
    have of := RwM.disks_few ok I.nd I.val
    obtain ⟨kvs, hkv, hkk, _⟩ := wk.kv
    exact ⟨_, rfl, q _ p order k wk.same hp ⟨kvs, hkv, hkk⟩ I (by omega)⟩
theorem rd_l_is_disordered (vs : List V) (H : Hp) (Q : VK) (E : XK) (h : lDis vs H Q E) : t_l_is_disordered K { nx := fun _ H1 => Q .non H1, rt := Q } (start ["_law_deeds", "_law_first", "_law_image", "_law_early", "_law_late_here", "_law_steps_here", "_law_starts", "_law_disk"] vs) H := by
  obtain ⟨v1, v2, v3, v4, v5, M, image, early, late, rfl, hD, hF, hI, hE, hL, ok, lI, zE, zL, q⟩ := h
  refine ⟨_, rfl, _, rfl, _, rfl, v1, v2, v4, M, early, rfl, hD, hF, hE, ok, zE, fun H1 p order k s1 hp hk I hok => ?_⟩
  obtain ⟨kvs, hkv, hkeys⟩ := hk
  refine ⟨_, rfl, p, kvs, rfl, hkv, fun o => ⟨p, o, rfl, .inr ⟨kvs, upd_same, fun D hDD => ?_⟩⟩⟩
  have s2 : Same H (upd H1 p (.frz o (.dT kvs))) := same_mut s1 hp
  have of := RwM.disks_few ok I.nd I.val
  refine lc_fm (S := IsN) (keep := RwM.has late) (f := fun d => d) (over_keys hkeys) hDD (fun H2 s => s _ _ upd_same) (by omega) ?_ ?_
  · rintro d x _ H2 N No hd s ⟨rfl, hx⟩ hN hNo
    have ld := RwM.vDk_len (I.val d hd)
    refine ⟨rfl, _, rfl, _, rfl, v5, x, late, d, rfl, MonoS.mono (s2.trans s) hL, hx, fun z hz => by rw [zL z hz, ld], fun H3 s3 => ⟨_, rfl, if_b (fun e => ?_) fun e => hNo e _ s3⟩⟩
    exact ⟨_, rfl, hN e _ _ s3 (MonoS.mono s3 hx)⟩
  rintro H2 ys s hys r
  rw [List.map_id'] at r
  have s02 := s2.trans s
  have hst : LstOf IsN H2 (.ref D) (order.filter (RwM.has late)) := ⟨D, ys, rfl, hys, r⟩
  refine ⟨_, rfl, _, rfl, v1, .ref D, M, order.filter (RwM.has late), rfl, MonoS.mono s02 hD, hst, ok, List.Pairwise.filter _ I.nd, fun d hd => I.val d (List.mem_filter.mp hd).1, fun H3 p' fwd k' s3 hp' hk' J hok' => ?_⟩
  obtain ⟨kvs', hkv', hkeys'⟩ := hk'
  have bad := RwM.bad_iff (image := image) I hok J hok'
  refine ⟨p', kvs', rfl, hkv', fun o' => ⟨p', o', rfl, .inr ⟨kvs', upd_same, ?_⟩⟩⟩
  have s4 : Same H2 (upd H3 p' (.frz o' (.dT kvs'))) := same_mut s3 hp'
  refine for_over (over_keys hkeys') (fun r σ H4 => Same (upd H3 p' (.frz o' (.dT kvs'))) H4 ∧ ∃ (u7 : Option V), σ = [some v1, some v2, some v3, some v4, some v5, some (.ref p), some (.ref D), u7] ∧ r.any (RwM.inS image) = fwd.any (RwM.inS image)) ⟨Same.refl _, _, rfl, rfl⟩ (fun r σ H4 p => p.1 _ _ upd_same) ?_ ?_
  · rintro d r x σ _ H4 hd ⟨s5, u7, rfl, he⟩ ⟨rfl, hx⟩
    have ld := RwM.vDk_len (J.val d hd)
    have s05 := (s02.trans s4).trans s5
    refine ⟨_, rfl, _, rfl, v3, x, image, d, rfl, MonoS.mono s05 hI, hx, by rw [lI, ld], fun H6 s6 => ⟨_, rfl, if_b (fun e => ?_) fun e => ?_⟩⟩
    · rw [List.any_cons, e, Bool.true_or] at he
      exact q _ true (s05.trans s6) ⟨fun _ => bad.mp he.symm, fun _ => rfl⟩
    · rw [List.any_cons, e, Bool.false_or] at he
      exact ⟨s5.trans s6, _, rfl, he⟩
  · rintro σ H4 ⟨s5, u7, rfl, he⟩
    have he : false = fwd.any (RwM.inS image) := he
    refine q _ false ((s02.trans s4).trans s5) ⟨(fun z => nomatch z), fun z => ?_⟩
    rw [bad.mpr z] at he
    cases he
end RwW
/-! readings, part 25: the program tells the order -/
namespace RwW
open PySem L2 RwR
open RwM (A2 Sk Dk Src Deed Mach SS vSk vDk MachOk DeedOk SInv OrgOk Ext)
variable {K : PySem.W.Frag} {c : Cs}

/-- where the links come from -/
def BO (reach : List Sk) (early late : List Sk) (owners : List Nat) : Nat → Sk → Prop := fun k s => ∃ o r, owners[k]? = some o ∧ reach[o]? = some r ∧ s ∈ RwM.lateParts r early late
theorem open_runs {M : Mach} {image : Sk} {early late : List Sk} {st1 st2 : SS} {owners : List Nat} (ok : MachOk M) (vE : ∀ q ∈ early, vSk M.sizes q) (vL : ∀ q ∈ late, vSk M.sizes q) (I1 : SInv M [] (fun _ s => s = image) st1) (I2 : SInv M early (BO st1.sk early late owners) st2)
    {k start : Nat} {s m : Sk} {ds : List Nat} (hk : st2.sk[k]? = some s) (hm : RwM.meet s M.first = some m) (hw : RwM.Way st2 k ds start) : ∃ o ls fin, owners[start]? = some o ∧ o < st1.sk.length ∧ RwM.Way st1 o ls fin ∧ ls.length ≤ o ∧
      ∃ dm de, vDk M.sizes (RwM.leastDisk m) ∧ RwM.inS M.first (RwM.leastDisk m) = true ∧ RwM.Runs M early (RwM.leastDisk m) ds dm ∧ RwM.has late dm = true ∧ RwM.Runs M [] dm ls de ∧ RwM.inS image de = true := by
  have lE : ∀ q ∈ early, q.length = M.sizes.length := fun q hq => RwM.vSk_len (vE q hq)
  have lL : ∀ q ∈ late, q.length = M.sizes.length := fun q hq => RwM.vSk_len (vL q hq)
  have vs := I2.val s (List.mem_of_getElem? hk)
  have ls := RwM.vSk_len vs
  have lf := RwM.vSk_len ok.first
  have vm := RwM.vSk_meet vs (by rw [lf, ls]) hm
  obtain ⟨vd, hin⟩ := RwM.least_in vm
  have ld := RwM.vDk_len vd
  have hb := RwM.inS_meet (d := RwM.leastDisk m) (by rw [ls, ld]) (by rw [lf, ld]) hm
  rw [hin] at hb
  have hb2 := Bool.and_eq_true_iff.mp hb.symm
  have lateIn : ∀ (r : Sk) (p : Sk) (d : Dk), r ∈ st1.sk → p ∈ RwM.lateParts r early late → vDk M.sizes d → RwM.inS p d = true → RwM.inS r d = true ∧ RwM.has late d = true ∧ RwM.has early d = false := by
    intro r p d hr hp v h
    have lr := RwM.vSk_len (I1.val r hr)
    have l := RwM.vDk_len v
    have e := RwM.late_in (s := r) (early := early) (late := late) (d := d) (by rw [lr, l]) (fun q hq => by rw [lE q hq, l]) (fun q hq => by rw [lL q hq, l])
    rw [RwM.has_iff.mpr ⟨p, hp, h⟩] at e
    have e := e.symm
    simp only [Bool.and_eq_true, Bool.not_eq_true'] at e
    exact ⟨e.1, e.2.1, e.2.2⟩
  obtain ⟨dm, t', r1, h1, h2, h3, h4⟩ := RwM.way_runs ok lE I2 (fun k p d hB v h => by
    obtain ⟨o, r, _, hr, hp⟩ := hB
    exact (lateIn r p d (List.mem_of_getElem? hr) hp v h).2.2) hw hk hb2.1 vd
  obtain ⟨o, r, ho, hr, hp⟩ := I2.base start t' h1 h4
  obtain ⟨i1, i2, _⟩ := lateIn r t' dm (List.mem_of_getElem? hr) hp h3 h2
  have hol := (List.getElem?_eq_some_iff.mp hr).1
  obtain ⟨l2, fin, w2⟩ := RwM.way_ex I1 o hol
  obtain ⟨de, t2, r2, g1, g2, g3, g4⟩ := RwM.way_runs ok (by simp) I1 (fun _ _ _ _ _ _ => rfl) w2 hr i1 h3
  have e := I1.base fin t2 g1 g4
  rw [e] at g2
  exact ⟨o, l2, fin, ho, hol, w2, (way_len I1 w2 hol).1, dm, de, vd, hb2.2, r1, i2, r2, g2⟩
end RwW
/-! readings, part 26: the program tells the order -/
namespace RwW
open PySem L2 RwR
open RwM (A2 Sk Dk Src Deed Mach SS vSk vDk MachOk DeedOk SInv OrgOk Ext)
variable {K : PySem.W.Frag} {c : Cs}

/-- the rows of a search so far -/
structure RowsAt (c : Cs) (H0 : Hp) (L : SLoc) (pt : Addr) (M : Mach) (piece : List Sk) (B : Nat → Sk → Prop) (st : SS) (table : Tab) (H1 : Hp) : Prop where
  sr : SrAt c H0 H1 L M piece st
  inv : SInv M piece B st
  tb : ∃ ys, H1 pt = some (.lst ys) ∧ A2 (LstOf (LstOf IsNat) (hid [L.x, L.l1, L.l2, L.l3, pt] H1)) ys table
  ok : RwM.TabOk M piece st.sk table
/-- one row more -/
theorem RowsAt.row {H0 H1 H2 : Hp} {L : SLoc} {pt : Addr} {M : Mach} {piece : List Sk} {B : Nat → Sk → Prop} {st : SS} {table : Tab} {s : Sk} {ys : List V} {v : V} (ok : MachOk M) (hpl : ∀ q ∈ piece, q.length = M.sizes.length) (h : RowsAt c H0 L pt M piece B st table H1)
    (h0 : H0 pt = none) (hs : st.sk[table.length]? = some s) (hy : H1 pt = some (.lst ys)) (hA : A2 (LstOf (LstOf IsNat) (hid [L.x, L.l1, L.l2, L.l3, pt] H1)) ys table) (n0 : pt ≠ L.x) (n1 : pt ≠ L.l1) (n2 : pt ≠ L.l2) (n3 : pt ≠ L.l3)
    (sr2 : SrAt c H0 H2 L M piece (RwM.rowGo M piece s table.length st 0 M.deeds).2) (fr : SFr L H1 H2) (nl : NewD (LstOf IsNat) H1 H2 v (RwM.rowGo M piece s table.length st 0 M.deeds).1) :
    RowsAt c H0 L pt M piece B (RwM.rowGo M piece s table.length st 0 M.deeds).2 (table ++ [(RwM.rowGo M piece s table.length st 0 M.deeds).1]) (upd H2 pt (.lst (ys ++ [v]))) ∧ Ext st (RwM.rowGo M piece s table.length st 0 M.deeds).2 := by
  obtain ⟨I2, e2, r2⟩ := RwM.rowGo_ok (s := s) (number := table.length) (d := 0) (ds := M.deeds) ok hpl h.inv hs fun k deed hk => by simpa using hk
  obtain ⟨p, zs, rfl, hp, hp2, hz⟩ := nl
  have h1sr := h.sr
  have hy2 := fr _ _ hy n0 n1 n2 n3
  obtain ⟨m0, m1, m2, m3⟩ := h.sr.out hp
  have m4 : p ≠ pt := (ne_of_none hy hp).symm
  have hpn : p ∉ [L.x, L.l1, L.l2, L.l3, pt] := by simp [m0, m1, m2, m3, m4]
  have hm : Same (hid [L.x, L.l1, L.l2, L.l3, pt] H1) (hid [L.x, L.l1, L.l2, L.l3, pt] (upd H2 pt (.lst (ys ++ [.ref p])))) := hid_mono fun b o hb h => by
    simp only [List.mem_cons, List.not_mem_nil, or_false, not_or] at hb
    rw [upd_ne hb.2.2.2.2]
    exact fr _ _ h hb.1 hb.2.1 hb.2.2.1 hb.2.2.2.1
  refine ⟨⟨sr2.other h0 n0 n1 n2 n3 (ts_lst hy2), I2, ⟨_, upd_same, A2.snoc (a2_monoS hm hA) ⟨p, zs, rfl, ?_, ?_⟩⟩, h.ok.row e2 hs r2⟩, e2⟩
  · rw [hid_out hpn, upd_ne m4]
    exact hp2
  · refine a2_monoS (fun b o h => ?_) hz
    obtain ⟨q1, q2⟩ := nw_some h
    obtain ⟨m0, m1, m2, m3⟩ := h1sr.out q1
    have m4 : b ≠ pt := (ne_of_none hy q1).symm
    rw [hid_out (by simp [m0, m1, m2, m3, m4]), upd_ne m4]
    exact q2
theorem place_cases (first : Sk) (st : SS) (s : Sk) (o : Option (Nat × Nat)) : (RwM.place first st s o).2 = st ∨ ((RwM.place first st s o).2.sk = st.sk ++ [s] ∧ (RwM.place first st s o).2.org = st.org ++ [o]) := by
  unfold RwM.place
  split
  · exact .inl rfl
  · exact .inr ⟨rfl, rfl⟩
theorem late_few {a : Sk} {e : List Sk} (ha : a.length ≤ 4) (he : ∀ q ∈ e, q.length = a.length) (h2 : e.length ≤ 2) : ∀ {l : List Sk}, (∀ q ∈ l, q.length = a.length) → (RwM.lateParts a e l).length ≤ 16 * l.length
  | [], _ => by simp [RwM.lateParts]
  | o :: l, h => by
    have ih := late_few ha he h2 (l := l) fun q hq => h q (List.mem_cons_of_mem _ hq)
    rw [late_cons, List.length_append, List.length_cons]
    cases em : RwM.meet a o with
    | none =>
      show 0 + _ ≤ _
      omega
    | some m =>
      have lm : m.length = a.length := RwM.meet_len (h o List.mem_cons_self).symm em
      have := without_few (a := m) (p := e) (by omega) (fun q hq => by rw [he q hq, lm]) h2
      show (RwM.without m e).length + _ ≤ _
      omega
theorem rebase {M : Mach} {piece : List Sk} {B B' : Nat → Sk → Prop} {st : SS} (I : SInv M piece B st) (h : ∀ k s, st.sk[k]? = some s → st.org[k]? = some none → B' k s) : SInv M piece B' st :=
  ⟨I.len, I.val, I.nd, I.fnd, I.nofnd, h, I.org⟩
theorem closed_rows {M : Mach} {piece : List Sk} {sk : List Sk} {table : Tab} (ok : MachOk M) (h : RwM.Closed M piece sk table) : ∀ r ∈ table, r.length ≤ 100000 := fun r hr => by
  obtain ⟨s, _, hs⟩ := A2.mem_l h hr
  have := hs.length
  have := ok.fewD
  omega
theorem IsOP.move {H H' : Hp} {a : Addr} {reach : List Sk} {cover : List Nat} {table : Tab} {sk : List Sk} {links : List (List Nat)} {steps : Tab} (h : IsOP c H a reach cover table sk links steps) (s : Same H H') : IsOP c H' a reach cover table sk links steps := by
  obtain ⟨dx, v1, v2, v3, v4, v5, v6, h0, h1, h2, h3, h4, h5, h6⟩ := h.ex
  exact ⟨⟨dx, v1, v2, v3, v4, v5, v6, s _ _ h0, MonoS.mono s h1, MonoS.mono s h2, MonoS.mono s h3, MonoS.mono s h4, MonoS.mono s h5, MonoS.mono s h6⟩⟩
theorem rep_flat (n i : Nat) : (List.replicate n [nV i]).flatten = (List.replicate n i).map nV := by
  rw [List.flatten_replicate_singleton, List.map_replicate]
end RwW
/-! readings, part 27: the program tells the order -/
namespace RwW
open PySem L2 RwR
open RwM (A2 Sk Dk Src Deed Mach SS vSk vDk MachOk DeedOk SInv OrgOk Ext)
variable {K : PySem.W.Frag} {c : Cs}

/-- the links so far -/
structure LinksAt (c : Cs) (H3 : Hp) (L2 : SLoc) (pl po : Addr) (M : Mach) (reach early late : List Sk) (k : Nat) (st : SS) (links : List (List Nat)) (owners : List Nat) (G : Hp) : Prop where
  sr : SrAt c H3 G L2 M early st
  inv : SInv M early (BO reach early late owners) st
  ls : ∃ yl, G pl = some (.lst yl) ∧ A2 (LstOf IsNat (hid [L2.x, L2.l1, L2.l2, L2.l3, pl, po] G)) yl links
  cov : A2 (fun e s => RwM.cov st.sk e (RwM.lateParts s early late)) links (reach.take k)
  own : G po = some (.lst (owners.map nV))
  len : owners.length = st.sk.length
  none_ : ∀ o ∈ st.org, o = none
theorem rd_tell_order (T : KF K c) (vs : List V) (H : Hp) (Q : VK) (E : XK) (h : spTell c vs H Q E) : t_tell_order K c { nx := fun _ H1 => Q .non H1, rt := Q } (start ["machine", "image", "early", "late", "reach", "cover", "table", "search", "links", "owners", "number", "sketch", "steps", "paper", "disk", "deeds", "start", "part"] vs) H := by
  obtain ⟨v1, v2, v3, v4, M, image, early, late, rfl, hM, ok, hI, vI, hE, vE, zE, hL, vL, zL, q⟩ := h
  have f4 := ok.few.2
  have lE : ∀ x ∈ early, x.length = M.sizes.length := fun x hx => RwM.vSk_len (vE x hx)
  have lL : ∀ x ∈ late, x.length = M.sizes.length := fun x hx => RwM.vSk_len (vL x hx)
  refine ⟨_, rfl, _, rfl, _, rfl, v1, v2, v3, M, image, early, rfl, hM, ok, hI, vI, hE, vE, fun H1 s1 => ?_⟩
  refine ⟨_, rfl, _, rfl, _, rfl, v1, v2, v4, M, image, late, rfl, MonoS.mono s1 hM, ok, MonoS.mono s1 hI, vI, MonoS.mono s1 hL, vL, fun H2 s2 => ?_⟩
  refine ⟨_, rfl, Nat.zero_le _, fun pe hpe => fun x dx hx hdx hne => ?_⟩
  have s0b : Same H (upd H2 pe (.lst [])) := (s1.trans s2).trans (same_new hpe)
  have hpe1 : (upd H2 pe (.lst [])) pe = some (.lst []) := upd_same
  generalize upd H2 pe (.lst []) = Hb at hx hdx s0b hpe1 ⊢
  refine ⟨x, dx, v1, .ref pe, M, [], Hb, rfl, upd_same, same_mut (same_new hdx) hx, hx, MonoS.mono s0b hM, ⟨pe, [], rfl, hpe1, .nil⟩, fun Ha L hLx hb sr => ⟨rfl, ?_⟩⟩
  subst hLx
  have hO : ∀ p ∈ RwM.without image [], ∀ st', Ext ⟨[], [], none⟩ st' → OrgOk M [] (fun _ s => s = image) st' none p := fun p hp st' _ => by
    have hp : p ∈ [image] := hp
    exact List.mem_singleton.mp hp
  have I0 := SInv.start M [] (fun _ s => s = image)
  refine ⟨_, rfl, L.x, _, _, rfl, sr.obj, rfl, _, rfl, ?_⟩
  refine ⟨Hb, L, M, [], ⟨[], [], none⟩, v2, .non, image, none, fun _ s => s = image, rfl, sr, ok, MonoS.mono (s0b.trans sr.same) hI, rfl, vI, I0, (fun _ h => nomatch h), Nat.zero_le _, hO, fun Hc v sr1 fr1 nl => ?_⟩
  obtain ⟨I1, _, cov1⟩ := RwM.placeAll_ok (o := none) ok (ps := RwM.without image []) I0 (fun s hs => by
    have hs : s ∈ [image] := hs
    rw [List.mem_singleton.mp hs]
    exact vI) hO
  generalize RwM.placeAll M.first none ⟨[], [], none⟩ (RwM.without image []) = pa at sr1 nl I1 cov1
  obtain ⟨cover, st1⟩ := pa
  obtain ⟨pc, yc, rfl, hpc0, hpc, hAc⟩ := nl
  obtain rfl := nat_a2 hAc
  obtain ⟨c0, c1, c2, c3⟩ := sr.out hpc0
  refine ⟨Nat.zero_le _, fun pt hpt => ?_⟩
  obtain ⟨t0, t1, t2, t3⟩ := sr1.out hpt
  have hptb := none_back sr1.same hpt
  have ntc : pc ≠ pt := ne_of_none hpc hpt
  refine ⟨fun m σ H3 => σ = [some v1, some v2, some v3, some v4, some (.ref L.x), some (.ref pc), some (.ref pt), none, none, none, none, none, none, none, none, none, none, none] ∧ ∃ (st : SS) (table : Tab), m = 4097 - table.length ∧ RowsAt c Hb L pt M [] (fun _ s => s = image) st table H3 ∧ H3 pc = some (.lst (cover.map nV)) ∧ RwM.cov st.sk cover [image],
    ⟨4097, rfl, st1, [], rfl, ⟨sr1.other hptb t0 t1 t2 t3 (ts_new hpt), I1, ⟨[], upd_same, .nil⟩, .nil⟩, (upd_ne ntc).trans hpc, cov1⟩, ?_⟩
  rintro m σ H3 ⟨rfl, st, table, rfl, R, hpc3, cv⟩
  obtain ⟨ys, hy, hA⟩ := R.tb
  have la := hA.length
  have few := SInv.few ok R.inv
  obtain ⟨zs, hzs, hAz⟩ := R.sr.sk
  have lz := hAz.length
  refine ⟨_, rfl, pt, ys, rfl, .inl (sqL hy), _, rfl, L.x, _, _, _, _, rfl, R.sr.obj, T.clS, T.s_sketches, rfl, L.l2, zs, rfl, .inl (sqL hzs), _, _, rfl, rfl, _, rfl, if_b (fun e => ?_) fun e => ?_⟩
  · have e : ys.length < zs.length := of_decide_eq_true e
    have hs := List.getElem?_eq_getElem (show table.length < st.sk.length by omega)
    generalize st.sk[table.length] = s at hs
    refine ⟨fun σ H4 => σ = [some v1, some v2, some v3, some v4, some (.ref L.x), some (.ref pc), some (.ref pt), none, none, none, none, none, none, none, none, none, none, none] ∧ ∃ (st : SS) (table' : Tab), table'.length = table.length + 1 ∧ RowsAt c Hb L pt M [] (fun _ s => s = image) st table' H4 ∧ H4 pc = some (.lst (cover.map nV)) ∧ RwM.cov st.sk cover [image], ?_, ?_⟩
    · rintro σ' H' ⟨h1, st', table', h2, h3, h4, h5⟩
      exact ⟨4097 - table'.length, by omega, h1, st', table', rfl, h3, h4, h5⟩
    · refine ⟨_, rfl, .inl ⟨rfl, _, sqL hy⟩, _, rfl, L.x, _, _, rfl, R.sr.obj, rfl, _, rfl, pt, ys, rfl, .inl (sqL hy), ?_⟩
      rw [la]
      refine ⟨Hb, L, M, [], st, s, table.length, fun _ s => s = image, rfl, R.sr, ok, R.inv, (fun _ h => nomatch h), Nat.zero_le _, hs, fun H4 v sr4 f4 nl => ?_⟩
      obtain ⟨R4, e4⟩ := RowsAt.row (piece := []) ok (by simp) R hptb hs hy hA t0 t1 t2 t3 sr4 f4 nl
      refine ⟨pt, _, _, rfl, rfl, f4 _ _ hy t0 t1 t2 t3, sz_lt' (by omega), rfl, _, _, by rw [List.length_append, List.length_singleton], R4, ?_, RwM.cov.mono cv e4⟩
      rw [upd_ne ntc]
      exact f4 _ _ hpc3 c0 c1 c2 c3
  have e : ¬ (ys.length < zs.length) := of_decide_eq_false e
  have clo1 : RwM.Closed M [] st.sk table := R.ok.closed (by omega)
  have I1 := R.inv
  -- the second search
  refine ⟨_, rfl, _, rfl, fun x2 dx2 hx2 hdx2 hne2 => ?_⟩
  have s03 : Same H H3 := s0b.trans R.sr.same
  refine ⟨x2, dx2, v1, v3, M, early, H3, rfl, upd_same, same_mut (same_new hdx2) hx2, hx2, MonoS.mono s03 hM, MonoS.mono s03 hE, fun H5 L2 hL2 hb5 sr5 => ⟨rfl, ?_⟩⟩
  subst hL2
  have cv1 : LstOf IsNat H3 (.ref pc) cover := ⟨pc, _, rfl, hpc3, a2_nat _⟩
  have tb1 : IsTabL H3 (.ref pt) table := ⟨pt, ys, rfl, hy, lst_up hA⟩
  have rl1 : LstOf IsN H3 (.ref L.l2) st.sk := ⟨L.l2, zs, rfl, hzs, hAz⟩
  -- the links
  refine ⟨Nat.zero_le _, fun pl hpl => ⟨Nat.zero_le _, fun po hpo => ?_⟩⟩
  have s56 : Same H5 (upd H5 pl (.lst [])) := same_new hpl
  have sr6 := sr5.move s56
  obtain ⟨l0, l1, l2, l3⟩ := sr5.out hpl
  obtain ⟨o0, o1, o2, o3⟩ := sr6.out hpo
  have npo : pl ≠ po := ne_of_none upd_same hpo
  have hpl3 := none_back sr5.same hpl
  have hpo3 := none_back sr6.same hpo
  have sr7 := sr6.move (same_new (o := .lst []) hpo)
  have I20 : SInv M early (BO st.sk early late []) ⟨[], [], none⟩ := SInv.start M early _
  have ob0 := sr7.same _ _ R.sr.obj
  refine ⟨_, rfl, L.x, _, _, _, _, rfl, ob0, T.clS, T.s_sketches, rfl, L.l2, zs, rfl, sqL (sr7.same _ _ hzs), ?_⟩
  refine for_over (over_enum hAz) (fun r σ G => ∃ (k : Nat) (st2 : SS) (links : List (List Nat)) (owners : List Nat) (u10 u11 : Option V), r = st.sk.zipIdx.drop k ∧ k ≤ st.sk.length ∧ σ = [some v1, some v2, some v3, some v4, some (.ref L.x), some (.ref pc), some (.ref pt), some (.ref L2.x), some (.ref pl), some (.ref po), u10, u11, none, none, none, none, none, none] ∧
      LinksAt c H3 L2 pl po M st.sk early late k st2 links owners G)
    ⟨0, ⟨[], [], none⟩, [], [], _, _, rfl, Nat.zero_le _, rfl, sr7, I20, ⟨[], (upd_ne npo).trans upd_same, .nil⟩, .nil, upd_same, rfl, (fun _ h => nomatch h)⟩ (fun r σ G p => by
      obtain ⟨_, _, _, _, _, _, _, _, _, la⟩ := p
      exact sqL (la.sr.same _ _ hzs)) ?_ ?_
  · rintro ⟨s, i⟩ r w σ G1 G2 hmm ⟨k, st2, links, owners, u10, u11, hr, hk, rfl, LA⟩ ⟨T', sv, rfl, hT, rfl, hsv⟩
    have hk1 : k < st.sk.length := by
      refine Nat.lt_of_not_le fun z => ?_
      rw [List.drop_eq_nil_of_le (by simpa using z)] at hr
      cases hr
    have hr2 : st.sk.zipIdx.drop k = (st.sk[k], k) :: st.sk.zipIdx.drop (k + 1) := by
      rw [List.drop_eq_getElem_cons (by simpa using hk1)]
      simp
    rw [hr2] at hr
    injection hr with e1 e2
    injection e1 with e1 e3
    subst e3
    have hsk : st.sk[i]? = some s := by rw [e1]; exact List.getElem?_eq_getElem _
    have vs := I1.val s (List.mem_of_getElem? hsk)
    have ls := RwM.vSk_len vs
    have sT : Same G1 (upd G1 T' (.tup [nV i, sv])) := same_new hT
    refine ⟨T', _, rfl, sqT upd_same, rfl, _, _, rfl, _, _, rfl, rfl, ?_⟩
    generalize upd G1 T' (.tup [nV i, sv]) = G2 at sT ⊢
    have srG2 := LA.sr.move sT
    have s3G2 := srG2.same
    have s0G2 := s03.trans s3G2
    obtain ⟨yl, hyl, hAl⟩ := LA.ls
    have hyl2 := sT _ _ hyl
    have hown2 := sT _ _ LA.own
    have lpz := late_few (a := s) (e := early) (l := late) (by omega) (fun x hx => by rw [lE x hx, ls]) zE (fun x hx => by rw [lL x hx, ls])
    have lpv := RwM.vSk_late (early := early) (late := late) vs lE lL
    refine ⟨_, rfl, .inl ⟨rfl, _, sqL hyl2⟩, ?_⟩
    refine ⟨_, rfl, _, rfl, _, rfl, sv, v3, v4, s, early, late, rfl, MonoS.mono s3G2 hsv, MonoS.mono s0G2 hE, MonoS.mono s0G2 hL, fun x hx => by rw [lE x hx, ls], fun x hx => by rw [lL x hx, ls], by omega, zE, zL, fun G3 w3 s3 hn3 => ?_⟩
    obtain ⟨pw, ws, rfl, hpw, hw3, hAw⟩ := hn3
    refine ⟨pw, rfl, ⟨_, sqL hw3⟩, fun D hD => ?_⟩
    have srG3 := srG2.move s3
    have hDH := none_back srG3.same hD
    obtain ⟨d0, d1, d2, d3⟩ := srG3.out hD
    obtain ⟨w0, w1, w2, w3⟩ := srG2.out hpw
    have hyl3 := s3 _ _ hyl2
    have hown3 := s3 _ _ hown2
    have dpl : D ≠ pl := (ne_of_none hyl3 hD).symm
    have dpo : D ≠ po := (ne_of_none hown3 hD).symm
    have few2 := SInv.few ok LA.inv
    have hlen2 := LA.len
    generalize hlp : RwM.lateParts s early late = lp at lpz lpv hAw
    refine lc_over (over_list hAw) (fun r' G => SFr L2 G3 G ∧ ∃ (st3 : SS) (xs : List Nat) (done : List Sk), SrAt c H3 G L2 M early st3 ∧ SInv M early (fun _ _ => True) st3 ∧ Ext st2 st3 ∧ G D = some (.lst (xs.map nV)) ∧ done ++ r' = lp ∧ RwM.cov st3.sk xs done ∧
        (∀ k t, st2.sk.length ≤ k → st3.sk[k]? = some t → t ∈ lp) ∧ ∀ o ∈ st3.org, o = none)
      ⟨sfr_same (same_new hD), st2, [], [], srG3.move (same_new hD), rebase LA.inv (fun _ _ _ _ => trivial), Ext.refl _, upd_same, rfl, .nil, fun k t h1 h2 => by have := (List.getElem?_eq_some_iff.mp h2).1; omega, LA.none_⟩ (fun r' G p => sqL (p.1 _ _ hw3 w0 w1 w2 w3)) ?_ ?_
    · rintro t r' x _ G hmt ⟨f3, st3, xs, done, srG, I3, e3, hdG, hdone, hcov, hnew, hno⟩ ⟨rfl, hx⟩
      have few3 := SInv.few ok I3
      have hl3 := I3.len
      have tG : Ts G3 G := srG3.ts f3
      have vt := lpv t hmt
      have hxl := hcov.length
      have hdl := congrArg List.length hdone
      rw [List.length_append, List.length_cons] at hdl
      refine ⟨rfl, yes_ ?_⟩
      refine ⟨_, rfl, L2.x, _, _, rfl, srG.obj, rfl, _, rfl, H3, L2, M, early, st3, x, .non, t, none, rfl, srG, ok, MonoT.mono tG hx, rfl, vt, by omega, by omega, fun G4 srG4 fG4 => ?_⟩
      obtain ⟨I4, e4, tt, ht1, ht2⟩ := RwM.place_ok (o := none) ok I3 vt trivial
      have hd4 := fG4 _ _ hdG d0 d1 d2 d3
      refine ⟨_, hd4, sz_lt' (by rw [List.length_map]; omega), ?_, (RwM.place M.first st3 t none).2, xs ++ [(RwM.place M.first st3 t none).1], done ++ [t], srG4.other hDH d0 d1 d2 d3 (ts_lst hd4), I4, e3.trans e4, ?_, ?_, ?_, ?_, ?_⟩
      · intro b u hb b0 b1 b2 b3
        rw [upd_ne (ne_of_none hb hD)]
        exact fG4 _ _ (f3 _ _ hb b0 b1 b2 b3) b0 b1 b2 b3
      · rw [upd_same, List.map_append]
        rfl
      · rw [← hdone, List.append_assoc]
        rfl
      · exact A2.snoc (RwM.cov.mono hcov e4) ⟨tt, ht1, ht2⟩
      · intro k t' hk ht'
        rcases place_cases M.first st3 t none with e | ⟨e, _⟩
        · rw [e] at ht'
          exact hnew k t' hk ht'
        · rw [e] at ht'
          rcases RwM.snoc_get ht' with h | ⟨_, h⟩
          · exact hnew k t' hk h
          · rw [h]
            exact hmt
      · intro o ho
        rcases place_cases M.first st3 t none with e | ⟨_, e⟩
        · rw [e] at ho
          exact hno o ho
        · rw [e] at ho
          rcases List.mem_append.mp ho with h | h
          · exact hno o h
          · exact List.mem_singleton.mp h
    · rintro G ⟨f3, st3, xs, done, srG, I3, e3, hdG, hdone, hcov, hnew, hno⟩
      rw [List.append_nil] at hdone
      subst hdone
      have few3 := SInv.few ok I3
      have hylG := f3 _ _ hyl3 l0 l1 l2 l3
      have hownG := f3 _ _ hown3 o0 o1 o2 o3
      have lyl := hAl.length
      have lcv := LA.cov.length
      rw [List.length_take] at lcv
      have few1 := SInv.few ok I1
      refine ⟨pl, _, _, rfl, rfl, hylG, sz_lt' (by omega), ?_⟩
      have hownA : (upd G pl (.lst (yl ++ [.ref D]))) po = some (.lst (owners.map nV)) := (upd_ne npo.symm).trans hownG
      have srA : SrAt c H3 (upd G pl (.lst (yl ++ [.ref D]))) L2 M early st3 := srG.other hpl3 l0 l1 l2 l3 (ts_lst hylG)
      have hylA : (upd G pl (.lst (yl ++ [.ref D]))) pl = some (.lst (yl ++ [.ref D])) := upd_same
      have hdA : (upd G pl (.lst (yl ++ [.ref D]))) D = some (.lst (xs.map nV)) := (upd_ne dpl).trans hdG
      have fA : ∀ b o, b ∉ [L2.x, L2.l1, L2.l2, L2.l3, pl, po] → G1 b = some o → (upd G pl (.lst (yl ++ [.ref D]))) b = some o := fun b o hb h => by
        simp only [List.mem_cons, List.not_mem_nil, or_false, not_or] at hb
        rw [upd_ne hb.2.2.2.2.1]
        exact f3 _ _ (s3 _ _ (sT _ _ h)) hb.1 hb.2.1 hb.2.2.1 hb.2.2.2.1
      generalize upd G pl (.lst (yl ++ [.ref D])) = GA at hownA srA hylA hdA fA ⊢
      refine ⟨.ref po, rfl, _, rfl, by show 1 ≤ sizeLine; decide, fun p1 hp1 => ?_⟩
      have sB := same_new (o := .lst [nV i]) hp1
      have srB := srA.move sB
      obtain ⟨zs2, hzs2, hAz2⟩ := srB.sk
      have lz2 := hAz2.length
      have hle : owners.length ≤ st3.sk.length := by
        have := e3.le
        omega
      refine ⟨_, rfl, L2.x, _, _, _, _, rfl, srB.obj, T.clS, T.s_sketches, rfl, L2.l2, zs2, rfl, .inl (sqL hzs2), _, rfl, po, _, rfl, .inl (sqL (sB _ _ hownA)), _, _, rfl, rfl, by rw [List.length_map]; omega, ?_⟩
      rw [List.length_map, lz2]
      refine ⟨p1, ((st3.sk.length - owners.length : Nat) : Int), [nV i], rfl, rfl, upd_same, by omega, by omega, ?_, fun p2 hp2 => ?_⟩
      · rw [Int.toNat_natCast]
        show 1 * _ ≤ _
        exact sz12 (by omega)
      rw [Int.toNat_natCast, rep_flat]
      have sC := same_new (o := .lst ((List.replicate (st3.sk.length - owners.length) i).map nV)) hp2
      have hownC := sC _ _ (sB _ _ hownA)
      have srC := srB.move sC
      refine ⟨po, p2, _, _, rfl, rfl, hownC, upd_same, sz12 (by rw [List.length_map, List.length_map, List.length_replicate]; omega), ?_⟩
      have tF := ts_lst (o := .lst (owners.map nV ++ (List.replicate (st3.sk.length - owners.length) i).map nV)) hownC
      have hmono : Same (hid [L2.x, L2.l1, L2.l2, L2.l3, pl, po] G1) (hid [L2.x, L2.l1, L2.l2, L2.l3, pl, po] (upd (upd (upd GA p1 (.lst [nV i])) p2 (.lst ((List.replicate (st3.sk.length - owners.length) i).map nV))) po (.lst (owners.map nV ++ (List.replicate (st3.sk.length - owners.length) i).map nV)))) := hid_mono fun b o hb h => by
        have hb2 := hb
        simp only [List.mem_cons, List.not_mem_nil, or_false, not_or] at hb2
        rw [upd_ne hb2.2.2.2.2.2]
        exact sC _ _ (sB _ _ (fA b o hb h))
      have hDn : D ∉ [L2.x, L2.l1, L2.l2, L2.l3, pl, po] := by simp [d0, d1, d2, d3, dpl, dpo]
      have hDF : hid [L2.x, L2.l1, L2.l2, L2.l3, pl, po] (upd (upd (upd GA p1 (.lst [nV i])) p2 (.lst ((List.replicate (st3.sk.length - owners.length) i).map nV))) po (.lst (owners.map nV ++ (List.replicate (st3.sk.length - owners.length) i).map nV))) D = some (.lst (xs.map nV)) := by
        rw [hid_out hDn, upd_ne dpo]
        exact sC _ _ (sB _ _ hdA)
      have lown : (owners ++ List.replicate (st3.sk.length - owners.length) i).length = st3.sk.length := by
        rw [List.length_append, List.length_replicate]
        omega
      have hIF : SInv M early (BO st.sk early late (owners ++ List.replicate (st3.sk.length - owners.length) i)) st3 := by
        refine rebase I3 fun k t hk ho => ?_
        have hk3 := (List.getElem?_eq_some_iff.mp hk).1
        by_cases hkl : k < st2.sk.length
        · have hk2 := List.getElem?_eq_getElem hkl
          have hkk := e3.get hk2
          rw [hk] at hkk
          cases hkk
          have ho2 : st2.org[k]? = some none := by
            have hol : k < st2.org.length := by rw [LA.inv.len]; exact hkl
            rw [List.getElem?_eq_getElem hol, LA.none_ _ (List.getElem_mem hol)]
          obtain ⟨o, r, h1, h2, h3⟩ := LA.inv.base k _ hk2 ho2
          exact ⟨o, r, by rw [List.getElem?_append_left (by omega)]; exact h1, h2, h3⟩
        · refine ⟨i, s, ?_, hsk, ?_⟩
          · rw [List.getElem?_append_right (by omega), List.getElem?_replicate, if_pos (by omega)]
          · rw [hlp]
            exact hnew k t (by omega) hk
      refine ⟨i + 1, st3, links ++ [xs], owners ++ List.replicate (st3.sk.length - owners.length) i, _, _, e2, hk1, rfl, srC.other hpo3 o0 o1 o2 o3 tF, hIF, ⟨_, (upd_ne npo).trans (sC _ _ (sB _ _ hylA)), A2.snoc (a2_monoS hmono hAl) ⟨D, _, rfl, hDF, a2_nat _⟩⟩, ?_, ?_, lown, hno⟩
      · rw [List.take_add_one, hsk]
        refine A2.snoc (A2.imp (fun _ _ h => RwM.cov.mono h e3) LA.cov) ?_
        rw [hlp]
        exact hcov
      · rw [upd_same, List.map_append]
  rintro σ G ⟨k, st2, links, owners, u10, u11, hr, hk, rfl, LA⟩
  have hk2 : st.sk.length ≤ k := by
    refine Nat.le_of_not_lt fun z => ?_
    rw [List.drop_eq_getElem_cons (by simpa using z)] at hr
    cases hr
  have hcovL := LA.cov
  rw [List.take_of_length_le hk2] at hcovL
  have hlinkrows : ∀ r ∈ links, True := fun _ _ => trivial
  obtain ⟨yl, hyl, hAl⟩ := LA.ls
  -- the steps
  refine ⟨Nat.zero_le _, fun ps hps => ?_⟩
  obtain ⟨p0, p1, p2, p3⟩ := LA.sr.out hps
  have hps3 := none_back LA.sr.same hps
  have npl : ps ≠ pl := (ne_of_none hyl hps).symm
  have npp : ps ≠ po := (ne_of_none LA.own hps).symm
  have few1 := SInv.few ok I1
  have ll := hcovL.length
  have hAl0 : A2 (LstOf IsNat (hid [L2.x, L2.l1, L2.l2, L2.l3, ps] (upd G ps (.lst [])))) yl links := a2_monoS (fun b o h => by
    obtain ⟨hb, hg⟩ := hid_some h
    simp only [List.mem_cons, List.not_mem_nil, or_false, not_or] at hb
    have hbp : b ≠ ps := ne_of_none hg hps
    rw [hid_out (by simp [hb.1, hb.2.1, hb.2.2.1, hb.2.2.2.1, hbp]), upd_ne hbp]
    exact hg) hAl
  refine ⟨fun m σ G1 => σ = [some v1, some v2, some v3, some v4, some (.ref L.x), some (.ref pc), some (.ref pt), some (.ref L2.x), some (.ref pl), some (.ref po), u10, u11, some (.ref ps), none, none, none, none, none] ∧ ∃ (st2 : SS) (steps : Tab), m = 4097 - steps.length ∧ RowsAt c H3 L2 ps M early (BO st.sk early late owners) st2 steps G1 ∧
      G1 pl = some (.lst yl) ∧ A2 (LstOf IsNat (hid [L2.x, L2.l1, L2.l2, L2.l3, ps] G1)) yl links ∧ A2 (fun e s => RwM.cov st2.sk e (RwM.lateParts s early late)) links st.sk ∧ G1 po = some (.lst (owners.map nV)),
    ⟨4097, rfl, st2, [], rfl, ⟨LA.sr.other hps3 p0 p1 p2 p3 (ts_new hps), LA.inv, ⟨[], upd_same, .nil⟩, .nil⟩, (upd_ne npl.symm).trans hyl, hAl0, hcovL, (upd_ne npp.symm).trans LA.own⟩, ?_⟩
  rintro m σ G1 ⟨rfl, st3, steps, rfl, R2, hpl1, hAl1, hcov3, hpo1⟩
  obtain ⟨ys2, hy2, hA2⟩ := R2.tb
  have la2 := hA2.length
  have few2 := SInv.few ok R2.inv
  obtain ⟨zs2, hzs2, hAz2⟩ := R2.sr.sk
  have lz2 := hAz2.length
  have ob := R2.sr.obj
  have s3G := R2.sr.same
  have obL := s3G _ _ R.sr.obj
  cases ef : st3.fnd with
  | none =>
    rw [ef] at ob
    refine ⟨_, rfl, L2.x, _, _, _, _, rfl, ob, T.clS, T.s_found, rfl, -1, 0, rfl, rfl, _, rfl, if_yes (by decide) ?_⟩
    refine ⟨_, rfl, ps, ys2, rfl, .inl (sqL hy2), _, rfl, L2.x, _, _, _, _, rfl, ob, T.clS, T.s_sketches, rfl, L2.l2, zs2, rfl, .inl (sqL hzs2), _, _, rfl, rfl, _, rfl, if_b (fun e => ?_) fun e => ?_⟩
    · have e : ys2.length < zs2.length := of_decide_eq_true e
      have hs := List.getElem?_eq_getElem (show steps.length < st3.sk.length by omega)
      generalize st3.sk[steps.length] = s at hs
      refine ⟨fun σ G2 => σ = [some v1, some v2, some v3, some v4, some (.ref L.x), some (.ref pc), some (.ref pt), some (.ref L2.x), some (.ref pl), some (.ref po), u10, u11, some (.ref ps), none, none, none, none, none] ∧ ∃ (st2 : SS) (steps' : Tab), steps'.length = steps.length + 1 ∧ RowsAt c H3 L2 ps M early (BO st.sk early late owners) st2 steps' G2 ∧
          G2 pl = some (.lst yl) ∧ A2 (LstOf IsNat (hid [L2.x, L2.l1, L2.l2, L2.l3, ps] G2)) yl links ∧ A2 (fun e s => RwM.cov st2.sk e (RwM.lateParts s early late)) links st.sk ∧ G2 po = some (.lst (owners.map nV)), ?_, ?_⟩
      · rintro σ' H' ⟨h1, st', steps', h2, h3, h4, h5, h6, h7⟩
        exact ⟨4097 - steps'.length, by omega, h1, st', steps', rfl, h3, h4, h5, h6, h7⟩
      · refine ⟨_, rfl, .inl ⟨rfl, _, sqL hy2⟩, _, rfl, L2.x, _, _, rfl, R2.sr.obj, rfl, _, rfl, ps, ys2, rfl, .inl (sqL hy2), ?_⟩
        rw [la2]
        refine ⟨H3, L2, M, early, st3, s, steps.length, BO st.sk early late owners, rfl, R2.sr, ok, R2.inv, lE, zE, hs, fun G4 v sr4 f4 nl => ?_⟩
        obtain ⟨R4, e4⟩ := RowsAt.row ok lE R2 hps3 hs hy2 hA2 p0 p1 p2 p3 sr4 f4 nl
        refine ⟨ps, _, _, rfl, rfl, f4 _ _ hy2 p0 p1 p2 p3, sz_lt' (by omega), rfl, _, _, by rw [List.length_append, List.length_singleton], R4, ?_, ?_, ?_, ?_⟩
        · rw [upd_ne npl.symm]
          exact f4 _ _ hpl1 l0 l1 l2 l3
        · refine a2_monoS (hid_mono fun b o hb h => ?_) hAl1
          simp only [List.mem_cons, List.not_mem_nil, or_false, not_or] at hb
          rw [upd_ne hb.2.2.2.2]
          exact f4 _ _ h hb.1 hb.2.1 hb.2.2.1 hb.2.2.2.1
        · exact A2.imp (fun _ _ h => RwM.cov.mono h e4) hcov3
        · rw [upd_ne npp.symm]
          exact f4 _ _ hpo1 o0 o1 o2 o3
    · have e : ¬ (ys2.length < zs2.length) := of_decide_eq_false e
      have clo2 : RwM.Closed M early st3.sk steps := R2.ok.closed (by omega)
      refine ⟨_, rfl, L2.x, _, _, _, _, rfl, ob, T.clS, T.s_found, rfl, -1, 0, rfl, rfl, _, rfl, if_yes (by decide) ?_⟩
      refine ⟨_, rfl, L.x, _, _, _, _, rfl, obL, T.clS, T.s_sketches, rfl, _, rfl, _, rfl, _, rfl, L2.x, _, _, _, _, rfl, ob, T.clS, T.s_sketches, rfl, _, rfl, _, rfl, fun xo dxo hxo hdxo hneo => ?_⟩
      have sX := same_mut (o := .ins c.OP dxo []) (same_new (o := .own xo) hdxo) hxo
      refine ⟨xo, dxo, .ref L.l2, .ref pc, .ref pt, .ref L2.l2, .ref pl, .ref ps, st.sk, cover, table, st3.sk, links, steps, G1, rfl, upd_same, sX, hxo, MonoS.mono s3G rl1, MonoS.mono s3G cv1, MonoS.mono s3G tb1, ⟨L2.l2, zs2, rfl, hzs2, hAz2⟩, ⟨pl, yl, rfl, hpl1, lst_up hAl1⟩, ⟨ps, ys2, rfl, hy2, lst_up hA2⟩, by omega, by omega, by omega, by have := clo1.length; omega, by have := clo2.length; omega, closed_rows ok clo1, closed_rows ok clo2, fun G2 hb2 op => ⟨rfl, ?_⟩⟩
      have sG2 : Same G1 G2 := fun b o h => hb2 b o (sX b o h) (ne_of_none h hxo)
      refine ⟨_, rfl, fun xa dxa hxa hdxa hnea => ?_⟩
      have sY := same_mut (o := .ins c.OA dxa []) (same_new (o := .own xa) hdxa) hxa
      refine ⟨xa, dxa, .bl true, .ref xo, .non, .non, .non, G2, rfl, upd_same, sY, hxa, .inl ⟨rfl, fun G3 hb3 h3 => ⟨rfl, ?_⟩⟩⟩
      have sG3 : Same G2 G3 := fun b o h => hb3 b o (sY b o h) (ne_of_none h hxa)
      exact q G3 xa (((s03.trans s3G).trans sG2).trans sG3) (.told h3 (op.move sG3) I1.val R2.inv.val cv clo1 (R2.inv.nofnd ef) hcov3 clo2 few few2)
  | some k3 =>
    rw [ef] at ob
    obtain ⟨s, mm, hks, hms⟩ := R2.inv.fnd k3 ef
    have hkl := (List.getElem?_eq_some_iff.mp hks).1
    obtain ⟨ds, start', hway⟩ := RwM.way_ex R2.inv k3 hkl
    have hdl := (way_len R2.inv hway hkl).1
    obtain ⟨o, ls, fin, ho, hol, hw1, hls, dm, de, vd, hin, r1, hlate, r2, him⟩ := open_runs ok vE vL I1 R2.inv hks hms hway
    refine ⟨_, rfl, L2.x, _, _, _, _, rfl, ob, T.clS, T.s_found, rfl, (k3 : Int), 0, rfl, rfl, _, rfl, if_no (by omega) (iteF ?_)⟩
    refine ⟨_, rfl, L2.x, _, _, _, _, rfl, ob, T.clS, T.s_found, rfl, (k3 : Int), 0, rfl, rfl, _, rfl, if_no (by omega) ?_⟩
    refine ⟨_, rfl, L2.x, _, _, rfl, ob, rfl, ?_⟩
    refine ⟨H3, L2, M, early, st3, k3, s, mm, start', ds, BO st.sk early late owners, rfl, R2.sr, ok, R2.inv, ef, hks, hms, hway, fun G2 a dv l sG ha hdv hl hl0 => ?_⟩
    refine ⟨a, _, rfl, sqT ha, rfl, _, _, rfl, _, _, rfl, rfl, ?_⟩
    have sr2 := R2.sr.move sG
    have ob2 := sG _ _ ob
    obtain ⟨zo, hzo, hAo⟩ := sr2.og
    refine ⟨_, rfl, L2.x, _, _, _, _, rfl, ob2, T.clS, T.s_found, rfl, ?_⟩
    refine ⟨fun m σ G3 => ∃ (k' : Nat) (ds' : List Nat), m = ds'.length ∧ σ = [some v1, some v2, some v3, some v4, some (.ref L.x), some (.ref pc), some (.ref pt), some (.ref L2.x), some (.ref pl), some (.ref po), u10, u11, some (.ref ps), none, some dv, some (.ref l), some (nV k'), none] ∧ G3 = G2 ∧ RwM.Way st3 k' ds' start' ∧ k' < st3.sk.length, ⟨ds.length, k3, ds, rfl, rfl, rfl, hway, hkl⟩, ?_⟩
    rintro m σ G3 ⟨k', ds', rfl, rfl, rfl, hw', hk'⟩
    cases hw' with
    | @cons _ d j dr _ hor hw' =>
      obtain ⟨w, hwz, hwo⟩ := A2.get_r hAo hor
      obtain ⟨b, rfl, hb⟩ : IsPair G3 w (d, j) := hwo
      refine ⟨_, rfl, L2.x, _, _, _, _, rfl, ob2, T.clS, T.s_origins, rfl, _, rfl, L2.l3, _, _, _, rfl, rfl, sqL hzo, at_nat hwz, _, rfl, if_is (c := true) rfl (fun _ => ?_) fun z => nomatch z⟩
      refine ⟨fun σ G4 => ∃ (k' : Nat), σ = [some v1, some v2, some v3, some v4, some (.ref L.x), some (.ref pc), some (.ref pt), some (.ref L2.x), some (.ref pl), some (.ref po), u10, u11, some (.ref ps), none, some dv, some (.ref l), some (nV k'), none] ∧ G4 = G3 ∧ RwM.Way st3 k' dr start' ∧ k' < st3.sk.length, ?_, ?_⟩
      · rintro σ' H' ⟨k2, h1, h2, h3, h4⟩
        exact ⟨dr.length, by rw [List.length_cons]; omega, k2, dr, rfl, h1, h2, h3, h4⟩
      · exact ⟨_, rfl, L2.x, _, _, _, _, rfl, ob2, T.clS, T.s_origins, rfl, _, rfl, L2.l3, _, _, _, rfl, rfl, sqL hzo, at_nat hwz, b, _, _, _, rfl, rfl, sqT hb, at_nat (j := 1) rfl, j, rfl, rfl, hw', way_lt R2.inv hk' hor⟩
    | nil hor =>
      obtain ⟨w, hwz, hwo⟩ := A2.get_r hAo hor
      obtain rfl : w = .non := hwo
      refine ⟨_, rfl, L2.x, _, _, _, _, rfl, ob2, T.clS, T.s_origins, rfl, _, rfl, L2.l3, _, _, _, rfl, rfl, sqL hzo, at_nat hwz, _, rfl, if_is (c := false) rfl (fun z => nomatch z) fun _ => ?_⟩
      have hpo2 := sG _ _ hpo1
      have s3G3 := s3G.trans sG
      refine ⟨_, rfl, _, rfl, _, rfl, _, rfl, _, rfl, po, _, _, _, rfl, rfl, sqL hpo2, at_nat (map_at ho), ?_⟩
      refine ⟨Hb, L, M, [], st, o, fin, ls, fun _ s => s = image, rfl, R.sr.move s3G3, I1, hol, by omega, hw1, fun G4 w4 s4 nl4 => ?_⟩
      obtain ⟨p4, y4, rfl, hp4, h4, hA4⟩ := nl4
      obtain rfl := nat_a2 hA4
      have hl4 := s4 _ _ hl
      refine ⟨l, p4, _, _, rfl, rfl, hl4, h4, sz12 (by rw [List.length_map, List.length_map]; omega), fun p5 hp5 => ?_⟩
      have s5 := same_new (o := .lst (ds.map nV ++ ls.map nV)) hp5
      have h5 : (upd G4 p5 (.lst (ds.map nV ++ ls.map nV))) p5 = some (.lst ((ds ++ ls).map nV)) := by rw [upd_same, List.map_append]
      refine ⟨_, rfl, l, _, rfl, .inl (sqL (s5 _ _ hl4)), fun xa dxa hxa hdxa hnea => ?_⟩
      rw [List.length_map]
      generalize upd G4 p5 (.lst (ds.map nV ++ ls.map nV)) = G5 at s5 h5 hxa hdxa ⊢
      have sY := same_mut (o := .ins c.OA dxa []) (same_new (o := .own xa) hdxa) hxa
      refine ⟨xa, dxa, .bl false, .non, dv, .ref p5, nV ds.length, G5, rfl, upd_same, sY, hxa, .inr ⟨ds ++ ls, ⟨p5, _, rfl, h5, a2_nat _⟩, by rw [List.length_append]; omega, fun G6 wv hb6 h6 hw6 => ⟨rfl, ?_⟩⟩⟩
      have sG6 : Same G5 G6 := fun b u h => hb6 b u (sY b u h) (ne_of_none h hxa)
      have s26 := s4.trans (s5.trans sG6)
      exact q G6 xa ((s03.trans s3G3).trans s26) (.open_ h6 (MonoS.mono s26 hdv) hw6 vd hin r1 hlate r2 him (by rw [List.length_append]; omega))
end RwW
/-! readings, part 28: the law -/
namespace RwW
open PySem L2 RwR
open RwM (A2 Sk Dk Src Deed Mach SS vSk vDk MachOk DeedOk SInv OrgOk Ext)
variable {K : PySem.W.Frag} {c : Cs}

/-- the law behind its drawn question -/
def t_law2 (K : PySem.W.Frag) (c : Cs) : L2.TS := (tSeq (tAsg (tTup (tCons (tCB (rList1 K) (tCons (tVar 7) tNil)) (tCons (tCB (rList1 K) (tCons (tVar 8) tNil)) tNil))) (gName 9))
  (tSeq (tAsg (tCall (spTell c) [] E0 (tCons (tVar 5) (tCons (tVar 6) (tCons (tOp (rIxT K) (tVar 9) (tC (nV 0))) (tCons (tOp (rIxT K) (tVar 9) (tC (nV 1))) tNil))))) (gName 10))
  (tSeq (tAsg (tCall (lDis) [] E0 (tCons (tVar 2) (tCons (tVar 3) (tCons (tVar 6) (tCons (tVar 7) (tCons (tVar 8) tNil)))))) (gName 11))
  (tSeq (tIfS (tOr (tTest (tOp (rNeD K) (tVar 9) (tTup (tCons (tVar 7) (tCons (tVar 8) tNil))))) (tOr (tNot (tB (tCB (rIsi1 K "bool") (tCons (tFld K (tVar 10) "told") (tCons (tC (.ty "bool")) tNil))))) (tTest (tOp rEq (tFld K (tVar 10) "told") (tVar 11))))) (tRet (tC (.bl false)))
  tNext)
  (tSeq (tIfS (tB (tFld K (tVar 10) "told")) (tSeq (tIfS (tTest (tOp (rNeD K) (tTup (tCons (tFld K (tVar 10) "disk") (tCons (tFld K (tVar 10) "deeds") (tCons (tFld K (tVar 10) "moment") tNil)))) (tTup (tCons (tC .non) (tCons (tC .non) (tCons (tC .non) tNil)))))) (tRet (tC (.bl false)))
  tNext)
  (tRet (tCall (lOrder c) [] E0 (tCons (tVar 2) (tCons (tVar 4) (tCons (tVar 3) (tCons (tVar 6) (tCons (tVar 7) (tCons (tVar 8) (tCons (tFld K (tVar 10) "paper") tNil))))))))))
  tNext)
  (tSeq (tIfS (tOr (tB (tNotN (tFld K (tVar 10) "paper"))) (tOr (tNot (tB (tCB (rIsi1 K "tuple") (tCons (tFld K (tVar 10) "deeds") (tCons (tC (.ty "tuple")) tNil))))) (tNot (tB (tCall (spIsInt) [] E0 (tCons (tFld K (tVar 10) "moment") tNil)))))) (tRet (tC (.bl false)))
  tNext)
  (tSeq (tIfS (tNot (tTest (tChain rLeN rLeN (tC (nV 0)) (tFld K (tVar 10) "moment") (tCB (rLenS K) (tCons (tFld K (tVar 10) "deeds") tNil))))) (tRet (tC (.bl false)))
  tNext)
  (tSeq (tIfS (tNot (tB (tCall (lHistory) [] E0 (tCons (tVar 2) (tCons (tVar 3) (tCons (tVar 6) (tCons (tLst tNil) (tCons (tFld K (tVar 10) "disk") (tCons (tFld K (tVar 10) "deeds") tNil))))))))) (tRet (tC (.bl false)))
  tNext)
  (tSeq (tAsg (tFld K (tVar 10) "disk") (gName 12))
  (tSeq (tFor (iTup K (tSl (rSlA K) (tFld K (tVar 10) "deeds") tNoPart (tPart (tFld K (tVar 10) "moment")))) (gName 13)
  (tSeq (tIfS (tB (tCall (lHas) [] E0 (tCons (tVar 7) (tCons (tVar 12) tNil)))) (tRet (tC (.bl false)))
  tNext)
  (tAsg (tCall (lAfter) [] E0 (tCons (tVar 2) (tCons (tVar 12) (tCons (tVar 13) tNil)))) (gName 12))))
  (tRet (tAndV (tNotV (tCall (lHas) [] E0 (tCons (tVar 7) (tCons (tVar 12) tNil)))) (tCall (lHas) [] E0 (tCons (tVar 8) (tCons (tVar 12) tNil)))))))))))))))
/-! ### == of data -/
def skD (s : List Nat) : PyData := .tuple (s.map fun (n : Nat) => .int (n : Int))
theorem dp_nats {H : Hp} : ∀ (s : List Nat), DpAll K H (s.map nV) (s.map fun (n : Nat) => PyData.int (n : Int))
  | [] => .nil
  | n :: s => .cons (.int _) (dp_nats s)
theorem dp_sks {H : Hp} : ∀ {ys : List V} {sks : List Sk}, A2 (IsN H) ys sks → DpAll K H ys (sks.map skD)
  | _, _, .nil => .nil
  | _, _, .cons ⟨a, e, h⟩ t => by
    rw [e]
    exact .cons (.tup (sqT h) (dp_nats _)) (dp_sks t)
theorem lay_nats : ∀ (s : List Nat), PyData.canLayAll0 (s.map fun (n : Nat) => PyData.int (n : Int)) = true ∧ PyData.depthAll (s.map fun (n : Nat) => PyData.int (n : Int)) = 0
  | [] => ⟨rfl, rfl⟩
  | n :: s => by
    obtain ⟨h1, h2⟩ := lay_nats s
    constructor
    · simp only [List.map_cons, PyData.canLayAll0, PyData.canLay0, h1]
      rfl
    · simp only [List.map_cons, PyData.depthAll, PyData.depth, h2]
      rfl
theorem lay_sks : ∀ (sks : List Sk), PyData.canLayAll0 (sks.map skD) = true ∧ PyData.depthAll (sks.map skD) ≤ 1
  | [] => ⟨rfl, Nat.zero_le _⟩
  | s :: sks => by
    obtain ⟨h1, h2⟩ := lay_sks sks
    obtain ⟨h3, h4⟩ := lay_nats s
    constructor
    · simp only [List.map_cons, PyData.canLayAll0, skD, PyData.canLay0, h1, h3]
      rfl
    · simp only [List.map_cons, PyData.depthAll, skD, PyData.depth, h4]
      omega
def twoD (a b : List Sk) : PyData := .tuple [.list (a.map skD), .list (b.map skD)]
theorem two_lay (a b : List Sk) : (twoD a b).canLay0 = true := by
  simp only [twoD, PyData.canLay0, PyData.canLayAll0, (lay_sks a).1, (lay_sks b).1]
  rfl
theorem two_shaped (a b : List Sk) : SeqAt.shaped (twoD a b) = true := by
  have h1 := (lay_sks a).2
  have h2 := (lay_sks b).2
  have h3 : (twoD a b).depth ≤ 64 := by
    simp only [twoD, PyData.depth, PyData.depthAll]
    omega
  show ((twoD a b).canLay0 && decide ((twoD a b).depth ≤ 64)) = true
  rw [two_lay, decide_eq_true h3]
  rfl
theorem two_eqv (a b : List Sk) : (!PyData.eqv (twoD a b) (twoD a b)) = false := by
  rw [SeqAt.eqv_refl _ (two_lay a b)]
  rfl
theorem dp_two {H : Hp} {t x y : Addr} {xs ys : List V} {a b : List Sk} (ht : H t = some (.tup [.ref x, .ref y])) (hx : H x = some (.lst xs)) (hy : H y = some (.lst ys)) (ha : A2 (IsN H) xs a) (hb : A2 (IsN H) ys b) : Dp K H (.ref t) (twoD a b) :=
  .tup (sqT ht) (.cons (.lst (sqL hx) (dp_sks ha)) (.cons (.lst (sqL hy) (dp_sks hb)) .nil))
def nonD : PyData := .tuple [.none, .none, .none]
theorem non_eqv : (!PyData.eqv nonD nonD) = false := by
  rw [SeqAt.eqv_refl nonD (by simp only [nonD, PyData.canLay0, PyData.canLayAll0]; rfl)]
  rfl
theorem non_shaped : SeqAt.shaped nonD = true := by
  show (nonD.canLay0 && decide (nonD.depth ≤ 64)) = true
  rw [Bool.and_eq_true]
  exact ⟨by simp only [nonD, PyData.canLay0, PyData.canLayAll0]; rfl, decide_eq_true (by simp only [nonD, PyData.depth, PyData.depthAll]; omega)⟩
theorem dp_non {H : Hp} {t : Addr} (ht : H t = some (.tup [.non, .non, .non])) : Dp K H (.ref t) nonD := .tup (sqT ht) (.cons .non (.cons .non (.cons .non .nil)))
theorem kit_bo : kitB "bool" "bool" = some true := by decide +kernel
theorem for_ks {G7 G8 : Hp} {M : Mach} {early : List Sk} {d dm : Dk} {ks : List Nat} {v2 vE dv : V} {p : Addr} {x0 x1 x3 x4 x5 x6 x8 x9 x10 x11 u13 u14 u15 : Option V} (ok : MachOk M) (hd : LstOf IsDeed G7 v2 M.deeds) (hE : LstOf IsN G7 vE early) (lE : ∀ x ∈ early, x.length = M.sizes.length)
    (r1 : RwM.Runs M early d ks dm) (vd : vDk M.sizes d) (hdv : IsN G7 dv d) (s : Same G7 G8) (hp : G8 p = some (.tup (ks.map nV))) {D : Ends}
    (hD : ∀ (dv : V) (u13 : Option V) (G9 : Hp), Same G7 G9 → IsN G9 dv dm → vDk M.sizes dm → RwM.has early dm = false → D.nx [x0, x1, some v2, x3, x4, x5, x6, some vE, x8, x9, x10, x11, some dv, u13, u14, u15] G9) :
    ForG (Itt K p) (gName 13) (tSeq (tIfS (tB (tCall (lHas) [] E0 (tCons (tVar 7) (tCons (tVar 12) tNil)))) (tRet (tC (.bl false)))
  tNext)
  (tAsg (tCall (lAfter) [] E0 (tCons (tVar 2) (tCons (tVar 12) (tCons (tVar 13) tNil)))) (gName 12))) D [x0, x1, some v2, x3, x4, x5, x6, some vE, x8, x9, x10, x11, some dv, u13, u14, u15] G8 := by
  refine for_over (over_tup (a2_nat (H := G8) ks)) (fun r σ G9 => Same G7 G9 ∧ Same G8 G9 ∧ ∃ (dv : V) (d' : Dk) (u13 : Option V), σ = [x0, x1, some v2, x3, x4, x5, x6, some vE, x8, x9, x10, x11, some dv, u13, u14, u15] ∧ IsN G9 dv d' ∧ vDk M.sizes d' ∧ RwM.Runs M early d' r dm)
    ⟨s, Same.refl _, dv, d, _, rfl, MonoS.mono s hdv, vd, r1⟩ (fun r σ G9 p' => sqT (p'.2.1 _ _ hp)) ?_ ?_
  · rintro k r x σ _ G9 hm ⟨s9, s89, dv, d', u13, rfl, hdv, vd, hr⟩ ⟨rfl, rfl⟩
    cases hr with
    | @cons _ _ _ _ deed hno hk hc hr =>
      have dok := ok.deed deed (List.mem_of_getElem? hk)
      have ld := RwM.vDk_len vd
      refine ⟨_, rfl, _, rfl, vE, dv, early, d', rfl, MonoS.mono s9 hE, hdv, fun x hx => by rw [lE x hx, ld], fun G10 s10 => ⟨_, rfl, ?_⟩⟩
      rw [hno]
      refine iteF ?_
      have s910 := s9.trans s10
      refine ⟨_, rfl, _, rfl, _, rfl, v2, dv, M.deeds, d', k, deed, M.sizes, rfl, MonoS.mono s910 hd, MonoS.mono s10 hdv, hk, dok, ld.symm, fun G11 w11 s11 hw11 => ?_⟩
      exact ⟨s910.trans s11, s89.trans (s10.trans s11), w11, RwM.after deed d', _, rfl, hw11, RwM.vDk_after dok vd, hr⟩
  · rintro σ G9 ⟨s9, s89, dv, d', u13, rfl, hdv, vd, hr⟩
    cases hr with
    | nil hno => exact hD dv _ G9 s9 hdv vd hno
theorem rd_law2 (T : KF K c) {G : Hp} {Q : VK} {a : Addr} {v1 v2 v3 vI vE vl : V} {D m : Addr} {M : Mach} {image : Sk} {early late : List Sk} {u9 u10 u11 u12 u13 u14 u15 : Option V} (q : ∀ H', Q (.bl true) H') (ok : MachOk M) (hd : LstOf IsDeed G v2 M.deeds) (hf : IsN G v3 M.first) (hS : LstOf IsNat G (.ref D) M.sizes)
    (hM : IsMach c.M G (.ref m) M) (hI : IsN G vI image) (vi : vSk M.sizes image) (hE : LstOf IsN G vE early) (vE' : ∀ x ∈ early, vSk M.sizes x) (zE : early.length ≤ 2) (hL : LstOf IsN G vl late) (vL' : ∀ x ∈ late, vSk M.sizes x) (zL : late.length ≤ 2) :
    t_law2 K c { nx := fun _ H1 => Q .non H1, rt := Q } [some (.ref a), some v1, some v2, some v3, some (.ref D), some (.ref m), some vI, some vE, some vl, u9, u10, u11, u12, u13, u14, u15] G := by
  have lI := RwM.vSk_len vi
  have lE : ∀ x ∈ early, x.length = M.sizes.length := fun x hx => RwM.vSk_len (vE' x hx)
  have lL : ∀ x ∈ late, x.length = M.sizes.length := fun x hx => RwM.vSk_len (vL' x hx)
  obtain ⟨pe, ye, rfl, hpe, hAe⟩ := hE
  obtain ⟨pl, yl, rfl, hpl, hAl⟩ := hL
  refine ⟨_, rfl, pe, _, rfl, .inl (sqL hpe), fun e2 he2 => ?_⟩
  have s1 := same_new (o := .lst ye) he2
  refine ⟨_, rfl, pl, _, rfl, .inl (sqL (s1 _ _ hpl)), fun l2 hl2 => ⟨by show 2 ≤ sizeLine; decide, fun tc htc => ?_⟩⟩
  have s2 := same_new (o := .lst yl) hl2
  have s3 := same_new (o := .tup [.ref e2, .ref l2]) htc
  have s13 := s1.trans (s2.trans s3)
  have he3 := s3 _ _ (s2 _ _ (upd_same (H := G) (a := e2) (o := .lst ye)))
  have hl3 := s3 _ _ (upd_same (H := upd G e2 (.lst ye)) (a := l2) (o := .lst yl))
  have ht3 := upd_same (H := upd (upd G e2 (.lst ye)) l2 (.lst yl)) (a := tc) (o := .tup [.ref e2, .ref l2])
  generalize upd (upd (upd G e2 (.lst ye)) l2 (.lst yl)) tc (.tup [.ref e2, .ref l2]) = G3 at s13 he3 hl3 ht3 ⊢
  have hAe3 := a2_monoS s13 hAe
  have hAl3 := a2_monoS s13 hAl
  refine ⟨_, rfl, _, rfl, _, rfl, tc, _, _, _, rfl, rfl, sqT ht3, at_nat (j := 0) rfl, _, rfl, tc, _, _, _, rfl, rfl, sqT ht3, at_nat (j := 1) rfl, ?_⟩
  refine ⟨.ref m, vI, .ref e2, .ref l2, M, image, early, late, rfl, MonoS.mono s13 hM, ok, MonoS.mono s13 hI, vi, ⟨e2, ye, rfl, he3, hAe3⟩, vE', zE, ⟨l2, yl, rfl, hl3, hAl3⟩, vL', zL, fun Ga an sa ans => ?_⟩
  have sGa := s13.trans sa
  refine ⟨_, rfl, _, rfl, _, rfl, _, rfl, _, rfl, v2, v3, vI, .ref pe, .ref pl, M, image, early, late, rfl, MonoS.mono sGa hd, MonoS.mono sGa hf, MonoS.mono sGa hI, ⟨pe, ye, rfl, sGa _ _ hpe, a2_monoS sGa hAe⟩, ⟨pl, yl, rfl, sGa _ _ hpl, a2_monoS sGa hAl⟩, ok, lI, lE, lL, fun Gb b sb hb => ?_⟩
  have sGb := sGa.trans sb
  have s3b := sa.trans sb
  refine ⟨_, rfl, _, rfl, _, rfl, by show 2 ≤ sizeLine; decide, fun tq htq => ?_⟩
  have s4 := same_new (o := .tup [.ref pe, .ref pl]) htq
  have sGc := sGb.trans s4
  have s3c := s3b.trans s4
  have htq1 := upd_same (H := Gb) (a := tq) (o := .tup [.ref pe, .ref pl])
  have sac := sb.trans s4
  generalize upd Gb tq (.tup [.ref pe, .ref pl]) = Gc at sGc s3c htq1 sac ⊢
  refine ⟨twoD early late, twoD early late, dp_two (s3c _ _ ht3) (s3c _ _ he3) (s3c _ _ hl3) (a2_monoS s3c hAe3) (a2_monoS s3c hAl3), dp_two htq1 (sGc _ _ hpe) (sGc _ _ hpl) (a2_monoS sGc hAe) (a2_monoS sGc hAl), two_shaped _ _, two_shaped _ _, _, rfl, if_is (c := false) (two_eqv _ _) (fun z => nomatch z) fun _ => ?_⟩
  cases ans with
  | @told dxa p reach cover table sk links steps h op vR vS cv c1 no lk c2 zr zs =>
    have hbf : b = false := by
      cases b with
      | false => rfl
      | true => exact absurd (hb.mp rfl) (RwM.told_sound ok vi lE lL vR vS cv c1 no lk c2)
    subst hbf
    have h := sac _ _ h
    have op := op.move sac
    refine ⟨_, rfl, an, _, _, _, _, rfl, h, T.clOA, T.oa_told, rfl, .bl true, _, true, rfl, .base (.bl _), kit_bo, _, rfl, iteF ?_⟩
    refine ⟨_, rfl, an, _, _, _, _, rfl, h, T.clOA, T.oa_told, rfl, _, rfl, rfl, _, rfl, if_is (c := false) rfl (fun z => nomatch z) fun _ => ?_⟩
    refine ⟨_, rfl, an, _, _, _, _, rfl, h, T.clOA, T.oa_told, rfl, _, rfl, iteT ?_⟩
    refine ⟨_, rfl, an, _, _, _, _, rfl, h, T.clOA, T.oa_disk, rfl, _, rfl, an, _, _, _, _, rfl, h, T.clOA, T.oa_deeds, rfl, _, rfl, an, _, _, _, _, rfl, h, T.clOA, T.oa_moment, rfl, by show 3 ≤ sizeLine; decide, fun t1 ht1 => ⟨by show 3 ≤ sizeLine; decide, fun t2 ht2 => ?_⟩⟩
    have s5 := same_new (o := .tup [.non, .non, .non]) ht1
    have s6 := same_new (o := .tup [.non, .non, .non]) ht2
    have s7 := s5.trans s6
    refine ⟨nonD, nonD, dp_non (s6 _ _ upd_same), dp_non upd_same, non_shaped, non_shaped, _, rfl, if_is (c := false) non_eqv (fun z => nomatch z) fun _ => ?_⟩
    have sGd := sGc.trans s7
    refine ⟨_, rfl, _, rfl, _, rfl, _, rfl, _, rfl, _, rfl, _, rfl, an, _, _, _, _, rfl, s7 _ _ h, T.clOA, T.oa_paper, rfl, ?_⟩
    exact ⟨v2, .ref D, v3, vI, .ref pe, .ref pl, p, M, image, early, late, reach, cover, table, sk, links, steps, rfl, MonoS.mono sGd hd, MonoS.mono sGd hS, MonoS.mono sGd hf, MonoS.mono sGd hI, ⟨pe, ye, rfl, sGd _ _ hpe, a2_monoS sGd hAe⟩, ⟨pl, yl, rfl, sGd _ _ hpl, a2_monoS sGd hAl⟩, ok, vi, vE', vL', zE, zL, op.move s7, vR, vS, cv, c1, no, lk, c2, zr, zs, fun H' _ => q H'⟩
  | @open_ dxa dv nv d dm de ks ls h hdv hnv vd hin r1 hlate r2 him hz =>
    have hbt : b = true := hb.mpr ⟨d, dm, de, vd, hin, r1.path, hlate, r2.path, him⟩
    subst hbt
    have h := sac _ _ h
    have hdv := MonoS.mono sac hdv
    obtain ⟨pn, rfl, hpn⟩ := MonoS.mono (R := IsN) sac hnv
    refine ⟨_, rfl, an, _, _, _, _, rfl, h, T.clOA, T.oa_told, rfl, .bl false, _, true, rfl, .base (.bl _), kit_bo, _, rfl, iteF ?_⟩
    refine ⟨_, rfl, an, _, _, _, _, rfl, h, T.clOA, T.oa_told, rfl, _, rfl, rfl, _, rfl, if_is (c := false) rfl (fun z => nomatch z) fun _ => ?_⟩
    refine ⟨_, rfl, an, _, _, _, _, rfl, h, T.clOA, T.oa_told, rfl, _, rfl, iteF ?_⟩
    refine ⟨_, rfl, an, _, _, _, _, rfl, h, T.clOA, T.oa_paper, rfl, _, rfl, iteF ?_⟩
    refine ⟨_, rfl, an, _, _, _, _, rfl, h, T.clOA, T.oa_deeds, rfl, .ref pn, _, true, rfl, .base (.tup hpn), kit_tt, _, rfl, iteF ?_⟩
    refine ⟨_, rfl, an, _, _, _, _, rfl, h, T.clOA, T.oa_moment, rfl, ks.length, rfl, fun G5 s5 => ⟨_, rfl, iteF ?_⟩⟩
    have h5 := s5 _ _ h
    have hn5 := s5 _ _ hpn
    refine ⟨_, rfl, an, _, _, _, _, rfl, h5, T.clOA, T.oa_moment, rfl, 0, ks.length, rfl, rfl, _, rfl, iteT ⟨_, rfl, an, _, _, _, _, rfl, h5, T.clOA, T.oa_deeds, rfl, pn, _, rfl, .inr (sqT hn5), ks.length, _, rfl, rfl, _, rfl, ?_⟩⟩
    refine if_is (c := false) (by rw [decide_eq_true (show ks.length ≤ ((ks ++ ls).map nV).length by rw [List.length_map, List.length_append]; omega)]; rfl) (fun z => nomatch z) fun _ => ?_
    have sG5 := sGc.trans s5
    refine ⟨_, rfl, _, rfl, _, rfl, Nat.zero_le _, fun pz hpz => ?_⟩
    have s6 := same_new (o := .lst []) hpz
    have sG6 := sG5.trans s6
    have hz6 := upd_same (H := G5) (a := pz) (o := .lst [])
    have h6 := s6 _ _ h5
    have hn6 := s6 _ _ hn5
    have hdv6 := MonoS.mono (s5.trans s6) hdv
    generalize upd G5 pz (.lst []) = G6 at sG6 hz6 h6 hn6 hdv6 ⊢
    refine ⟨_, rfl, an, _, _, _, _, rfl, h6, T.clOA, T.oa_disk, rfl, _, rfl, an, _, _, _, _, rfl, h6, T.clOA, T.oa_deeds, rfl, ?_⟩
    refine ⟨v2, v3, vI, .ref pz, dv, .ref pn, M, image, d, ks ++ ls, de, rfl, MonoS.mono sG6 hd, MonoS.mono sG6 hf, MonoS.mono sG6 hI, ⟨pz, [], rfl, hz6, .nil⟩, hdv6, ⟨pn, rfl, hn6⟩, ok, lI, vd, hin, r1.nopiece.append r2, him, fun G7 s7 => ⟨_, rfl, iteF ?_⟩⟩
    have sG7 := sG6.trans s7
    have h7 := s7 _ _ h6
    have hn7 := s7 _ _ hn6
    have hdv7 := MonoS.mono s7 hdv6
    refine ⟨_, rfl, an, _, _, _, _, rfl, h7, T.clOA, T.oa_disk, rfl, ?_⟩
    refine ⟨_, rfl, an, _, _, _, _, rfl, h7, T.clOA, T.oa_deeds, rfl, _, rfl, an, _, _, _, _, rfl, h7, T.clOA, T.oa_moment, rfl, _, rfl, pn, _, rfl, sqT hn7, fun z => ?_, fun z p hp => ?_⟩
    · have z2 := z.2
      rw [HT.sIx_nat, List.length_map, List.length_append] at z2
      have hls : ls = [] := List.eq_nil_of_length_eq_zero (by omega)
      subst hls
      rw [List.append_nil] at hn7
      refine ⟨pn, rfl, ⟨_, sqT hn7⟩, for_ks ok (MonoS.mono sG7 hd) ⟨pe, ye, rfl, sG7 _ _ hpe, a2_monoS sG7 hAe⟩ lE r1 vd hdv7 (Same.refl _) hn7 fun dv u13 G9 s9 hdv9 vd9 hno => ?_⟩
      have sG9 := sG7.trans s9
      have ld := RwM.vDk_len vd9
      refine ⟨_, rfl, _, rfl, .ref pe, dv, early, dm, rfl, ⟨pe, ye, rfl, sG9 _ _ hpe, a2_monoS sG9 hAe⟩, hdv9, fun x hx => by rw [lE x hx, ld], fun G10 s10 => ⟨_, rfl, _, rfl, ?_⟩⟩
      rw [hno]
      refine iteT ?_
      have sG10 := sG9.trans s10
      refine ⟨_, rfl, _, rfl, .ref pl, dv, late, dm, rfl, ⟨pl, yl, rfl, sG10 _ _ hpl, a2_monoS sG10 hAl⟩, MonoS.mono s10 hdv9, fun x hx => by rw [lL x hx, ld], fun G11 s11 => ?_⟩
      rw [hlate]
      exact q G11
    · have s8 := same_new (o := .tup (cutV ((ks ++ ls).map nV) none (some ((ks.length : Nat) : Int)))) hp
      have hp8 : (upd G7 p (.tup (cutV ((ks ++ ls).map nV) none (some ((ks.length : Nat) : Int))))) p = some (.tup (ks.map nV)) := by
        rw [upd_same, cut_to _ _ (by rw [List.length_map, List.length_append]; omega), ← List.map_take, List.take_left]
      refine ⟨p, rfl, ⟨_, sqT hp8⟩, for_ks ok (MonoS.mono sG7 hd) ⟨pe, ye, rfl, sG7 _ _ hpe, a2_monoS sG7 hAe⟩ lE r1 vd hdv7 s8 hp8 fun dv u13 G9 s9 hdv9 vd9 hno => ?_⟩
      have sG9 := sG7.trans s9
      have ld := RwM.vDk_len vd9
      refine ⟨_, rfl, _, rfl, .ref pe, dv, early, dm, rfl, ⟨pe, ye, rfl, sG9 _ _ hpe, a2_monoS sG9 hAe⟩, hdv9, fun x hx => by rw [lE x hx, ld], fun G10 s10 => ⟨_, rfl, _, rfl, ?_⟩⟩
      rw [hno]
      refine iteT ?_
      have sG10 := sG9.trans s10
      refine ⟨_, rfl, _, rfl, .ref pl, dv, late, dm, rfl, ⟨pl, yl, rfl, sG10 _ _ hpl, a2_monoS sG10 hAl⟩, MonoS.mono s10 hdv9, fun x hx => by rw [lL x hx, ld], fun G11 s11 => ?_⟩
      rw [hlate]
      exact q G11
theorem rd_law (T : KF K c) (vs : List V) (H : Hp) (Q : VK) (E : XK) (h : spLaw K vs H Q E) : t_law K c { nx := fun _ H1 => Q .non H1, rt := Q } (start ["_law_script", "_law_cells", "_law_deeds", "_law_first", "_law_sizes", "_law_machine", "_law_image", "_law_early", "_law_late_here", "_law_copies", "_law_answer", "_law_bad", "_law_disk", "_law_number", "_law_name", "_law_size"] vs) H := by
  obtain ⟨a, ns, rfl, hS, hz, q⟩ := h
  refine ⟨_, rfl, a, ns, rfl, hS, hz, fun H1 t v1 v2 v3 M s1 ht hc hd hf ok ids => ?_⟩
  refine ⟨t, _, rfl, sqT ht, rfl, _, _, rfl, _, _, rfl, _, _, rfl, rfl, ?_⟩
  obtain ⟨pc, cs, rfl, hpc, hrc⟩ := hc
  have few := ok.few.2
  have hzl : M.sizes.zipIdx.length = M.sizes.length := List.length_zipIdx
  refine ⟨_, rfl, pc, rfl, ⟨_, sqL hpc⟩, fun D hD => ?_⟩
  refine lc_map (S := IsNat) (f := fun p => p.1) (over_list hrc) hD (fun H1 sm => sqL (sm _ _ hpc)) (by omega) ?_ ?_
  · rintro ⟨n, i⟩ x _ H2 N hmm sm ⟨rfl, b, rfl, hb⟩ hN
    exact ⟨b, _, rfl, sqT (sm _ _ hb), rfl, _, _, rfl, _, _, rfl, rfl, rfl, _, rfl, hN _ _ (Same.refl _) rfl⟩
  rintro H2 ys s2 hy r
  rw [zip_fst] at r
  have e := nat_a2 r
  subst e
  refine ⟨_, rfl, _, rfl, _, rfl, fun m dx hm hdx hne => ?_⟩
  have sX := same_mut (o := .ins c.M dx []) (same_new (o := .own m) hdx) hm
  refine ⟨m, dx, .ref pc, v2, v3, M, H2, rfl, upd_same, sX, hm, ⟨pc, cs, rfl, s2 _ _ hpc, a2_monoS s2 hrc⟩, MonoS.mono s2 hd, MonoS.mono s2 hf, ok, ids, fun H3 hb3 hM => ⟨rfl, ?_⟩⟩
  have s3 : Same H2 H3 := fun b o h => hb3 b o (sX b o h) (ne_of_none h hm)
  have s13 := s2.trans s3
  have s03 := s1.trans s13
  have hS3 : LstOf IsNat H3 (.ref D) M.sizes := ⟨D, _, rfl, s3 _ _ hy, a2_nat _⟩
  have hd3 := MonoS.mono s13 hd
  have hf3 := MonoS.mono s13 hf
  refine ⟨_, rfl, a, ns, 0, rfl, s03.seq hS, hz, fun H4 s4 => ⟨_, rfl, _, .ref D, M.sizes, rfl, MonoS.mono s4 hS3, sz_of ok, fun H5 vI image s5 hI vi => ?_⟩⟩
  have s35 := s4.trans s5
  have s05 := s03.trans s35
  refine ⟨_, rfl, a, ns, 1, rfl, s05.seq hS, hz, fun H6 s6 => ⟨_, rfl, _, .ref D, M.sizes, rfl, MonoS.mono (s35.trans s6) hS3, sz_of ok, fun H7 vE early s7 hE vE' zE => ?_⟩⟩
  have s57 := s6.trans s7
  have s07 := s05.trans s57
  refine ⟨_, rfl, a, ns, 2, rfl, s07.seq hS, hz, fun H8 s8 => ⟨_, rfl, _, .ref D, M.sizes, rfl, MonoS.mono (s35.trans (s57.trans s8)) hS3, sz_of ok, fun H9 vL late s9 hL vL' zL => ?_⟩⟩
  have s79 := s8.trans s9
  have s09 := s07.trans s79
  refine ⟨_, rfl, a, ns, 3, rfl, s09.seq hS, hz, fun HA sA => ?_⟩
  have s3A := (s35.trans s57).trans (s79.trans sA)
  have s5A := s57.trans (s79.trans sA)
  have s7A := s79.trans sA
  have hEA := MonoS.mono (R := LstOf IsN) s7A hE.lst
  refine ⟨_, 6, rfl, rfl, by decide, _, 1, rfl, rfl, _, rfl, if_b (fun e => ?_) fun e => ?_⟩
  · obtain ⟨pe, ye, rfl, hpe, hAe⟩ := hEA
    refine ⟨_, rfl, pe, _, rfl, .inl (sqL hpe), fun l hl => ?_⟩
    have sB := same_new (o := .lst ye) hl
    have s3B := s3A.trans sB
    exact rd_law2 T q ok (MonoS.mono s3B hd3) (MonoS.mono s3B hf3) (MonoS.mono s3B hS3) (MonoS.mono s3B hM) (MonoS.mono (s5A.trans sB) hI) vi ⟨pe, ye, rfl, sB _ _ hpe, a2_monoS sB hAe⟩ vE' zE ⟨l, ye, rfl, upd_same, a2_monoS sB hAe⟩ vE' zE
  · show (tSeq _ _) _ _ _
    exact rd_law2 T q ok (MonoS.mono s3A hd3) (MonoS.mono s3A hf3) (MonoS.mono s3A hS3) (MonoS.mono s3A hM) (MonoS.mono s5A hI) vi hEA vE' zE (MonoS.mono (R := LstOf IsN) sA hL.lst) vL' zL
end RwW
/-! the head (printed by gen_end.py) -/
namespace RwH
open PySem PySem.Spec PyProof.Rows L2 He
/-! ### a property of a class: facts -/
def pAd (K : PySem.W.Frag) : Addr := ma K (ga K "Machine") "full"
def gAd (K : PySem.W.Frag) : Addr := match PySem.W.recIn K (pAd K) "property" with
  | some (.ref g :: _) => g
  | _ => 0
def recB (K : PySem.W.Frag) : Bool := match PySem.W.recIn K (pAd K) "property" with
  | some (.ref _ :: _) => true
  | _ => false
def fnP (K : PySem.W.Frag) : FnW := match K.lookup (gAd K) with
  | some ⟨_, _, .func fd, _⟩ => some (fd.name, fd.qualname, fd.params, fd.body, fd.scope, fd.globals, fd.closure, fd.builtins)
  | _ => none
def codB (K : PySem.W.Frag) : Bool := match K.lookup (gAd K) with
  | some ⟨_, _, .func fd, _⟩ => PySem.W.codeIn K fd.code "Machine.full" && (dflB K fd.defaults [] && kwdB K fd.kwdefaults [])
  | _ => false
def propB (K : PySem.W.Frag) : Bool := eqO (PySem.W.findIn K (.ref (ga K "Machine")) "full") (some (some (.ref (pAd K)))) && (eqO (PySem.W.specialIn K (.ref (pAd K)) "__get__") (some (some (.builtin "property.__get__"))) && (decide (PySem.W.takesIn K (.ref (pAd K)) = some true) && (recB K && (PySem.W.keepIn K (.ref (gAd K)) && codB K))))
theorem prop_of {K : PySem.W.Frag} (h : propB K = true) : PropOf K (ga K "Machine") "full" (pAd K) (gAd K) := by
  obtain ⟨h1, h⟩ := ba h
  obtain ⟨h2, h⟩ := ba h
  obtain ⟨h3, h⟩ := ba h
  obtain ⟨h4, _⟩ := ba h
  refine ⟨eqO_ok h1, eqO_ok h2, of_decide_eq_true h3, ?_⟩
  unfold recB at h4
  unfold gAd
  split at h4
  · rename_i g rest e
    exact ⟨rest, by rw [e]⟩
  · cases h4
theorem prop_fn {K : PySem.W.Frag} {params : Arguments} {body : List Stmt} {scope : Scope} (h : propB K = true) (e : fnP K = (some (("full" : Str), ("Machine.full" : Str), params, FuncBody.stmts body, scope, mainGlobals, [], builtinsNs) : FnW)) : ∃ fd, FunD K "full" "Machine.full" params body scope [] [] (gAd K) fd := by
  obtain ⟨_, h⟩ := ba h
  obtain ⟨_, h⟩ := ba h
  obtain ⟨_, h⟩ := ba h
  obtain ⟨_, h⟩ := ba h
  obtain ⟨kp, c2⟩ := ba h
  unfold codB at c2
  unfold fnP at e
  cases q : K.lookup (gAd K) with
  | none =>
    rw [q] at c2
    cases c2
  | some o =>
    obtain ⟨oc, od, dt, osl⟩ := o
    rw [q] at c2 e
    cases dt with
    | func fd =>
      obtain ⟨n1, n2, n3, n4, n5, n6, n7, n8, n9, n10, n11, n12, n13, n14, n15⟩ := fd
      have e2 : (some (n1, n2, n3, n4, n5, n6, n7, n15) : FnW) = some (("full" : Str), ("Machine.full" : Str), params, FuncBody.stmts body, scope, mainGlobals, [], builtinsNs) := e
      simp only [Option.some.injEq, Prod.mk.injEq] at e2
      obtain ⟨h1, h2, h3, h4, h5, h6, h7, h8⟩ := e2
      subst h1 h2 h3 h4 h5 h6 h7 h8
      have c3 : (PySem.W.codeIn K n13 "Machine.full" && (dflB K n8 [] && kwdB K n9 [])) = true := c2
      obtain ⟨k1, k2⟩ := ba c3
      obtain ⟨k3, k4⟩ := ba k2
      exact ⟨_, ⟨oc, od, n8, n9, n10, n11, n12, n13, n14, osl, rfl, q, k1, dflB_ok k3, kwdB_ok k4⟩, kp⟩
    | _ => cases c2
/-! ### the hook -/
abbrev AlP : Type := AlD × (Bool × FnW)
def obsP (fa : List Fa) (fn : List DefD) (K : PySem.W.Frag) : AlP := (obsD fa fn K, propB K, fnP K)
def valP (fn : List DefD) (v : FnW) : AlP := (valD fn, true, v)
def obsPG (n : Nat) (fa : List Fa) (fn : List DefD) (g : Addr → Option Obj) : AlP := obsP fa fn (frG g (asD g n))
def hookP (n : Nat) (fa : List Fa) (fn : List DefD) (v : FnW) : PySem.W.Hook where
  α := AlP
  obs := fun s => obsPG n fa fn s.heap.get?
  val := fun _ => valP fn v
  says := fun _ h => ∃ K : PySem.W.Frag, K.In h ∧ obsP fa fn K = valP fn v
  of := fun _ _ e => ⟨_, frG_in, e⟩
  keeps := fun _ _ _ ⟨K, hK, c⟩ k => ⟨K, PySem.W.Frag.In.keeps hK k, c⟩
theorem obsPG_eq {n : Nat} {fa : List Fa} {fn : List DefD} {v : FnW} {g : Addr → Option Obj} {s : Shared} (h : ∀ a, g a = s.heap.get? a) : obsPG n fa fn g = (hookP n fa fn v).obs s := by
  have e : g = s.heap.get? := funext h
  rw [e] <;> rfl

def d_is_name : DefD := ⟨("is_name", none), "is_name", "is_name", defArgs RwW.s_is_name, defBody RwW.s_is_name, defScope RwW.s_is_name, [], []⟩
def d_check_names : DefD := ⟨("_check_names", none), "_check_names", "_check_names", defArgs RwW.s_check_names, defBody RwW.s_check_names, defScope RwW.s_check_names, [], []⟩
def d_is_mask : DefD := ⟨("is_mask", none), "is_mask", "is_mask", defArgs RwW.s_is_mask, defBody RwW.s_is_mask, defScope RwW.s_is_mask, [], []⟩
def d_check_order : DefD := ⟨("_check_order", none), "_check_order", "_check_order", defArgs RwW.s_check_order, defBody RwW.s_check_order, defScope RwW.s_check_order, [], []⟩
def d_Machine__check_deed : DefD := ⟨("Machine", some "_check_deed"), "_check_deed", "Machine._check_deed", defArgs RwW.s_Machine__check_deed, defBody RwW.s_Machine__check_deed, defScope RwW.s_Machine__check_deed, [], []⟩
def d_Machine_init : DefD := ⟨("Machine", some "__init__"), "__init__", "Machine.__init__", defArgs RwW.s_Machine_init, defBody RwW.s_Machine_init, defScope RwW.s_Machine_init, [], []⟩
def d_check_sketch : DefD := ⟨("check_sketch", none), "check_sketch", "check_sketch", defArgs RwW.s_check_sketch, defBody RwW.s_check_sketch, defScope RwW.s_check_sketch, [], []⟩
def d_sketch_before : DefD := ⟨("sketch_before", none), "sketch_before", "sketch_before", defArgs RwW.s_sketch_before, defBody RwW.s_sketch_before, defScope RwW.s_sketch_before, [], []⟩
def d_meet : DefD := ⟨("meet", none), "meet", "meet", defArgs RwW.s_meet, defBody RwW.s_meet, defScope RwW.s_meet, [], []⟩
def d_split : DefD := ⟨("_split", none), "_split", "_split", defArgs RwW.s_split, defBody RwW.s_split, defScope RwW.s_split, [], []⟩
def d_without : DefD := ⟨("without", none), "without", "without", defArgs RwW.s_without, defBody RwW.s_without, defScope RwW.s_without, [], []⟩
def d_values_of : DefD := ⟨("values_of", none), "values_of", "values_of", defArgs RwW.s_values_of, defBody RwW.s_values_of, defScope RwW.s_values_of, [], []⟩
def d_least_disk : DefD := ⟨("least_disk", none), "least_disk", "least_disk", defArgs RwW.s_least_disk, defBody RwW.s_least_disk, defScope RwW.s_least_disk, [], []⟩
def d_Paper_init : DefD := ⟨("Paper", some "__init__"), "__init__", "Paper.__init__", defArgs RwW.s_Paper_init, defBody RwW.s_Paper_init, defScope RwW.s_Paper_init, [], []⟩
def d_check_question : DefD := ⟨("check_question", none), "check_question", "check_question", defArgs RwW.s_check_question, defBody RwW.s_check_question, defScope RwW.s_check_question, [], []⟩
def d_packed_sketch : DefD := ⟨("packed_sketch", none), "packed_sketch", "packed_sketch", defArgs RwW.s_packed_sketch, defBody RwW.s_packed_sketch, defScope RwW.s_packed_sketch, [], []⟩
def d_Search_init : DefD := ⟨("Search", some "__init__"), "__init__", "Search.__init__", defArgs RwW.s_Search_init, defBody RwW.s_Search_init, defScope RwW.s_Search_init, [], []⟩
def d_Search_place : DefD := ⟨("Search", some "place"), "place", "Search.place", defArgs RwW.s_Search_place, defBody RwW.s_Search_place, defScope RwW.s_Search_place, [], []⟩
def d_Search_places : DefD := ⟨("Search", some "places"), "places", "Search.places", defArgs RwW.s_Search_places, defBody RwW.s_Search_places, defScope RwW.s_Search_places, [], []⟩
def d_Search_row : DefD := ⟨("Search", some "row"), "row", "Search.row", defArgs RwW.s_Search_row, defBody RwW.s_Search_row, defScope RwW.s_Search_row, [], []⟩
def d_Search_history : DefD := ⟨("Search", some "history"), "history", "Search.history", defArgs RwW.s_Search_history, defBody RwW.s_Search_history, defScope RwW.s_Search_history, [], []⟩
def d_OrderPaper_init : DefD := ⟨("OrderPaper", some "__init__"), "__init__", "OrderPaper.__init__", defArgs RwW.s_OrderPaper_init, defBody RwW.s_OrderPaper_init, defScope RwW.s_OrderPaper_init, [], []⟩
def d_OrderAnswer_init : DefD := ⟨("OrderAnswer", some "__init__"), "__init__", "OrderAnswer.__init__", defArgs RwW.s_OrderAnswer_init, defBody RwW.s_OrderAnswer_init, defScope RwW.s_OrderAnswer_init, [], []⟩
def d_late_parts : DefD := ⟨("_late_parts", none), "_late_parts", "_late_parts", defArgs RwW.s_late_parts, defBody RwW.s_late_parts, defScope RwW.s_late_parts, [], []⟩
def d_way : DefD := ⟨("_way", none), "_way", "_way", defArgs RwW.s_way, defBody RwW.s_way, defScope RwW.s_way, [], []⟩
def d_tell_order : DefD := ⟨("tell_order", none), "tell_order", "tell_order", defArgs RwW.s_tell_order, defBody RwW.s_tell_order, defScope RwW.s_tell_order, [], []⟩
def d_l_cell : DefD := ⟨("_law_cell", none), "_law_cell", "_law_cell", defArgs RwW.s_l_cell, defBody RwW.s_l_cell, defScope RwW.s_l_cell, [], []⟩
def d_l_mix : DefD := ⟨("_law_mix", none), "_law_mix", "_law_mix", defArgs RwW.s_l_mix, defBody RwW.s_l_mix, defScope RwW.s_l_mix, [], []⟩
def d_l_is_int : DefD := ⟨("_law_is_int", none), "_law_is_int", "_law_is_int", defArgs RwW.s_l_is_int, defBody RwW.s_l_is_int, defScope RwW.s_l_is_int, [], []⟩
def d_l_mask : DefD := ⟨("_law_mask", none), "_law_mask", "_law_mask", defArgs RwW.s_l_mask, defBody RwW.s_l_mask, defScope RwW.s_l_mask, [], []⟩
def d_l_deed : DefD := ⟨("_law_deed", none), "_law_deed", "_law_deed", defArgs RwW.s_l_deed, defBody RwW.s_l_deed, defScope RwW.s_l_deed, [], []⟩
def d_l_parts : DefD := ⟨("_law_parts", none), "_law_parts", "_law_parts", defArgs RwW.s_l_parts, defBody RwW.s_l_parts, defScope RwW.s_l_parts, [], []⟩
def d_l_sketch : DefD := ⟨("_law_sketch", none), "_law_sketch", "_law_sketch", defArgs RwW.s_l_sketch, defBody RwW.s_l_sketch, defScope RwW.s_l_sketch, [], []⟩
def d_l_piece : DefD := ⟨("_law_piece", none), "_law_piece", "_law_piece", defArgs RwW.s_l_piece, defBody RwW.s_l_piece, defScope RwW.s_l_piece, [], []⟩
def d_l_in : DefD := ⟨("_law_in", none), "_law_in", "_law_in", defArgs RwW.s_l_in, defBody RwW.s_l_in, defScope RwW.s_l_in, [], []⟩
def d_l_has : DefD := ⟨("_law_has", none), "_law_has", "_law_has", defArgs RwW.s_l_has, defBody RwW.s_l_has, defScope RwW.s_l_has, [], []⟩
def d_l_disks : DefD := ⟨("_law_disks", none), "_law_disks", "_law_disks", defArgs RwW.s_l_disks, defBody RwW.s_l_disks, defScope RwW.s_l_disks, [], []⟩
def d_l_can : DefD := ⟨("_law_can", none), "_law_can", "_law_can", defArgs RwW.s_l_can, defBody RwW.s_l_can, defScope RwW.s_l_can, [], []⟩
def d_l_after : DefD := ⟨("_law_after", none), "_law_after", "_law_after", defArgs RwW.s_l_after, defBody RwW.s_l_after, defScope RwW.s_l_after, [], []⟩
def d_l_steps : DefD := ⟨("_law_steps", none), "_law_steps", "_law_steps", defArgs RwW.s_l_steps, defBody RwW.s_l_steps, defScope RwW.s_l_steps, [], []⟩
def d_l_forward : DefD := ⟨("_law_forward", none), "_law_forward", "_law_forward", defArgs RwW.s_l_forward, defBody RwW.s_l_forward, defScope RwW.s_l_forward, [], []⟩
def d_l_is_disordered : DefD := ⟨("_law_is_disordered", none), "_law_is_disordered", "_law_is_disordered", defArgs RwW.s_l_is_disordered, defBody RwW.s_l_is_disordered, defScope RwW.s_l_is_disordered, [], []⟩
def d_l_meet : DefD := ⟨("_law_meet", none), "_law_meet", "_law_meet", defArgs RwW.s_l_meet, defBody RwW.s_l_meet, defScope RwW.s_l_meet, [], []⟩
def d_l_split : DefD := ⟨("_law_split", none), "_law_split", "_law_split", defArgs RwW.s_l_split, defBody RwW.s_l_split, defScope RwW.s_l_split, [], []⟩
def d_l_without : DefD := ⟨("_law_without", none), "_law_without", "_law_without", defArgs RwW.s_l_without, defBody RwW.s_l_without, defScope RwW.s_l_without, [], []⟩
def d_l_before : DefD := ⟨("_law_before", none), "_law_before", "_law_before", defArgs RwW.s_l_before, defBody RwW.s_l_before, defScope RwW.s_l_before, [], []⟩
def d_l_included : DefD := ⟨("_law_included", none), "_law_included", "_law_included", defArgs RwW.s_l_included, defBody RwW.s_l_included, defScope RwW.s_l_included, [], []⟩
def d_l_covers : DefD := ⟨("_law_covers", none), "_law_covers", "_law_covers", defArgs RwW.s_l_covers, defBody RwW.s_l_covers, defScope RwW.s_l_covers, [], []⟩
def d_l_are_sketches : DefD := ⟨("_law_are_sketches", none), "_law_are_sketches", "_law_are_sketches", defArgs RwW.s_l_are_sketches, defBody RwW.s_l_are_sketches, defScope RwW.s_l_are_sketches, [], []⟩
def d_l_is_closed : DefD := ⟨("_law_is_closed", none), "_law_is_closed", "_law_is_closed", defArgs RwW.s_l_is_closed, defBody RwW.s_l_is_closed, defScope RwW.s_l_is_closed, [], []⟩
def d_l_is_history : DefD := ⟨("_law_is_history", none), "_law_is_history", "_law_is_history", defArgs RwW.s_l_is_history, defBody RwW.s_l_is_history, defScope RwW.s_l_is_history, [], []⟩
def d_l_late : DefD := ⟨("_law_late", none), "_law_late", "_law_late", defArgs RwW.s_l_late, defBody RwW.s_l_late, defScope RwW.s_l_late, [], []⟩
def d_l_is_order : DefD := ⟨("_law_is_order", none), "_law_is_order", "_law_is_order", defArgs RwW.s_l_is_order, defBody RwW.s_l_is_order, defScope RwW.s_l_is_order, [], []⟩
def d_law : DefD := ⟨("law", none), "law", "law", defArgs RwW.s_law, defBody RwW.s_law, defScope RwW.s_law, [], []⟩
def fn : List DefD := [d_is_name, d_check_names, d_is_mask, d_check_order, d_Machine__check_deed, d_Machine_init, d_check_sketch, d_sketch_before, d_meet, d_split,
  d_without, d_values_of, d_least_disk, d_Paper_init, d_check_question, d_packed_sketch, d_Search_init, d_Search_place, d_Search_places, d_Search_row,
  d_Search_history, d_OrderPaper_init, d_OrderAnswer_init, d_late_parts, d_way, d_tell_order, d_l_cell, d_l_mix, d_l_is_int, d_l_mask,
  d_l_deed, d_l_parts, d_l_sketch, d_l_piece, d_l_in, d_l_has, d_l_disks, d_l_can, d_l_after, d_l_steps,
  d_l_forward, d_l_is_disordered, d_l_meet, d_l_split, d_l_without, d_l_before, d_l_included, d_l_covers, d_l_are_sketches, d_l_is_closed,
  d_l_is_history, d_l_late, d_l_is_order, d_law]
def fa : List Fa := [.glo "is_name", .glo "_check_names", .glo "is_mask", .glo "_check_order", .glo "check_sketch", .glo "sketch_before", .glo "meet", .glo "_split",
  .glo "without", .glo "values_of", .glo "least_disk", .glo "check_question", .glo "packed_sketch", .glo "_late_parts", .glo "_way", .glo "tell_order",
  .glo "_law_cell", .glo "_law_mix", .glo "_law_is_int", .glo "_law_mask", .glo "_law_deed", .glo "_law_parts", .glo "_law_sketch", .glo "_law_piece",
  .glo "_law_in", .glo "_law_has", .glo "_law_disks", .glo "_law_can", .glo "_law_after", .glo "_law_steps", .glo "_law_forward", .glo "_law_is_disordered",
  .glo "_law_meet", .glo "_law_split", .glo "_law_without", .glo "_law_before", .glo "_law_included", .glo "_law_covers", .glo "_law_are_sketches", .glo "_law_is_closed",
  .glo "_law_is_history", .glo "_law_late", .glo "_law_is_order", .glo "law", .glo "Machine", .glo "Search", .glo "Paper", .glo "OrderPaper",
  .glo "OrderAnswer", .free "len", .free "all", .free "range", .free "zip", .free "enumerate", .free "tuple", .free "list",
  .free "int", .free "str", .free "bool", .free "set", .free "isinstance", .int "MOST_CELLS" 24, .int "MOST_VALUES" 16, .int "MOST_DEEDS" 400,
  .int "LONGEST_NAME" 12, .str "LOWER" RwW.LOWER, .str "DIGITS" RwW.DIGITS, .cls "Machine", .mkr "Machine", .noat "Machine" "cells", .noat "Machine" "deeds", .noat "Machine" "first",
  .cls "Search", .mkr "Search", .noat "Search" "_machine", .noat "Search" "_piece", .noat "Search" "_packed", .noat "Search" "sketches", .noat "Search" "origins", .noat "Search" "found",
  .cls "Paper", .mkr "Paper", .noat "Paper" "sketches", .noat "Paper" "cover", .noat "Paper" "table", .cls "OrderPaper", .mkr "OrderPaper", .noat "OrderPaper" "reach",
  .noat "OrderPaper" "cover", .noat "OrderPaper" "table", .noat "OrderPaper" "sketches", .noat "OrderPaper" "links", .noat "OrderPaper" "steps", .cls "OrderAnswer", .mkr "OrderAnswer", .noat "OrderAnswer" "told",
  .noat "OrderAnswer" "paper", .noat "OrderAnswer" "disk", .noat "OrderAnswer" "deeds", .noat "OrderAnswer" "moment", .meth "Machine" "_check_deed", .meth "Search" "place", .meth "Search" "places", .meth "Search" "row",
  .meth "Search" "history"]
def vFull : FnW := some (("full" : Str), ("Machine.full" : Str), defArgs RwW.s_Machine_full, FuncBody.stmts (defBody RwW.s_Machine_full), defScope RwW.s_Machine_full, mainGlobals, [], builtinsNs)
abbrev R : PySem.W.OpenRow := PySem.W.OpenLaw.row PySem.Challenge.rw_raisedwreck_k12_whole_order
abbrev hk : PySem.W.Hook := hookP 5 fa fn vFull
def ob (s : PySem.W.SharedT) : AlP := obsPG 5 fa fn (HandSHeadRun.getT s)
theorem ob_eq (s : PySem.W.SharedT) : ob s = hk.obs s.abs := obsPG_eq (HandSHeadRun.getT_eq s)
def loose : List PySem.Str := (["WreckError", "InvalidMachine", "InvalidSketch", "NoSuchDeed", "MOST_CELLS", "MOST_VALUES", "MOST_DEEDS", "LONGEST_NAME", "LOWER", "DIGITS", "is_name", "_check_names", "is_mask", "_check_order", "Machine", "check_sketch", "sketch_before", "meet", "_split", "without"] : List PySem.Str) ++ (["values_of", "least_disk", "Paper", "check_question", "packed_sketch", "Search", "OrderPaper", "OrderAnswer", "_late_parts", "_way", "tell_order", "_law_cell", "_law_mix", "_law_row", "_law_is_int", "_law_mask", "_law_deed", "_law_parts", "_law_sketch", "_law_piece"] : List PySem.Str) ++ (["_law_in", "_law_has", "_law_disks", "_law_can", "_law_after", "_law_steps", "_law_least", "_law_forward", "_law_is_disordered", "_law_meet", "_law_split", "_law_without", "_law_before", "_law_included", "_law_covers", "_law_are_sketches", "_law_is_closed", "_law_is_paper", "_law_is_history", "_law_late"] : List PySem.Str) ++ (["_law_is_order"] : List PySem.Str)
theorem run (w : World) : HandSHeadRun.RunEq R (PySem.W.view R.prog [68]) hk ob 6000 loose w := by
  intro os
  kernel_rfl
end RwH
/-! the end (printed by gen_end.py) -/
namespace RwH
open PySem PySem.Spec PyProof.Rows L2 He RwW
theorem facts {P : Program} {w : World} {K : PySem.W.Frag} {h : Heap} {mg : Str → Option Value} {f : Addr} (X : K.In h) (G : h.Ns mainGlobals mg) (hfa : mg ("law" : Str) = some (.ref f)) (cc : obsP fa fn K = valP fn vFull) :
    ∃ fd : FuncData, (∀ (s : Shared) (v : Value), BindsTo s fd ⟨[v], []⟩ [("_law_script", v)]) ∧ ∀ base : Heap, K.In base → base.Ns mainGlobals mg → FnOk P w K mg base CX0 7 f fd ["_law_script"] (spLaw K) := by
  have cd : SaysD fa fn K := congrArg (fun z : AlP => z.1) cc
  have cp : propB K = true := congrArg (fun z : AlP => z.2.1) cc
  have cv : fnP K = vFull := congrArg (fun z : AlP => z.2.2) cc
  obtain ⟨c, hc⟩ : ∃ c : Cs, c = ⟨ga K "Machine", ga K "Search", ga K "Paper", ga K "OrderPaper", ga K "OrderAnswer"⟩ := ⟨_, rfl⟩
  have eM : ga K "Machine" = c.M := by rw [hc]
  have eS : ga K "Search" = c.S := by rw [hc]
  have eP : ga K "Paper" = c.P := by rw [hc]
  have eOP : ga K "OrderPaper" = c.OP := by rw [hc]
  have eOA : ga K "OrderAnswer" = c.OA := by rw [hc]
  have T : Gs K mg := ⟨free_ok X G (cd.fact 49 (f := .free "len") rfl), free_ok X G (cd.fact 50 (f := .free "all") rfl), free_ok X G (cd.fact 51 (f := .free "range") rfl), free_ok X G (cd.fact 52 (f := .free "zip") rfl), free_ok X G (cd.fact 53 (f := .free "enumerate") rfl), free_ok X G (cd.fact 54 (f := .free "tuple") rfl), free_ok X G (cd.fact 55 (f := .free "list") rfl), free_ok X G (cd.fact 56 (f := .free "int") rfl), free_ok X G (cd.fact 57 (f := .free "str") rfl), free_ok X G (cd.fact 58 (f := .free "bool") rfl), free_ok X G (cd.fact 59 (f := .free "set") rfl), free_ok X G (cd.fact 60 (f := .free "isinstance") rfl), int_ok X G (cd.fact 61 (f := .int "MOST_CELLS" 24) rfl), int_ok X G (cd.fact 62 (f := .int "MOST_VALUES" 16) rfl), int_ok X G (cd.fact 63 (f := .int "MOST_DEEDS" 400) rfl), int_ok X G (cd.fact 64 (f := .int "LONGEST_NAME" 12) rfl), str_ok X G (cd.fact 65 (f := .str "LOWER" RwW.LOWER) rfl), str_ok X G (cd.fact 66 (f := .str "DIGITS" RwW.DIGITS) rfl)⟩
  have clM : Cls K c.M := eM ▸ cls_ok (cd.fact 67 (f := .cls "Machine") rfl)
  have clS : Cls K c.S := eS ▸ cls_ok (cd.fact 72 (f := .cls "Search") rfl)
  have clP : Cls K c.P := eP ▸ cls_ok (cd.fact 80 (f := .cls "Paper") rfl)
  have clOP : Cls K c.OP := eOP ▸ cls_ok (cd.fact 85 (f := .cls "OrderPaper") rfl)
  have clOA : Cls K c.OA := eOA ▸ cls_ok (cd.fact 93 (f := .cls "OrderAnswer") rfl)
  have noM : ∀ f ∈ (["cells", "deeds", "first"] : List Str), NoAttr K c.M f := by
    intro f hf
    rw [← eM]
    simp only [List.mem_cons, List.not_mem_nil, or_false] at hf
    rcases hf with rfl | rfl | rfl
    · exact noat_ok (cd.fact 69 (f := .noat "Machine" "cells") rfl)
    · exact noat_ok (cd.fact 70 (f := .noat "Machine" "deeds") rfl)
    · exact noat_ok (cd.fact 71 (f := .noat "Machine" "first") rfl)
  have noS : ∀ f ∈ (["_machine", "_piece", "_packed", "sketches", "origins", "found"] : List Str), NoAttr K c.S f := by
    intro f hf
    rw [← eS]
    simp only [List.mem_cons, List.not_mem_nil, or_false] at hf
    rcases hf with rfl | rfl | rfl | rfl | rfl | rfl
    · exact noat_ok (cd.fact 74 (f := .noat "Search" "_machine") rfl)
    · exact noat_ok (cd.fact 75 (f := .noat "Search" "_piece") rfl)
    · exact noat_ok (cd.fact 76 (f := .noat "Search" "_packed") rfl)
    · exact noat_ok (cd.fact 77 (f := .noat "Search" "sketches") rfl)
    · exact noat_ok (cd.fact 78 (f := .noat "Search" "origins") rfl)
    · exact noat_ok (cd.fact 79 (f := .noat "Search" "found") rfl)
  have noP : ∀ f ∈ (["sketches", "cover", "table"] : List Str), NoAttr K c.P f := by
    intro f hf
    rw [← eP]
    simp only [List.mem_cons, List.not_mem_nil, or_false] at hf
    rcases hf with rfl | rfl | rfl
    · exact noat_ok (cd.fact 82 (f := .noat "Paper" "sketches") rfl)
    · exact noat_ok (cd.fact 83 (f := .noat "Paper" "cover") rfl)
    · exact noat_ok (cd.fact 84 (f := .noat "Paper" "table") rfl)
  have noOP : ∀ f ∈ (["reach", "cover", "table", "sketches", "links", "steps"] : List Str), NoAttr K c.OP f := by
    intro f hf
    rw [← eOP]
    simp only [List.mem_cons, List.not_mem_nil, or_false] at hf
    rcases hf with rfl | rfl | rfl | rfl | rfl | rfl
    · exact noat_ok (cd.fact 87 (f := .noat "OrderPaper" "reach") rfl)
    · exact noat_ok (cd.fact 88 (f := .noat "OrderPaper" "cover") rfl)
    · exact noat_ok (cd.fact 89 (f := .noat "OrderPaper" "table") rfl)
    · exact noat_ok (cd.fact 90 (f := .noat "OrderPaper" "sketches") rfl)
    · exact noat_ok (cd.fact 91 (f := .noat "OrderPaper" "links") rfl)
    · exact noat_ok (cd.fact 92 (f := .noat "OrderPaper" "steps") rfl)
  have noOA : ∀ f ∈ (["told", "paper", "disk", "deeds", "moment"] : List Str), NoAttr K c.OA f := by
    intro f hf
    rw [← eOA]
    simp only [List.mem_cons, List.not_mem_nil, or_false] at hf
    rcases hf with rfl | rfl | rfl | rfl | rfl
    · exact noat_ok (cd.fact 95 (f := .noat "OrderAnswer" "told") rfl)
    · exact noat_ok (cd.fact 96 (f := .noat "OrderAnswer" "paper") rfl)
    · exact noat_ok (cd.fact 97 (f := .noat "OrderAnswer" "disk") rfl)
    · exact noat_ok (cd.fact 98 (f := .noat "OrderAnswer" "deeds") rfl)
    · exact noat_ok (cd.fact 99 (f := .noat "OrderAnswer" "moment") rfl)
  have KK : KF K c := ⟨clM, clS, clP, clOP, clOA, noM, noS, noP, noOP, noOA⟩
  obtain ⟨fd_is_name, F_is_name⟩ := cd.def_ 0 (d := d_is_name) rfl
  obtain ⟨fd_check_names, F_check_names⟩ := cd.def_ 1 (d := d_check_names) rfl
  obtain ⟨fd_is_mask, F_is_mask⟩ := cd.def_ 2 (d := d_is_mask) rfl
  obtain ⟨fd_check_order, F_check_order⟩ := cd.def_ 3 (d := d_check_order) rfl
  obtain ⟨fd_Machine__check_deed, F_Machine__check_deed⟩ := cd.def_ 4 (d := d_Machine__check_deed) rfl
  obtain ⟨fd_Machine_init, F_Machine_init⟩ := cd.def_ 5 (d := d_Machine_init) rfl
  obtain ⟨fd_check_sketch, F_check_sketch⟩ := cd.def_ 6 (d := d_check_sketch) rfl
  obtain ⟨fd_sketch_before, F_sketch_before⟩ := cd.def_ 7 (d := d_sketch_before) rfl
  obtain ⟨fd_meet, F_meet⟩ := cd.def_ 8 (d := d_meet) rfl
  obtain ⟨fd_split, F_split⟩ := cd.def_ 9 (d := d_split) rfl
  obtain ⟨fd_without, F_without⟩ := cd.def_ 10 (d := d_without) rfl
  obtain ⟨fd_values_of, F_values_of⟩ := cd.def_ 11 (d := d_values_of) rfl
  obtain ⟨fd_least_disk, F_least_disk⟩ := cd.def_ 12 (d := d_least_disk) rfl
  obtain ⟨fd_Paper_init, F_Paper_init⟩ := cd.def_ 13 (d := d_Paper_init) rfl
  obtain ⟨fd_check_question, F_check_question⟩ := cd.def_ 14 (d := d_check_question) rfl
  obtain ⟨fd_packed_sketch, F_packed_sketch⟩ := cd.def_ 15 (d := d_packed_sketch) rfl
  obtain ⟨fd_Search_init, F_Search_init⟩ := cd.def_ 16 (d := d_Search_init) rfl
  obtain ⟨fd_Search_place, F_Search_place⟩ := cd.def_ 17 (d := d_Search_place) rfl
  obtain ⟨fd_Search_places, F_Search_places⟩ := cd.def_ 18 (d := d_Search_places) rfl
  obtain ⟨fd_Search_row, F_Search_row⟩ := cd.def_ 19 (d := d_Search_row) rfl
  obtain ⟨fd_Search_history, F_Search_history⟩ := cd.def_ 20 (d := d_Search_history) rfl
  obtain ⟨fd_OrderPaper_init, F_OrderPaper_init⟩ := cd.def_ 21 (d := d_OrderPaper_init) rfl
  obtain ⟨fd_OrderAnswer_init, F_OrderAnswer_init⟩ := cd.def_ 22 (d := d_OrderAnswer_init) rfl
  obtain ⟨fd_late_parts, F_late_parts⟩ := cd.def_ 23 (d := d_late_parts) rfl
  obtain ⟨fd_way, F_way⟩ := cd.def_ 24 (d := d_way) rfl
  obtain ⟨fd_tell_order, F_tell_order⟩ := cd.def_ 25 (d := d_tell_order) rfl
  obtain ⟨fd_l_cell, F_l_cell⟩ := cd.def_ 26 (d := d_l_cell) rfl
  obtain ⟨fd_l_mix, F_l_mix⟩ := cd.def_ 27 (d := d_l_mix) rfl
  obtain ⟨fd_l_is_int, F_l_is_int⟩ := cd.def_ 28 (d := d_l_is_int) rfl
  obtain ⟨fd_l_mask, F_l_mask⟩ := cd.def_ 29 (d := d_l_mask) rfl
  obtain ⟨fd_l_deed, F_l_deed⟩ := cd.def_ 30 (d := d_l_deed) rfl
  obtain ⟨fd_l_parts, F_l_parts⟩ := cd.def_ 31 (d := d_l_parts) rfl
  obtain ⟨fd_l_sketch, F_l_sketch⟩ := cd.def_ 32 (d := d_l_sketch) rfl
  obtain ⟨fd_l_piece, F_l_piece⟩ := cd.def_ 33 (d := d_l_piece) rfl
  obtain ⟨fd_l_in, F_l_in⟩ := cd.def_ 34 (d := d_l_in) rfl
  obtain ⟨fd_l_has, F_l_has⟩ := cd.def_ 35 (d := d_l_has) rfl
  obtain ⟨fd_l_disks, F_l_disks⟩ := cd.def_ 36 (d := d_l_disks) rfl
  obtain ⟨fd_l_can, F_l_can⟩ := cd.def_ 37 (d := d_l_can) rfl
  obtain ⟨fd_l_after, F_l_after⟩ := cd.def_ 38 (d := d_l_after) rfl
  obtain ⟨fd_l_steps, F_l_steps⟩ := cd.def_ 39 (d := d_l_steps) rfl
  obtain ⟨fd_l_forward, F_l_forward⟩ := cd.def_ 40 (d := d_l_forward) rfl
  obtain ⟨fd_l_is_disordered, F_l_is_disordered⟩ := cd.def_ 41 (d := d_l_is_disordered) rfl
  obtain ⟨fd_l_meet, F_l_meet⟩ := cd.def_ 42 (d := d_l_meet) rfl
  obtain ⟨fd_l_split, F_l_split⟩ := cd.def_ 43 (d := d_l_split) rfl
  obtain ⟨fd_l_without, F_l_without⟩ := cd.def_ 44 (d := d_l_without) rfl
  obtain ⟨fd_l_before, F_l_before⟩ := cd.def_ 45 (d := d_l_before) rfl
  obtain ⟨fd_l_included, F_l_included⟩ := cd.def_ 46 (d := d_l_included) rfl
  obtain ⟨fd_l_covers, F_l_covers⟩ := cd.def_ 47 (d := d_l_covers) rfl
  obtain ⟨fd_l_are_sketches, F_l_are_sketches⟩ := cd.def_ 48 (d := d_l_are_sketches) rfl
  obtain ⟨fd_l_is_closed, F_l_is_closed⟩ := cd.def_ 49 (d := d_l_is_closed) rfl
  obtain ⟨fd_l_is_history, F_l_is_history⟩ := cd.def_ 50 (d := d_l_is_history) rfl
  obtain ⟨fd_l_late, F_l_late⟩ := cd.def_ 51 (d := d_l_late) rfl
  obtain ⟨fd_l_is_order, F_l_is_order⟩ := cd.def_ 52 (d := d_l_is_order) rfl
  obtain ⟨fd_law, F_law⟩ := cd.def_ 53 (d := d_law) rfl
  obtain ⟨fd_Machine_full, F_Machine_full⟩ := prop_fn cp cv
  have eL := hfa.symm.trans (glo_ok X G (cd.fact 43 (f := .glo "law") rfl))
  cases eL
  have bL := FunD.bindsA (ps := ["_law_script"]) F_law fun _ _ _ _ _ _ us hl => match us, hl with | [_], _ => rfl
  refine ⟨fd_law, fun s v => bL s [v] rfl, fun base _ _ => ?_⟩
  have G_is_name : GD P w K mg base "is_name" 1 ["text"] (spIsName) := ⟨_, fd_is_name, glo_ok X G (cd.fact 0 (f := .glo "is_name") rfl), F_is_name.kp, (F_is_name.bindsN fun _ _ _ _ _ _ us hl => match us, hl with | [_], _ => rfl), ok_is_name T F_is_name (rd_is_name)⟩
  have G_check_names : GD P w K mg base "_check_names" 2 ["names"] (spCheckNames K) := ⟨_, fd_check_names, glo_ok X G (cd.fact 1 (f := .glo "_check_names") rfl), F_check_names.kp, (F_check_names.bindsN fun _ _ _ _ _ _ us hl => match us, hl with | [_], _ => rfl), ok_check_names T F_check_names G_is_name (rd_check_names)⟩
  have G_is_mask : GD P w K mg base "is_mask" 1 ["mask", "size"] (spIsMask) := ⟨_, fd_is_mask, glo_ok X G (cd.fact 2 (f := .glo "is_mask") rfl), F_is_mask.kp, (F_is_mask.bindsN fun _ _ _ _ _ _ us hl => match us, hl with | [_, _], _ => rfl), ok_is_mask T F_is_mask (rd_is_mask)⟩
  have G_check_order : GD P w K mg base "_check_order" 1 ["pairs", "count"] (spCheckOrder) := ⟨_, fd_check_order, glo_ok X G (cd.fact 3 (f := .glo "_check_order") rfl), F_check_order.kp, (F_check_order.bindsN fun _ _ _ _ _ _ us hl => match us, hl with | [_, _], _ => rfl), ok_check_order T F_check_order (rd_check_order)⟩
  have G_Machine__check_deed : GM P w K mg base c.M "_check_deed" 2 ["self", "sizes", "guard", "changes"] (spCheckDeed) := ⟨clM, _, fd_Machine__check_deed, eM ▸ meth_ok (cd.fact 100 (f := .meth "Machine" "_check_deed") rfl), (F_Machine__check_deed.bindsN fun _ _ _ _ _ _ us hl => match us, hl with | [_, _, _, _], _ => rfl), ok_Machine__check_deed T F_Machine__check_deed G_is_mask (rd_check_deed)⟩
  have G_Machine_init : GC P w K mg base "Machine" c.M 3 ["self", "cells", "deeds", "first"] (spMachine c) := ⟨_, fd_Machine_init, eM ▸ glo_ok X G (cd.fact 44 (f := .glo "Machine") rfl), eM ▸ mkr_ok (cd.fact 68 (f := .mkr "Machine") rfl), (F_Machine_init.bindsN fun _ _ _ _ _ _ us hl => match us, hl with | [_, _, _, _], _ => rfl), ok_Machine_init T F_Machine_init G_check_names G_check_order G_is_mask G_Machine__check_deed (rd_Machine_init KK)⟩
  have G_Machine_full : GP P w K mg base c.M "full" 1 ["self"] (spFull c) := ⟨clM, _, _, fd_Machine_full, eM ▸ prop_of cp, (F_Machine_full.bindsN fun _ _ _ _ _ _ us hl => match us, hl with | [_], _ => rfl), ok_Machine_full T F_Machine_full (rd_full KK)⟩
  have G_check_sketch : GD P w K mg base "check_sketch" 2 ["machine", "sketch"] (spCheckSketch c) := ⟨_, fd_check_sketch, glo_ok X G (cd.fact 4 (f := .glo "check_sketch") rfl), F_check_sketch.kp, (F_check_sketch.bindsN fun _ _ _ _ _ _ us hl => match us, hl with | [_, _], _ => rfl), ok_check_sketch T F_check_sketch G_is_mask (rd_check_sketch KK)⟩
  have G_sketch_before : GD P w K mg base "sketch_before" 3 ["machine", "sketch", "deed"] (spBefore c) := ⟨_, fd_sketch_before, glo_ok X G (cd.fact 5 (f := .glo "sketch_before") rfl), F_sketch_before.kp, (F_sketch_before.bindsN fun _ _ _ _ _ _ us hl => match us, hl with | [_, _, _], _ => rfl), ok_sketch_before T F_sketch_before G_Machine_full (rd_sketch_before KK)⟩
  have G_meet : GD P w K mg base "meet" 1 ["a", "b"] (spMeet) := ⟨_, fd_meet, glo_ok X G (cd.fact 6 (f := .glo "meet") rfl), F_meet.kp, (F_meet.bindsN fun _ _ _ _ _ _ us hl => match us, hl with | [_, _], _ => rfl), ok_meet T F_meet (rd_meet)⟩
  have G_split : GD P w K mg base "_split" 2 ["a", "b"] (spSplit) := ⟨_, fd_split, glo_ok X G (cd.fact 7 (f := .glo "_split") rfl), F_split.kp, (F_split.bindsN fun _ _ _ _ _ _ us hl => match us, hl with | [_, _], _ => rfl), ok_split T F_split G_meet (rd_split)⟩
  have G_without : GD P w K mg base "without" 3 ["a", "piece"] (spWithout) := ⟨_, fd_without, glo_ok X G (cd.fact 8 (f := .glo "without") rfl), F_without.kp, (F_without.bindsN fun _ _ _ _ _ _ us hl => match us, hl with | [_, _], _ => rfl), ok_without T F_without G_split (rd_without)⟩
  have G_values_of : GD P w K mg base "values_of" 1 ["mask"] (spValues) := ⟨_, fd_values_of, glo_ok X G (cd.fact 9 (f := .glo "values_of") rfl), F_values_of.kp, (F_values_of.bindsN fun _ _ _ _ _ _ us hl => match us, hl with | [_], _ => rfl), ok_values_of T F_values_of (rd_values_of)⟩
  have G_least_disk : GD P w K mg base "least_disk" 2 ["sketch"] (spLeast) := ⟨_, fd_least_disk, glo_ok X G (cd.fact 10 (f := .glo "least_disk") rfl), F_least_disk.kp, (F_least_disk.bindsN fun _ _ _ _ _ _ us hl => match us, hl with | [_], _ => rfl), ok_least_disk T F_least_disk G_values_of (rd_least_disk)⟩
  have G_Paper_init : GC P w K mg base "Paper" c.P 1 ["self", "sketches", "cover", "table"] (spPaper c) := ⟨_, fd_Paper_init, eP ▸ glo_ok X G (cd.fact 46 (f := .glo "Paper") rfl), eP ▸ mkr_ok (cd.fact 81 (f := .mkr "Paper") rfl), (F_Paper_init.bindsN fun _ _ _ _ _ _ us hl => match us, hl with | [_, _, _, _], _ => rfl), ok_Paper_init T F_Paper_init (rd_Paper_init KK)⟩
  have G_check_question : GD P w K mg base "check_question" 3 ["machine", "image", "piece"] (spCheckQ c) := ⟨_, fd_check_question, glo_ok X G (cd.fact 11 (f := .glo "check_question") rfl), F_check_question.kp, (F_check_question.bindsN fun _ _ _ _ _ _ us hl => match us, hl with | [_, _, _], _ => rfl), ok_check_question T F_check_question G_check_sketch (rd_check_question)⟩
  have G_packed_sketch : GD P w K mg base "packed_sketch" 1 ["sketch"] (spPacked) := ⟨_, fd_packed_sketch, glo_ok X G (cd.fact 12 (f := .glo "packed_sketch") rfl), F_packed_sketch.kp, (F_packed_sketch.bindsN fun _ _ _ _ _ _ us hl => match us, hl with | [_], _ => rfl), ok_packed_sketch T F_packed_sketch (rd_packed)⟩
  have G_Search_init : GC P w K mg base "Search" c.S 1 ["self", "machine", "piece"] (spSearch c) := ⟨_, fd_Search_init, eS ▸ glo_ok X G (cd.fact 45 (f := .glo "Search") rfl), eS ▸ mkr_ok (cd.fact 73 (f := .mkr "Search") rfl), (F_Search_init.bindsN fun _ _ _ _ _ _ us hl => match us, hl with | [_, _, _], _ => rfl), ok_Search_init T F_Search_init (rd_Search_init KK)⟩
  have G_Search_place : GM P w K mg base c.S "place" 2 ["self", "sketch", "origin"] (spPlace c) := ⟨clS, _, fd_Search_place, eS ▸ meth_ok (cd.fact 101 (f := .meth "Search" "place") rfl), (F_Search_place.bindsN fun _ _ _ _ _ _ us hl => match us, hl with | [_, _, _], _ => rfl), ok_Search_place T F_Search_place G_meet G_packed_sketch (rd_Search_place KK)⟩
  have G_Search_places : GM P w K mg base c.S "places" 4 ["self", "sketch", "origin"] (spPlaces c) := ⟨clS, _, fd_Search_places, eS ▸ meth_ok (cd.fact 102 (f := .meth "Search" "places") rfl), (F_Search_places.bindsN fun _ _ _ _ _ _ us hl => match us, hl with | [_, _, _], _ => rfl), ok_Search_places T F_Search_places G_without G_Search_place (rd_Search_places KK)⟩
  have G_Search_row : GM P w K mg base c.S "row" 5 ["self", "number"] (spRow c) := ⟨clS, _, fd_Search_row, eS ▸ meth_ok (cd.fact 103 (f := .meth "Search" "row") rfl), (F_Search_row.bindsN fun _ _ _ _ _ _ us hl => match us, hl with | [_, _], _ => rfl), ok_Search_row T F_Search_row G_sketch_before G_Search_places (rd_Search_row KK)⟩
  have G_Search_history : GM P w K mg base c.S "history" 3 ["self"] (spHistory c) := ⟨clS, _, fd_Search_history, eS ▸ meth_ok (cd.fact 104 (f := .meth "Search" "history") rfl), (F_Search_history.bindsN fun _ _ _ _ _ _ us hl => match us, hl with | [_], _ => rfl), ok_Search_history T F_Search_history G_least_disk G_meet (rd_Search_history KK)⟩
  have G_OrderPaper_init : GC P w K mg base "OrderPaper" c.OP 3 ["self", "reach", "cover", "table", "sketches", "links", "steps"] (spOPaper c) := ⟨_, fd_OrderPaper_init, eOP ▸ glo_ok X G (cd.fact 47 (f := .glo "OrderPaper") rfl), eOP ▸ mkr_ok (cd.fact 86 (f := .mkr "OrderPaper") rfl), (F_OrderPaper_init.bindsN fun _ _ _ _ _ _ us hl => match us, hl with | [_, _, _, _, _, _, _], _ => rfl), ok_OrderPaper_init T F_OrderPaper_init G_Paper_init (rd_OrderPaper_init KK)⟩
  have G_OrderAnswer_init : GC P w K mg base "OrderAnswer" c.OA 1 ["self", "told", "paper", "disk", "deeds", "moment"] (spOAnswer c) := ⟨_, fd_OrderAnswer_init, eOA ▸ glo_ok X G (cd.fact 48 (f := .glo "OrderAnswer") rfl), eOA ▸ mkr_ok (cd.fact 94 (f := .mkr "OrderAnswer") rfl), (F_OrderAnswer_init.bindsN fun _ _ _ _ _ _ us hl => match us, hl with | [_, _, _, _, _, _], _ => rfl), ok_OrderAnswer_init T F_OrderAnswer_init (rd_OrderAnswer_init KK)⟩
  have G_late_parts : GD P w K mg base "_late_parts" 4 ["sketch", "early", "late"] (spLateParts) := ⟨_, fd_late_parts, glo_ok X G (cd.fact 13 (f := .glo "_late_parts") rfl), F_late_parts.kp, (F_late_parts.bindsN fun _ _ _ _ _ _ us hl => match us, hl with | [_, _, _], _ => rfl), ok_late_parts T F_late_parts G_meet G_without (rd_late_parts)⟩
  have G_way : GD P w K mg base "_way" 1 ["search", "number"] (spWay c) := ⟨_, fd_way, glo_ok X G (cd.fact 14 (f := .glo "_way") rfl), F_way.kp, (F_way.bindsN fun _ _ _ _ _ _ us hl => match us, hl with | [_, _], _ => rfl), ok_way T F_way (rd_way KK)⟩
  have G_tell_order : GD P w K mg base "tell_order" 6 ["machine", "image", "early", "late"] (spTell c) := ⟨_, fd_tell_order, glo_ok X G (cd.fact 15 (f := .glo "tell_order") rfl), F_tell_order.kp, (F_tell_order.bindsN fun _ _ _ _ _ _ us hl => match us, hl with | [_, _, _, _], _ => rfl), ok_tell_order T F_tell_order G_late_parts G_way G_check_question G_OrderAnswer_init G_OrderPaper_init G_Search_init G_Search_history G_Search_place G_Search_places G_Search_row (rd_tell_order KK)⟩
  have G_l_cell : GD P w K mg base "_law_cell" 1 ["_law_script", "_law_k"] (RwW.spCell K) := ⟨_, fd_l_cell, glo_ok X G (cd.fact 16 (f := .glo "_law_cell") rfl), F_l_cell.kp, (F_l_cell.bindsN fun _ _ _ _ _ _ us hl => match us, hl with | [_, _], _ => rfl), ok_l_cell T F_l_cell (rd_l_cell)⟩
  have G_l_mix : GD P w K mg base "_law_mix" 1 ["_law_cell_here", "_law_k"] (spMix) := ⟨_, fd_l_mix, glo_ok X G (cd.fact 17 (f := .glo "_law_mix") rfl), F_l_mix.kp, (F_l_mix.bindsN fun _ _ _ _ _ _ us hl => match us, hl with | [_, _], _ => rfl), ok_l_mix T F_l_mix (rd_l_mix)⟩
  have G_l_is_int : GD P w K mg base "_law_is_int" 1 ["_law_value"] (spIsInt) := ⟨_, fd_l_is_int, glo_ok X G (cd.fact 18 (f := .glo "_law_is_int") rfl), F_l_is_int.kp, (F_l_is_int.bindsN fun _ _ _ _ _ _ us hl => match us, hl with | [_], _ => rfl), ok_l_is_int T F_l_is_int (rd_l_is_int)⟩
  have G_l_mask : GD P w K mg base "_law_mask" 1 ["_law_number", "_law_size"] (spMask) := ⟨_, fd_l_mask, glo_ok X G (cd.fact 19 (f := .glo "_law_mask") rfl), F_l_mask.kp, (F_l_mask.bindsN fun _ _ _ _ _ _ us hl => match us, hl with | [_, _], _ => rfl), ok_l_mask T F_l_mask (rd_l_mask)⟩
  have G_l_deed : GD P w K mg base "_law_deed" 2 ["_law_cell_here", "_law_sizes", "_law_number"] (lDeed) := ⟨_, fd_l_deed, glo_ok X G (cd.fact 20 (f := .glo "_law_deed") rfl), F_l_deed.kp, (F_l_deed.bindsN fun _ _ _ _ _ _ us hl => match us, hl with | [_, _, _], _ => rfl), ok_l_deed T F_l_deed G_l_mask G_l_mix (rd_l_deed)⟩
  have G_l_parts : GD P w K mg base "_law_parts" 3 ["_law_script", "_law_first", "_law_most"] (lParts K) := ⟨_, fd_l_parts, glo_ok X G (cd.fact 21 (f := .glo "_law_parts") rfl), F_l_parts.kp, (F_l_parts.bindsN fun _ _ _ _ _ _ us hl => match us, hl with | [_, _, _], _ => rfl), ok_l_parts T F_l_parts G_l_cell G_l_deed G_l_mask G_l_mix (rd_l_parts)⟩
  have G_l_sketch : GD P w K mg base "_law_sketch" 2 ["_law_cell_here", "_law_sizes"] (lSketch) := ⟨_, fd_l_sketch, glo_ok X G (cd.fact 22 (f := .glo "_law_sketch") rfl), F_l_sketch.kp, (F_l_sketch.bindsN fun _ _ _ _ _ _ us hl => match us, hl with | [_, _], _ => rfl), ok_l_sketch T F_l_sketch G_l_mask G_l_mix (rd_l_sketch)⟩
  have G_l_piece : GD P w K mg base "_law_piece" 3 ["_law_cell_here", "_law_sizes"] (lPiece) := ⟨_, fd_l_piece, glo_ok X G (cd.fact 23 (f := .glo "_law_piece") rfl), F_l_piece.kp, (F_l_piece.bindsN fun _ _ _ _ _ _ us hl => match us, hl with | [_, _], _ => rfl), ok_l_piece T F_l_piece G_l_sketch (rd_l_piece)⟩
  have G_l_in : GD P w K mg base "_law_in" 1 ["_law_sketch_here", "_law_disk"] (lIn) := ⟨_, fd_l_in, glo_ok X G (cd.fact 24 (f := .glo "_law_in") rfl), F_l_in.kp, (F_l_in.bindsN fun _ _ _ _ _ _ us hl => match us, hl with | [_, _], _ => rfl), ok_l_in T F_l_in (rd_l_in)⟩
  have G_l_has : GD P w K mg base "_law_has" 2 ["_law_piece_here", "_law_disk"] (lHas) := ⟨_, fd_l_has, glo_ok X G (cd.fact 25 (f := .glo "_law_has") rfl), F_l_has.kp, (F_l_has.bindsN fun _ _ _ _ _ _ us hl => match us, hl with | [_, _], _ => rfl), ok_l_has T F_l_has G_l_in (rd_l_has)⟩
  have G_l_disks : GD P w K mg base "_law_disks" 1 ["_law_sketch_here"] (lDisks) := ⟨_, fd_l_disks, glo_ok X G (cd.fact 26 (f := .glo "_law_disks") rfl), F_l_disks.kp, (F_l_disks.bindsN fun _ _ _ _ _ _ us hl => match us, hl with | [_], _ => rfl), ok_l_disks T F_l_disks (rd_l_disks)⟩
  have G_l_can : GD P w K mg base "_law_can" 1 ["_law_deeds", "_law_disk", "_law_deed_here"] (lCan) := ⟨_, fd_l_can, glo_ok X G (cd.fact 27 (f := .glo "_law_can") rfl), F_l_can.kp, (F_l_can.bindsN fun _ _ _ _ _ _ us hl => match us, hl with | [_, _, _], _ => rfl), ok_l_can T F_l_can (rd_l_can)⟩
  have G_l_after : GD P w K mg base "_law_after" 1 ["_law_deeds", "_law_disk", "_law_deed_here"] (lAfter) := ⟨_, fd_l_after, glo_ok X G (cd.fact 28 (f := .glo "_law_after") rfl), F_l_after.kp, (F_l_after.bindsN fun _ _ _ _ _ _ us hl => match us, hl with | [_, _, _], _ => rfl), ok_l_after T F_l_after (rd_l_after)⟩
  have G_l_steps : GD P w K mg base "_law_steps" 3 ["_law_deeds", "_law_first", "_law_piece_here"] (lSteps) := ⟨_, fd_l_steps, glo_ok X G (cd.fact 29 (f := .glo "_law_steps") rfl), F_l_steps.kp, (F_l_steps.bindsN fun _ _ _ _ _ _ us hl => match us, hl with | [_, _, _], _ => rfl), ok_l_steps T F_l_steps G_l_after G_l_can G_l_disks G_l_has (rd_l_steps)⟩
  have G_l_forward : GD P w K mg base "_law_forward" 2 ["_law_deeds", "_law_starts"] (lForward) := ⟨_, fd_l_forward, glo_ok X G (cd.fact 30 (f := .glo "_law_forward") rfl), F_l_forward.kp, (F_l_forward.bindsN fun _ _ _ _ _ _ us hl => match us, hl with | [_, _], _ => rfl), ok_l_forward T F_l_forward G_l_after G_l_can (rd_l_forward)⟩
  have G_l_is_disordered : GD P w K mg base "_law_is_disordered" 4 ["_law_deeds", "_law_first", "_law_image", "_law_early", "_law_late_here"] (lDis) := ⟨_, fd_l_is_disordered, glo_ok X G (cd.fact 31 (f := .glo "_law_is_disordered") rfl), F_l_is_disordered.kp, (F_l_is_disordered.bindsN fun _ _ _ _ _ _ us hl => match us, hl with | [_, _, _, _, _], _ => rfl), ok_l_is_disordered T F_l_is_disordered G_l_forward G_l_has G_l_in G_l_steps (rd_l_is_disordered)⟩
  have G_l_meet : GD P w K mg base "_law_meet" 1 ["_law_a", "_law_b"] (lMeet) := ⟨_, fd_l_meet, glo_ok X G (cd.fact 32 (f := .glo "_law_meet") rfl), F_l_meet.kp, (F_l_meet.bindsN fun _ _ _ _ _ _ us hl => match us, hl with | [_, _], _ => rfl), ok_l_meet T F_l_meet (rd_l_meet)⟩
  have G_l_split : GD P w K mg base "_law_split" 2 ["_law_a", "_law_b"] (lSplit) := ⟨_, fd_l_split, glo_ok X G (cd.fact 33 (f := .glo "_law_split") rfl), F_l_split.kp, (F_l_split.bindsN fun _ _ _ _ _ _ us hl => match us, hl with | [_, _], _ => rfl), ok_l_split T F_l_split G_l_meet (rd_l_split)⟩
  have G_l_without : GD P w K mg base "_law_without" 3 ["_law_a", "_law_piece_here"] (lWithout) := ⟨_, fd_l_without, glo_ok X G (cd.fact 34 (f := .glo "_law_without") rfl), F_l_without.kp, (F_l_without.bindsN fun _ _ _ _ _ _ us hl => match us, hl with | [_, _], _ => rfl), ok_l_without T F_l_without G_l_split (rd_l_without)⟩
  have G_l_before : GD P w K mg base "_law_before" 1 ["_law_deeds", "_law_sizes", "_law_sketch_here", "_law_deed_here"] (lBefore) := ⟨_, fd_l_before, glo_ok X G (cd.fact 35 (f := .glo "_law_before") rfl), F_l_before.kp, (F_l_before.bindsN fun _ _ _ _ _ _ us hl => match us, hl with | [_, _, _, _], _ => rfl), ok_l_before T F_l_before (rd_l_before)⟩
  have G_l_included : GD P w K mg base "_law_included" 1 ["_law_a", "_law_b"] (lIncl) := ⟨_, fd_l_included, glo_ok X G (cd.fact 36 (f := .glo "_law_included") rfl), F_l_included.kp, (F_l_included.bindsN fun _ _ _ _ _ _ us hl => match us, hl with | [_, _], _ => rfl), ok_l_included T F_l_included (rd_l_included)⟩
  have G_l_covers : GD P w K mg base "_law_covers" 2 ["_law_sketches", "_law_entry", "_law_parts_here"] (lCovers) := ⟨_, fd_l_covers, glo_ok X G (cd.fact 37 (f := .glo "_law_covers") rfl), F_l_covers.kp, (F_l_covers.bindsN fun _ _ _ _ _ _ us hl => match us, hl with | [_, _, _], _ => rfl), ok_l_covers T F_l_covers G_l_included G_l_is_int (rd_l_covers)⟩
  have G_l_are_sketches : GD P w K mg base "_law_are_sketches" 2 ["_law_sketches", "_law_sizes"] (lAreSk) := ⟨_, fd_l_are_sketches, glo_ok X G (cd.fact 38 (f := .glo "_law_are_sketches") rfl), F_l_are_sketches.kp, (F_l_are_sketches.bindsN fun _ _ _ _ _ _ us hl => match us, hl with | [_, _], _ => rfl), ok_l_are_sketches T F_l_are_sketches G_l_is_int (rd_l_are_sketches)⟩
  have G_l_is_closed : GD P w K mg base "_law_is_closed" 4 ["_law_deeds", "_law_sizes", "_law_sketches", "_law_table", "_law_piece_here"] (lClosed) := ⟨_, fd_l_is_closed, glo_ok X G (cd.fact 39 (f := .glo "_law_is_closed") rfl), F_l_is_closed.kp, (F_l_is_closed.bindsN fun _ _ _ _ _ _ us hl => match us, hl with | [_, _, _, _, _], _ => rfl), ok_l_is_closed T F_l_is_closed G_l_before G_l_covers G_l_without (rd_l_is_closed)⟩
  have G_l_is_history : GD P w K mg base "_law_is_history" 3 ["_law_deeds", "_law_first", "_law_image", "_law_piece_here", "_law_disk", "_law_numbers"] (lHistory) := ⟨_, fd_l_is_history, glo_ok X G (cd.fact 40 (f := .glo "_law_is_history") rfl), F_l_is_history.kp, (F_l_is_history.bindsN fun _ _ _ _ _ _ us hl => match us, hl with | [_, _, _, _, _, _], _ => rfl), ok_l_is_history T F_l_is_history G_l_after G_l_can G_l_has G_l_in G_l_is_int (rd_l_is_history)⟩
  have G_l_late : GD P w K mg base "_law_late" 4 ["_law_sketch_here", "_law_early", "_law_late_here"] (lLate) := ⟨_, fd_l_late, glo_ok X G (cd.fact 41 (f := .glo "_law_late") rfl), F_l_late.kp, (F_l_late.bindsN fun _ _ _ _ _ _ us hl => match us, hl with | [_, _, _], _ => rfl), ok_l_late T F_l_late G_l_meet G_l_without (rd_l_late)⟩
  have G_l_is_order : GD P w K mg base "_law_is_order" 5 ["_law_deeds", "_law_sizes", "_law_first", "_law_image", "_law_early", "_law_late_here", "_law_paper"] (lOrder c) := ⟨_, fd_l_is_order, glo_ok X G (cd.fact 42 (f := .glo "_law_is_order") rfl), F_l_is_order.kp, (F_l_is_order.bindsN fun _ _ _ _ _ _ us hl => match us, hl with | [_, _, _, _, _, _, _], _ => rfl), ok_l_is_order T F_l_is_order G_l_are_sketches G_l_covers G_l_is_closed G_l_late G_l_meet (rd_l_is_order KK)⟩
  exact ok_law T F_law G_l_after G_l_cell G_l_has G_l_is_disordered G_l_is_history G_l_is_int G_l_is_order G_l_parts G_l_piece G_l_sketch G_tell_order G_Machine_init (rd_law KK)
end RwH
open PySem PySem.W PySem.Calls PyProof.Rows
theorem PySem.Challenge.cw_raisedwreck_k12_whole_order_holds : PySem.Challenge.rw_raisedwreck_k12_whole_order.Holds := by
  w_on; o_law
  refine HandSHeadRun.head_any (r := OpenLaw.row PySem.Challenge.rw_raisedwreck_k12_whole_order) (q := view (OpenLaw.row PySem.Challenge.rw_raisedwreck_k12_whole_order).prog [68]) (H := RwH.hk) (ob := RwH.ob) (M := 6000) (loose := RwH.loose) (d := HandSHeadRun.topDef (OpenLaw.row PySem.Challenge.rw_raisedwreck_k12_whole_order).prog 68) (kwd := []) RwH.ob_eq
    (by kernel_rfl) (fun s => by kernel_rfl) RwH.run (by kernel_rfl) (by kernel_rfl) (by kernel_rfl) (by rfl) (by first | assumption | decide +kernel) (by decide +kernel) ⟨rfl, rfl, rfl, rfl, rfl, by decide +kernel⟩ ?hw ?hc
  case hw => w_witness2
  case hc =>
    refine L2.walk_ofE (l := PySem.Challenge.rw_raisedwreck_k12_whole_order) (n := 63) (k := 7) (x := "_law_script") (CX := L2.CX0) rfl (by decide) (by kernel_rfl) ⟨rfl, by decide, by decide⟩ ?F (fun _ _ _ _ z => z)
    intro w mg fa h Y G hmg0
    obtain ⟨K, KX, c⟩ := Y
    have hmg : mg ("law" : PySem.Str) = some (.ref fa) := by
      have e : (HandSHeadRun.topDef (OpenLaw.row PySem.Challenge.rw_raisedwreck_k12_whole_order).prog 68).name = ("law" : PySem.Str) := by kernel_rfl
      rw [← e]
      exact hmg0
    obtain ⟨fd, hb, hF⟩ := RwH.facts (P := (PySem.Challenge.rw_raisedwreck_k12_whole_order).prog) (w := w) KX G hmg c
    exact ⟨K, fd, RwW.spLaw K, KX, hb, fun H a ns hl _ hS => ⟨a, ns, rfl, hS, hl, fun _ => rfl⟩, hF⟩
