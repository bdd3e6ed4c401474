import PyProof.Rows.All
import Wide.All
import OpenK.AllK
import Wide.FinOn
import HandS.ForMost
import HandS.Wide
import HandS.WideBits
import HandS.Conv
import HandS.SortInts
import HandS.IsInst
import HandS.TupAny
import HandS.Defaults
import HandS.HeadHook1
import HandS.HeadHook2
import KE.KStateDown
import HandS.More
import HandS.WordsExc
import HandS.Head0
import HandS.Head1
import HandS.Head2
import HandS.Head3
import HandS.HeadEnd
import PySem.Challenge.RW_rulewheel_k10_condition_meaning
set_option Elab.async false
set_option linter.all false
set_option maxRecDepth 100000
set_option maxHeartbeats 0
/-! TLm: what mirrors are written in. Plain Lean, no import. -/
namespace TL
/-- what an exception of the program bears -/
inductive XA where
  | int (i : Int) | txt (s : List Nat)
  deriving DecidableEq
inductive Er where
  | stuck | exc (cls : Nat) (args : List XA)
  deriving DecidableEq
abbrev Mr (α : Type) : Type := Except Er α
theorem bind_ok {α β : Type} {p : Mr α} {k : α → Mr β} {r : β} (h : (p >>= k) = .ok r) : ∃ a, p = .ok a ∧ k a = .ok r := by
  cases p with
  | error e => cases h
  | ok a => exact ⟨a, rfl, h⟩
theorem ok_bind {α β : Type} {a : α} {k : α → Mr β} : ((.ok a : Mr α) >>= k) = k a := rfl
theorem error_bind {α β : Type} {e : Er} {k : α → Mr β} : ((.error e : Mr α) >>= k) = .error e := rfl
/-! places -/
def ixQ (n : Nat) (i : Int) : Option Nat := if 0 ≤ i then (if i < n then some i.toNat else none) else if -(n : Int) ≤ i then some (i + n).toNat else none
def atQ {α : Type} (xs : List α) (i : Int) : Option α := (ixQ xs.length i).bind fun j => xs[j]?
def getI {α : Type} (xs : List α) (i : Int) : Mr α := match atQ xs i with
  | some x => .ok x
  | none => .error .stuck
def setI {α : Type} (xs : List α) (i : Int) (x : α) : Mr (List α) := match ixQ xs.length i with
  | some j => .ok (xs.set j x)
  | none => .error .stuck
theorem ixQ_nat {n j : Nat} (h : j < n) : ixQ n (j : Int) = some j := by
  unfold ixQ
  rw [if_pos (by omega), if_pos (by omega)]
  simp
theorem getI_nat {α : Type} {xs : List α} {j : Nat} {x : α} (h : xs[j]? = some x) : getI xs (j : Int) = .ok x := by
  have hj : j < xs.length := (List.getElem?_eq_some_iff.mp h).1
  unfold getI atQ
  rw [ixQ_nat hj]
  show (match xs[j]? with | some x => _ | none => _) = _
  rw [h]
theorem getI_of {α : Type} {xs : List α} {i : Int} (h0 : 0 ≤ i) (h : i < xs.length) : ∃ x, xs[i.toNat]? = some x ∧ getI xs i = .ok x := by
  have hj : i.toNat < xs.length := by omega
  refine ⟨xs[i.toNat], by simp [hj], ?_⟩
  have := getI_nat (xs := xs) (j := i.toNat) (x := xs[i.toNat]) (by simp [hj])
  rwa [Int.toNat_of_nonneg h0] at this
theorem getI_some {α : Type} {xs : List α} {i : Int} {x : α} (h0 : 0 ≤ i) (h : getI xs i = .ok x) : xs[i.toNat]? = some x := by
  unfold getI at h
  split at h
  · rename_i y e
    cases h
    unfold atQ ixQ at e
    rw [if_pos h0] at e
    split at e
    · exact e
    · cases e
  · cases h
theorem setI_nat {α : Type} {xs : List α} {j : Nat} {x : α} (h : j < xs.length) : setI xs (j : Int) x = .ok (xs.set j x) := by
  unfold setI
  rw [ixQ_nat h]
/-! ranges -/
def rngI (a b : Int) : List Int := (List.range (b - a).toNat).map fun (i : Nat) => a + (i : Int)
def rngD (a b : Int) : List Int := (List.range (a - b).toNat).map fun (i : Nat) => a + (i : Int) * (-1)
def rngP (a b : Int) : Mr Unit := if (-(2 ^ 62) ≤ a ∧ a < 2 ^ 62) ∧ (-(2 ^ 62) ≤ b ∧ b < 2 ^ 62) then .ok () else .error .stuck
theorem rngP_pos {a b : Int} (h1 : -(2 ^ 62) ≤ a) (h2 : a < 2 ^ 62) (h3 : -(2 ^ 62) ≤ b) (h4 : b < 2 ^ 62) : rngP a b = .ok () := if_pos ⟨⟨h1, h2⟩, h3, h4⟩
/-! blocks, loops -/
inductive Jn (τ ω : Type) where
  | go (s : τ) | out (w : ω)
def Jn.k {τ ω : Type} (k : τ → Mr ω) : Jn τ ω → Mr ω
  | .go s => k s
  | .out w => .ok w
inductive Stp (τ ω : Type) where
  | go (s : τ) | cnt (s : τ) | brk (s : τ) | out (w : ω)
def Stp.k {τ ω : Type} (k : τ → Mr ω) : Stp τ ω → Mr ω
  | .go s => k s
  | .cnt s => k s
  | .brk s => k s
  | .out w => .ok w
def forL {α τ ω : Type} : List α → τ → (τ → α → Mr (Stp τ ω)) → Mr (Stp τ ω)
  | [], s, _ => .ok (.go s)
  | x :: xs, s, f => match f s x with
    | .error e => .error e
    | .ok (.go s') => forL xs s' f
    | .ok (.cnt s') => forL xs s' f
    | .ok (.brk s') => .ok (.brk s')
    | .ok (.out w) => .ok (.out w)
def whileL {τ ω : Type} (c : τ → Mr Bool) (f : τ → Mr (Stp τ ω)) : Nat → τ → Mr (Stp τ ω)
  | 0, _ => .error .stuck
  | n + 1, s => match c s with
    | .error e => .error e
    | .ok false => .ok (.go s)
    | .ok true => match f s with
      | .error e => .error e
      | .ok (.go s') => whileL c f n s'
      | .ok (.cnt s') => whileL c f n s'
      | .ok (.brk s') => .ok (.brk s')
      | .ok (.out w) => .ok (.out w)
/-! comprehensions -/
def lcR {α β τ : Type} : List α → τ → (τ → α → Mr (Option β × τ)) → Mr (List β × τ)
  | [], s, _ => .ok ([], s)
  | x :: xs, s, f => match f s x with
    | .error e => .error e
    | .ok (o, s1) => match lcR xs s1 f with
      | .error e => .error e
      | .ok (ys, s2) => .ok (o.toList ++ ys, s2)
def mapR {α β : Type} (f : α → Mr β) : List α → Mr (List β)
  | [] => .ok []
  | x :: xs => match f x with
    | .error e => .error e
    | .ok y => match mapR f xs with
      | .error e => .error e
      | .ok ys => .ok (y :: ys)
def mapS {α β τ : Type} (f : τ → α → Mr (β × τ)) : List α → τ → Mr (List β × τ)
  | [], s => .ok ([], s)
  | x :: xs, s => match f s x with
    | .error e => .error e
    | .ok (y, s1) => match mapS f xs s1 with
      | .error e => .error e
      | .ok (ys, s2) => .ok (y :: ys, s2)
def filR {α β : Type} (f : α → Mr (Option β)) : List α → Mr (List β)
  | [] => .ok []
  | x :: xs => match f x with
    | .error e => .error e
    | .ok o => match filR f xs with
      | .error e => .error e
      | .ok ys => .ok (o.toList ++ ys)
theorem mapR_ok {α β : Type} {f : α → Mr β} {g : α → β} : ∀ {xs : List α}, (∀ x ∈ xs, f x = .ok (g x)) → mapR f xs = .ok (xs.map g)
  | [], _ => rfl
  | x :: xs, h => by
    unfold mapR
    rw [h x (List.mem_cons_self ..)]
    dsimp only
    rw [mapR_ok fun y hy => h y (List.mem_cons_of_mem _ hy)]
    rfl
theorem forL_go {α τ ω : Type} {f : τ → α → Mr (Stp τ ω)} {g : τ → α → τ} : ∀ {xs : List α} {s : τ}, (∀ s, ∀ x ∈ xs, f s x = .ok (.go (g s x))) → forL xs s f = .ok (.go (xs.foldl g s))
  | [], _, _ => rfl
  | x :: xs, s, h => by
    unfold forL
    rw [h s x (List.mem_cons_self ..)]
    exact forL_go fun s y hy => h s y (List.mem_cons_of_mem _ hy)
/-! bounds -/
def growOk {α : Type} (xs : List α) : Mr Unit := if xs.length < 16777216 then .ok () else .error .stuck
def catOk {α β : Type} (xs : List α) (ys : List β) : Mr Unit := if xs.length + ys.length ≤ 16777216 then .ok () else .error .stuck
def repL {α : Type} (xs : List α) (n : Int) : List α := (List.replicate n.toNat xs).flatten
def repOk {α : Type} (xs : List α) (n : Int) : Mr Unit := if -(2 ^ 63) ≤ n ∧ n < 2 ^ 63 ∧ xs.length * n.toNat ≤ 16777216 then .ok () else .error .stuck
def sizeP {α : Type} (xs : List α) : Mr Unit := if xs.length ≤ 16777216 then .ok () else .error .stuck
/-! slices -/
def sIxQ (n d : Nat) : Option Int → Nat
  | none => d
  | some v => if v < 0 then (v + (n : Int)).toNat else min v.toNat n
def cut {α : Type} (xs : List α) (lo hi : Option Int) : List α := (xs.drop (sIxQ xs.length 0 lo)).take (sIxQ xs.length xs.length hi - sIxQ xs.length 0 lo)
theorem cut_from {α : Type} {xs : List α} {a : Int} (h : 0 ≤ a) : cut xs (some a) none = xs.drop a.toNat := by
  unfold cut sIxQ
  simp only [if_neg (show ¬ a < 0 by omega)]
  by_cases hl : a.toNat ≤ xs.length
  · rw [Nat.min_eq_left hl, List.take_of_length_le]
    rw [List.length_drop]
    exact Nat.le_refl _
  · rw [Nat.min_eq_right (by omega), List.drop_eq_nil_of_le (Nat.le_refl _), List.drop_eq_nil_of_le (by omega)]
    simp
theorem cut_to {α : Type} {xs : List α} {b : Int} (h : 0 ≤ b) : cut xs none (some b) = xs.take b.toNat := by
  unfold cut sIxQ
  simp only [if_neg (show ¬ b < 0 by omega)]
  rw [List.drop_zero, Nat.sub_zero]
  by_cases hl : b.toNat ≤ xs.length
  · rw [Nat.min_eq_left hl]
  · rw [Nat.min_eq_right (by omega), List.take_of_length_le (Nat.le_refl _), List.take_of_length_le (by omega)]
/-! numbers -/
def absI (a : Int) : Int := if a < 0 then -a else a
/-- how many bits (as the model counts them) -/
def bitsQ (a : Int) : Nat := if a.natAbs = 0 then 0 else a.natAbs.log2 + 1
def modP (a b : Int) : Mr Int := if 0 < b then .ok (a % b) else .error .stuck
def fdivP (a b : Int) : Mr Int := if 0 < b ∧ b.natAbs.log2 < 9000 then .ok (a / b) else .error .stuck
def mulP (a b : Int) : Mr Int := if bitsQ a + bitsQ b ≤ 134217728 then .ok (a * b) else .error .stuck
def powP (a b : Int) : Mr Int := if 0 ≤ b ∧ (bitsQ a : Int) * b ≤ 2 ^ 27 then .ok (a ^ b.toNat) else .error .stuck
def shrP (a b : Int) : Mr Int := if 0 ≤ b then .ok (a / 2 ^ b.toNat) else .error .stuck
theorem modP_pos {a b : Int} (h : 0 < b) : modP a b = .ok (a % b) := if_pos h
def sortI (ns : List Int) : List Int := ns.mergeSort fun a b => decide (a ≤ b)
end TL

/-! TLp: rules for mirrors that come to an end well. Plain Lean. -/
namespace TL
def Post {α : Type} (m : Mr α) (Q : α → Prop) : Prop := ∃ a, m = .ok a ∧ Q a
section
variable {α β τ ω : Type}
theorem post_ok {a : α} {Q : α → Prop} (h : Q a) : Post (.ok a : Mr α) Q := ⟨a, rfl, h⟩
theorem post_eq {m : Mr α} {a : α} {Q : α → Prop} (e : m = .ok a) (h : Q a) : Post m Q := ⟨a, e, h⟩
theorem post_bind {m : Mr α} {k : α → Mr β} {Q : α → Prop} {R : β → Prop} (h : Post m Q) (g : ∀ a, Q a → Post (k a) R) : Post (m >>= k) R := by
  obtain ⟨a, e, q⟩ := h
  obtain ⟨b, e2, r⟩ := g a q
  exact ⟨b, by rw [e]; exact e2, r⟩
theorem post_bindE {m : Mr α} {k : α → Mr β} {a : α} {R : β → Prop} (e : m = .ok a) (g : Post (k a) R) : Post (m >>= k) R := by
  rw [e]
  exact g
theorem post_if {c : Prop} [Decidable c] {a b : Mr α} {Q : α → Prop} (h1 : c → Post a Q) (h2 : ¬ c → Post b Q) : Post (if c then a else b) Q := by
  by_cases h : c
  · rw [if_pos h]
    exact h1 h
  · rw [if_neg h]
    exact h2 h
theorem post_mono {m : Mr α} {Q R : α → Prop} (h : Post m Q) (g : ∀ a, Q a → R a) : Post m R := by
  obtain ⟨a, e, q⟩ := h
  exact ⟨a, e, g a q⟩
/-- what a block may come to -/
def JQ (A : τ → Prop) (B : ω → Prop) : Jn τ ω → Prop
  | .go s => A s
  | .out w => B w
def SQ (A : τ → Prop) (B : τ → Prop) (W : ω → Prop) : Stp τ ω → Prop
  | .go s => A s
  | .cnt s => A s
  | .brk s => B s
  | .out w => W w
theorem post_jn {m : Mr (Jn τ ω)} {k : τ → Mr ω} {A : τ → Prop} {Q : ω → Prop} (h : Post m (JQ A Q)) (g : ∀ s, A s → Post (k s) Q) : Post (m >>= Jn.k k) Q := by
  refine post_bind h fun j q => ?_
  cases j with
  | go s => exact g s q
  | out w => exact post_ok q
theorem post_stp {m : Mr (Stp τ ω)} {k : τ → Mr ω} {A : τ → Prop} {Q : ω → Prop} (h : Post m (SQ A A Q)) (g : ∀ s, A s → Post (k s) Q) : Post (m >>= Stp.k k) Q := by
  refine post_bind h fun j q => ?_
  cases j with
  | go s => exact g s q
  | cnt s => exact g s q
  | brk s => exact g s q
  | out w => exact post_ok q
theorem post_for {xs : List α} {s : τ} {f : τ → α → Mr (Stp τ ω)} (I : Nat → τ → Prop) {W : ω → Prop} {n : Nat} (h0 : I n s) (h : ∀ k s x, x ∈ xs → k < n + xs.length → I k s → Post (f s x) (SQ (I (k + 1)) (I (n + xs.length)) W)) : Post (forL xs s f) (SQ (I (n + xs.length)) (I (n + xs.length)) W) := by
  induction xs generalizing s n with
  | nil => exact post_ok h0
  | cons x xs ih =>
    have en : n + (x :: xs).length = n + 1 + xs.length := by simp; omega
    rw [en] at h ⊢
    obtain ⟨j, e, q⟩ := h n s x (List.mem_cons_self ..) (by omega) h0
    unfold forL
    rw [e]
    cases j with
    | go s1 => exact ih q fun k s y hy hk => h k s y (List.mem_cons_of_mem _ hy) hk
    | cnt s1 => exact ih q fun k s y hy hk => h k s y (List.mem_cons_of_mem _ hy) hk
    | brk s1 => exact post_ok q
    | out w => exact post_ok q
theorem post_forI {xs : List α} {s : τ} {f : τ → α → Mr (Stp τ ω)} {I : τ → Prop} {W : ω → Prop} (h0 : I s) (h : ∀ s x, x ∈ xs → I s → Post (f s x) (SQ I I W)) : Post (forL xs s f) (SQ I I W) :=
  post_for (n := 0) (fun _ => I) h0 fun _ s x hx _ i => h s x hx i
theorem post_forA {xs : List α} {s : τ} {f : τ → α → Mr (Stp τ ω)} (I : Nat → τ → Prop) {A : τ → Prop} {W : ω → Prop} (h0 : I 0 s) (h : ∀ k s x, x ∈ xs → k < xs.length → I k s → Post (f s x) (SQ (I (k + 1)) (I xs.length) W)) (fin : ∀ s, I xs.length s → A s) : Post (forL xs s f) (SQ A A W) := by
  refine post_mono (post_for (n := 0) (W := W) I h0 fun k s x hx hk hs => ?_) fun j hj => ?_
  · rw [Nat.zero_add] at hk ⊢
    exact h k s x hx hk hs
  · rw [Nat.zero_add] at hj
    cases j with
    | go s => exact fin s hj
    | cnt s => exact fin s hj
    | brk s => exact fin s hj
    | out w => exact hj
theorem post_mapS {f : τ → α → Mr (β × τ)} {I : τ → Prop} {B : β → Prop} : ∀ {xs : List α} {s : τ}, I s → (∀ s x, x ∈ xs → I s → Post (f s x) fun r => B r.1 ∧ I r.2) → Post (mapS f xs s) fun r => r.1.length = xs.length ∧ (∀ y ∈ r.1, B y) ∧ I r.2
  | [], s, h0, _ => post_ok (a := ([], s)) ⟨rfl, fun _ h => (by cases h), h0⟩
  | x :: xs, s, h0, h => by
    obtain ⟨⟨y, s1⟩, e, b, i⟩ := h s x (List.mem_cons_self ..) h0
    obtain ⟨⟨ys, s2⟩, e2, l, bs, i2⟩ := post_mapS (xs := xs) i fun s y hy => h s y (List.mem_cons_of_mem _ hy)
    refine ⟨(y :: ys, s2), ?_, by simpa using l, ?_, i2⟩
    · unfold mapS
      rw [e]
      show (match mapS f xs s1 with | .error e => _ | .ok (ys, s2) => _) = _
      rw [e2]
    · intro z hz
      rcases List.mem_cons.mp hz with rfl | hz
      · exact b
      · exact bs z hz
theorem post_filR {f : α → Mr (Option β)} : ∀ {xs : List α}, (∀ x ∈ xs, Post (f x) fun _ => True) → Post (filR f xs) fun r => r.length ≤ xs.length
  | [], _ => post_ok (Nat.le_refl _)
  | x :: xs, h => by
    obtain ⟨o, e, _⟩ := h x (List.mem_cons_self ..)
    obtain ⟨ys, e2, l⟩ := post_filR (xs := xs) fun y hy => h y (List.mem_cons_of_mem _ hy)
    refine ⟨o.toList ++ ys, ?_, ?_⟩
    · unfold filR
      rw [e]
      show (match filR f xs with | .error e => _ | .ok ys => _) = _
      rw [e2]
    · have : o.toList.length ≤ 1 := by cases o <;> simp
      simp only [List.length_append, List.length_cons]
      omega
end
theorem rngI_len (a b : Int) : (rngI a b).length = (b - a).toNat := by simp [rngI]
theorem mem_rngI {a b x : Int} : x ∈ rngI a b ↔ a ≤ x ∧ x < b := by
  unfold rngI
  rw [List.mem_map]
  constructor
  · rintro ⟨i, hi, rfl⟩
    have := List.mem_range.mp hi
    omega
  · rintro ⟨h1, h2⟩
    refine ⟨(x - a).toNat, List.mem_range.mpr (by omega), by omega⟩
theorem mem_drop {α : Type} {xs : List α} {n : Nat} {x : α} : x ∈ xs.drop n ↔ ∃ i, n ≤ i ∧ xs[i]? = some x := by
  rw [List.mem_iff_getElem?]
  constructor
  · rintro ⟨i, h⟩
    rw [List.getElem?_drop] at h
    exact ⟨n + i, by omega, h⟩
  · rintro ⟨i, h1, h2⟩
    refine ⟨i - n, ?_⟩
    rw [List.getElem?_drop]
    rwa [show n + (i - n) = i by omega]
theorem modP_ok {a b : Int} (h : 0 < b) : modP a b = .ok (a % b) := if_pos h
theorem fdivP_ok {a b : Int} (h : 0 < b) (h2 : b < 2 ^ 62) : fdivP a b = .ok (a / b) := by
  have h1 : b.natAbs < 2 ^ 62 := by omega
  have h3 : b.natAbs ≠ 0 := by omega
  have h4 := (Nat.log2_lt h3).mpr h1
  exact if_pos ⟨h, by omega⟩
theorem bitsQ_le {a : Int} {k : Nat} (h : a.natAbs < 2 ^ k) : bitsQ a ≤ k := by
  unfold bitsQ
  split
  · omega
  · rename_i h0
    have := (Nat.log2_lt h0).mpr h
    omega
theorem mulP_ok {a b : Int} (h1 : 0 ≤ a) (h2 : a < 2 ^ 62) (h3 : 0 ≤ b) (h4 : b < 2 ^ 62) : mulP a b = .ok (a * b) := by
  unfold mulP
  have := bitsQ_le (a := a) (k := 62) (by omega)
  have := bitsQ_le (a := b) (k := 62) (by omega)
  rw [if_pos (by omega)]
theorem shrP_ok {a b : Int} (h : 0 ≤ b) : shrP a b = .ok (a / 2 ^ b.toNat) := if_pos h
theorem growOk_ok {α : Type} {xs : List α} (h : xs.length < 16777216) : growOk xs = .ok () := if_pos h
theorem catOk_ok {α β : Type} {xs : List α} {ys : List β} (h : xs.length + ys.length ≤ 16777216) : catOk xs ys = .ok () := if_pos h
theorem sizeP_ok {α : Type} {xs : List α} (h : xs.length ≤ 16777216) : sizeP xs = .ok () := if_pos h
theorem repL_len {α : Type} {xs : List α} {n : Int} : (repL xs n).length = xs.length * n.toNat := by
  unfold repL
  simp [List.length_flatten, Nat.mul_comm]
theorem post_getI {α : Type} {xs : List α} {i : Int} (h0 : 0 ≤ i) (h : i < xs.length) : Post (getI xs i) fun x => xs[i.toNat]? = some x := by
  obtain ⟨x, e, g⟩ := getI_of h0 h
  exact ⟨x, g, e⟩
theorem post_setI {α : Type} {xs : List α} {i : Int} {x : α} (h0 : 0 ≤ i) (h : i < xs.length) : Post (setI xs i x) fun r => r = xs.set i.toNat x := by
  have := setI_nat (xs := xs) (j := i.toNat) (x := x) (by omega)
  rw [Int.toNat_of_nonneg h0] at this
  exact ⟨_, this, rfl⟩
end TL

/-! TL: typed readings. A layer of our own over the hand layer: values by typed representations, a stable heap S beside a list of own cells. -/
namespace TL
open PySem L2

/-! ### representations -/
structure TV where
  p : PySem.W.Frag → Hp → V → Prop
  mono : ∀ {K : PySem.W.Frag} {S S' : Hp} {v : V}, Same S S' → p K S v → p K S' v
structure Rep (α : Type) where
  p : PySem.W.Frag → Hp → V → α → Prop
  mono : ∀ {K : PySem.W.Frag} {S S' : Hp} {v : V} {a : α}, Same S S' → p K S v a → p K S' v a
def tv {α : Type} (R : Rep α) (a : α) : TV := ⟨fun K S v => R.p K S v a, R.mono⟩

def Pre (ls ls' : List Addr) : Prop := ∃ more, ls' = ls ++ more
theorem Pre.refl (ls : List Addr) : Pre ls ls := ⟨[], by simp⟩
theorem Pre.trans {a b c : List Addr} (h : Pre a b) (g : Pre b c) : Pre a c := by
  obtain ⟨x, rfl⟩ := h
  obtain ⟨y, rfl⟩ := g
  exact ⟨x ++ y, by simp⟩
theorem Pre.get {ls ls' : List Addr} (h : Pre ls ls') {k : Nat} {a : Addr} (e : ls[k]? = some a) : ls'[k]? = some a := by
  obtain ⟨m, rfl⟩ := h
  rw [List.getElem?_append_left (List.getElem?_eq_some_iff.mp e).1]
  exact e
theorem Pre.mem {ls ls' : List Addr} (h : Pre ls ls') {a : Addr} (e : a ∈ ls) : a ∈ ls' := by
  obtain ⟨m, rfl⟩ := h
  exact List.mem_append_left _ e

/-- what a slot holds: a value that stands, or an own cell -/
inductive SV where
  | val (t : TV) | cell (k : Nat)
def SV.p (K : PySem.W.Frag) (S : Hp) (ls : List Addr) (v : V) : SV → Prop
  | .val t => t.p K S v
  | .cell k => ∃ a, ls[k]? = some a ∧ v = .ref a
theorem SV.mono {K : PySem.W.Frag} {S S' : Hp} {ls ls' : List Addr} {v : V} (h : Same S S') (g : Pre ls ls') : ∀ {s : SV}, s.p K S ls v → s.p K S' ls' v
  | .val t, q => t.mono h q
  | .cell k, ⟨a, e, r⟩ => ⟨a, g.get e, r⟩
def AllS (K : PySem.W.Frag) (S : Hp) (ls : List Addr) : List V → List SV → Prop := Paired fun v s => s.p K S ls v
theorem Paired.imp {α β : Type} {F G : α → β → Prop} : ∀ {l₁ : List α} {l₂ : List β}, Paired F l₁ l₂ → (∀ a b, F a b → G a b) → Paired G l₁ l₂
  | _, _, .nil, _ => .nil
  | _, _, .cons r t, f => .cons (f _ _ r) (Paired.imp t f)
theorem AllS.mono {K : PySem.W.Frag} {S S' : Hp} {ls ls' : List Addr} {vs : List V} {ss : List SV} (h : Same S S') (g : Pre ls ls') (q : AllS K S ls vs ss) : AllS K S' ls' vs ss :=
  Paired.imp q fun _ _ z => SV.mono h g z
theorem Paired.get1 {α β : Type} {F : α → β → Prop} : ∀ {l₁ : List α} {l₂ : List β} {i : Nat} {x : α}, Paired F l₁ l₂ → l₁[i]? = some x → ∃ y, l₂[i]? = some y ∧ F x y
  | _, _, _, _, .nil, e => by simp at e
  | _, _, 0, _, .cons r _, e => by
    simp at e
    subst e
    exact ⟨_, rfl, r⟩
  | _, _, i + 1, x, .cons _ t, e => by
    obtain ⟨u, h1, h2⟩ := Paired.get1 (i := i) (x := x) t (by simpa using e)
    exact ⟨u, by simpa using h1, h2⟩
theorem Paired.get2 {α β : Type} {F : α → β → Prop} : ∀ {l₁ : List α} {l₂ : List β} {i : Nat} {y : β}, Paired F l₁ l₂ → l₂[i]? = some y → ∃ x, l₁[i]? = some x ∧ F x y
  | _, _, _, _, .nil, e => by simp at e
  | _, _, 0, _, .cons r _, e => by
    simp at e
    subst e
    exact ⟨_, rfl, r⟩
  | _, _, i + 1, x, .cons _ t, e => by
    obtain ⟨u, h1, h2⟩ := Paired.get2 (i := i) (y := x) t (by simpa using e)
    exact ⟨u, by simpa using h1, h2⟩
theorem Paired.app {α β : Type} {F : α → β → Prop} : ∀ {a : List α} {b : List β} {c : List α} {d : List β}, Paired F a b → Paired F c d → Paired F (a ++ c) (b ++ d)
  | _, _, _, _, .nil, q => q
  | _, _, _, _, .cons r t, q => .cons r (Paired.app t q)
theorem Paired.set {α β : Type} {F : α → β → Prop} {x : α} {y : β} (r : F x y) : ∀ {a : List α} {b : List β} (j : Nat), Paired F a b → Paired F (a.set j x) (b.set j y)
  | _, _, _, .nil => .nil
  | _, _, 0, .cons _ t => .cons r t
  | _, _, j + 1, .cons q t => .cons q (Paired.set r j t)
theorem Paired.take {α β : Type} {F : α → β → Prop} : ∀ {a : List α} {b : List β} (n : Nat), Paired F a b → Paired F (a.take n) (b.take n)
  | _, _, 0, _ => by simp; exact .nil
  | _, _, _ + 1, .nil => .nil
  | _, _, n + 1, .cons q t => .cons q (Paired.take n t)
theorem Paired.drop {α β : Type} {F : α → β → Prop} : ∀ {a : List α} {b : List β} (n : Nat), Paired F a b → Paired F (a.drop n) (b.drop n)
  | _, _, 0, q => q
  | _, _, _ + 1, .nil => .nil
  | _, _, n + 1, .cons q t => Paired.drop n t
theorem Paired.rev {α β : Type} {F : α → β → Prop} : ∀ {a : List α} {b : List β}, Paired F a b → Paired F a.reverse b.reverse
  | _, _, .nil => .nil
  | _, _, .cons q t => by
    rw [List.reverse_cons, List.reverse_cons]
    exact Paired.app (Paired.rev t) (.cons q .nil)

/-- a cell's content -/
structure MV where
  q : PySem.W.Frag → Hp → Addr → HO → Prop
  mono : ∀ {K : PySem.W.Frag} {S S' : Hp} {a : Addr} {o : HO}, Same S S' → q K S a o → q K S' a o
def AllT (K : PySem.W.Frag) (S : Hp) : List V → List TV → Prop := Paired fun v t => t.p K S v
theorem AllT.mono {K : PySem.W.Frag} {S S' : Hp} {vs : List V} {ts : List TV} (h : Same S S') (q : AllT K S vs ts) : AllT K S' vs ts :=
  Paired.imp q fun _ t z => t.mono h z
/-- a list, changed by its def alone -/
def mL (ts : List TV) : MV where
  q := fun K S _ o => ∃ vs, o = .lst vs ∧ vs.length ≤ sizeLine ∧ AllT K S vs ts
  mono := fun h ⟨vs, e, l, r⟩ => ⟨vs, e, l, r.mono h⟩

/-! ### states -/
structure Bs where
  H0 : Hp
  S0 : Hp
  C0 : List Addr
structure HS (K : PySem.W.Frag) (B : Bs) (S : Hp) (ls : List Addr) (Mu : List (Option MV)) (H : Hp) : Prop where
  ex : Same S H
  s0 : Same B.S0 S
  new : ∀ a o, S a = some o → B.S0 a = some o ∨ B.H0 a = none ∨ a ∈ B.C0
  fr : ∀ a o, B.H0 a = some o → a ∉ B.C0 → H a = some o
  c0 : Pre B.C0 ls
  len : ls.length = Mu.length
  nd : ls.Nodup
  cell : ∀ (k : Nat) (m : MV), Mu[k]? = some (some m) → ∃ a o, ls[k]? = some a ∧ S a = none ∧ H a = some o ∧ m.q K S a o
  old : ∀ a ∈ ls, ∃ o, H a = some o
  lsn : ∀ a ∈ ls, B.H0 a = none ∨ a ∈ B.C0

section
variable {K : PySem.W.Frag} {B : Bs} {S S' H : Hp} {ls : List Addr} {Mu : List (Option MV)} {p a : Addr} {o o' : HO} {k : Nat} {m m' : MV}
theorem HS.fresh (h : HS K B S ls Mu H) (n : H p = none) : S p = none ∧ p ∉ ls ∧ B.H0 p = none := by
  have hl : p ∉ ls := fun z => by
    obtain ⟨o, e⟩ := h.old p z
    rw [n] at e
    cases e
  refine ⟨?_, hl, ?_⟩
  · cases e : S p with
    | none => rfl
    | some o =>
      rw [h.ex p o e] at n
      cases n
  · cases e : B.H0 p with
    | none => rfl
    | some o =>
      rw [h.fr p o e fun z => hl (h.c0.mem z)] at n
      cases n
theorem same_new (n : S p = none) : Same S (upd S p o) := fun b u e => by
  rw [upd_ne (ne_of_none e n)]
  exact e
/-- a new thing that stands -/
theorem HS.laid (h : HS K B S ls Mu H) (n : H p = none) : Same S (upd S p o) ∧ HS K B (upd S p o) ls Mu (upd H p o) := by
  obtain ⟨n1, n2, n3⟩ := h.fresh n
  have s1 : Same S (upd S p o) := same_new n1
  refine ⟨s1, ⟨fun b u e => ?_, h.s0.trans s1, fun b u e => ?_, fun b u e hb => ?_, h.c0, h.len, h.nd, fun k m e => ?_, fun b hb => ?_, h.lsn⟩⟩
  · by_cases hb : b = p
    · subst hb
      rw [upd_same] at e ⊢
      exact e
    · rw [upd_ne hb] at e ⊢
      exact h.ex b u e
  · by_cases hb : b = p
    · subst hb
      exact .inr (.inl n3)
    · rw [upd_ne hb] at e
      exact h.new b u e
  · have hne : b ≠ p := fun z => by
      subst z
      rw [n3] at e
      cases e
    rw [upd_ne hne]
    exact h.fr b u e hb
  · obtain ⟨a, u, e1, e2, e3, e4⟩ := h.cell k m e
    have hne : a ≠ p := fun z => n2 (z ▸ List.mem_of_getElem? e1)
    exact ⟨a, u, e1, by rw [upd_ne hne]; exact e2, by rw [upd_ne hne]; exact e3, m.mono s1 e4⟩
  · obtain ⟨u, e⟩ := h.old b hb
    have hne : b ≠ p := fun z => n2 (z ▸ hb)
    exact ⟨u, by rw [upd_ne hne]; exact e⟩
/-- a new thing that nobody holds yet -/
theorem HS.loose (h : HS K B S ls Mu H) (n : H p = none) : HS K B S ls Mu (upd H p o) := by
  obtain ⟨n1, n2, n3⟩ := h.fresh n
  refine ⟨fun b u e => ?_, h.s0, h.new, fun b u e hb => ?_, h.c0, h.len, h.nd, fun k m e => ?_, fun b hb => ?_, h.lsn⟩
  · rw [upd_ne (ne_of_none e n1)]
    exact h.ex b u e
  · rw [upd_ne (ne_of_none e n3)]
    exact h.fr b u e hb
  · obtain ⟨a, u, e1, e2, e3, e4⟩ := h.cell k m e
    have hne : a ≠ p := fun z => n2 (z ▸ List.mem_of_getElem? e1)
    exact ⟨a, u, e1, e2, by rw [upd_ne hne]; exact e3, e4⟩
  · obtain ⟨u, e⟩ := h.old b hb
    have hne : b ≠ p := fun z => n2 (z ▸ hb)
    exact ⟨u, by rw [upd_ne hne]; exact e⟩
/-- what nobody holds is written -/
theorem HS.scr (h : HS K B S ls Mu H) (n1 : S p = none) (n2 : p ∉ ls) (n3 : B.H0 p = none) : HS K B S ls Mu (upd H p o) := by
  refine ⟨fun b u e => ?_, h.s0, h.new, fun b u e hb => ?_, h.c0, h.len, h.nd, fun k m e => ?_, fun b hb => ?_, h.lsn⟩
  · rw [upd_ne (ne_of_none e n1)]
    exact h.ex b u e
  · rw [upd_ne (ne_of_none e n3)]
    exact h.fr b u e hb
  · obtain ⟨a, u, e1, e2, e3, e4⟩ := h.cell k m e
    have hne : a ≠ p := fun z => n2 (z ▸ List.mem_of_getElem? e1)
    exact ⟨a, u, e1, e2, by rw [upd_ne hne]; exact e3, e4⟩
  · obtain ⟨u, e⟩ := h.old b hb
    have hne : b ≠ p := fun z => n2 (z ▸ hb)
    exact ⟨u, by rw [upd_ne hne]; exact e⟩
/-- what nobody holds becomes standing -/
theorem HS.stand (h : HS K B S ls Mu H) (e : H p = some o) (n1 : S p = none) (n2 : p ∉ ls) (n3 : B.H0 p = none) : Same S (upd S p o) ∧ HS K B (upd S p o) ls Mu H := by
  have s1 : Same S (upd S p o) := same_new n1
  refine ⟨s1, ⟨fun b u e' => ?_, h.s0.trans s1, fun b u e' => ?_, h.fr, h.c0, h.len, h.nd, fun k m e' => ?_, h.old, h.lsn⟩⟩
  · by_cases hb : b = p
    · subst hb
      rw [upd_same] at e'
      rw [e]
      exact e'
    · rw [upd_ne hb] at e'
      exact h.ex b u e'
  · by_cases hb : b = p
    · subst hb
      exact .inr (.inl n3)
    · rw [upd_ne hb] at e'
      exact h.new b u e'
  · obtain ⟨a, u, e1, e2, e3, e4⟩ := h.cell k m e'
    have hne : a ≠ p := fun z => n2 (z ▸ List.mem_of_getElem? e1)
    exact ⟨a, u, e1, by rw [upd_ne hne]; exact e2, e3, m.mono s1 e4⟩
/-- .. or an own cell -/
theorem HS.own (h : HS K B S ls Mu H) (e : H p = some o) (n1 : S p = none) (n2 : p ∉ ls) (n3 : B.H0 p = none) (hq : m.q K S p o) : Pre ls (ls ++ [p]) ∧ HS K B S (ls ++ [p]) (Mu ++ [some m]) H := by
  have pr : Pre ls (ls ++ [p]) := ⟨[p], rfl⟩
  refine ⟨pr, ⟨h.ex, h.s0, h.new, h.fr, h.c0.trans pr, by simp [h.len], ?_, fun k m' e' => ?_, fun b hb => ?_, fun b hb => ?_⟩⟩
  · rw [List.nodup_append]
    refine ⟨h.nd, by simp, fun x hx y hy => ?_⟩
    simp at hy
    subst hy
    exact fun z => n2 (z ▸ hx)
  · by_cases hk : k < Mu.length
    · rw [List.getElem?_append_left hk] at e'
      obtain ⟨a, u, e1, e2, e3, e4⟩ := h.cell k m' e'
      exact ⟨a, u, pr.get e1, e2, e3, e4⟩
    · rw [List.getElem?_append_right (by omega)] at e'
      by_cases h0 : k - Mu.length = 0
      · rw [h0] at e'
        have : m = m' := by simpa using e'
        subst this
        have hk' : k = ls.length := by rw [h.len]; omega
        exact ⟨p, o, by rw [hk']; simp, n1, e, hq⟩
      · rw [List.getElem?_eq_none (by simp; omega)] at e'
        cases e'
  · rcases List.mem_append.mp hb with hb | hb
    · exact h.old b hb
    · simp at hb
      subst hb
      exact ⟨o, e⟩
  · rcases List.mem_append.mp hb with hb | hb
    · exact h.lsn b hb
    · simp at hb
      subst hb
      exact .inl n3
/-- an own cell is written -/
theorem HS.write (h : HS K B S ls Mu H) (ek : Mu[k]? = some (some m)) (ea : ls[k]? = some a) (hq : m'.q K S a o') : HS K B S ls (Mu.set k (some m')) (upd H a o') := by
  obtain ⟨a', u0, e1, e2, e3, e4⟩ := h.cell k m ek
  rw [ea] at e1
  cases e1
  have e5 := h.lsn a (List.mem_of_getElem? ea)
  refine ⟨fun b u e => ?_, h.s0, h.new, fun b u e hb => ?_, h.c0, by simp [h.len], h.nd, fun j m2 e => ?_, fun b hb => ?_, h.lsn⟩
  · rw [upd_ne (ne_of_none e e2)]
    exact h.ex b u e
  · have hne : b ≠ a := fun z => by
      subst z
      rcases e5 with q | q
      · rw [q] at e
        cases e
      · exact hb q
    rw [upd_ne hne]
    exact h.fr b u e hb
  · by_cases hj : k = j
    · subst hj
      rw [List.getElem?_set_self (List.getElem?_eq_some_iff.mp ek).1] at e
      have : m' = m2 := by simpa using e
      subst this
      exact ⟨a, o', ea, e2, upd_same, hq⟩
    · rw [List.getElem?_set_ne hj] at e
      obtain ⟨b, u, f1, f2, f3, f4⟩ := h.cell j m2 e
      have hne : b ≠ a := fun z => by
        subst z
        obtain ⟨l1, g1⟩ := List.getElem?_eq_some_iff.mp f1
        obtain ⟨l2, g2⟩ := List.getElem?_eq_some_iff.mp ea
        exact hj ((List.getElem_inj h.nd).mp (g2.trans g1.symm))
      exact ⟨b, u, f1, f2, by rw [upd_ne hne]; exact f3, f4⟩
  · by_cases hb' : b = a
    · subst hb'
      exact ⟨o', upd_same⟩
    · obtain ⟨u, e⟩ := h.old b hb
      exact ⟨u, by rw [upd_ne hb']; exact e⟩
/-- an own cell stands from now on -/
theorem HS.freeze (h : HS K B S ls Mu H) (ek : Mu[k]? = some (some m)) : ∃ a o, ls[k]? = some a ∧ m.q K S a o ∧ Same S (upd S a o) ∧ HS K B (upd S a o) ls (Mu.set k none) H := by
  obtain ⟨a, o, e1, e2, e3, e4⟩ := h.cell k m ek
  have e5 := h.lsn a (List.mem_of_getElem? e1)
  have s1 : Same S (upd S a o) := same_new e2
  refine ⟨a, o, e1, e4, s1, ⟨fun b u e' => ?_, h.s0.trans s1, fun b u e' => ?_, h.fr, h.c0, by simp [h.len], h.nd, fun j m2 e => ?_, h.old, h.lsn⟩⟩
  · by_cases hb : b = a
    · subst hb
      rw [upd_same] at e'
      rw [e3]
      exact e'
    · rw [upd_ne hb] at e'
      exact h.ex b u e'
  · by_cases hb : b = a
    · subst hb
      exact .inr e5
    · rw [upd_ne hb] at e'
      exact h.new b u e'
  · by_cases hj : k = j
    · subst hj
      rw [List.getElem?_set_self (List.getElem?_eq_some_iff.mp ek).1] at e
      cases e
    · rw [List.getElem?_set_ne hj] at e
      obtain ⟨b, u, f1, f2, f3, f4⟩ := h.cell j m2 e
      have hne : b ≠ a := fun z => by
        subst z
        obtain ⟨l1, g1⟩ := List.getElem?_eq_some_iff.mp f1
        obtain ⟨l2, g2⟩ := List.getElem?_eq_some_iff.mp e1
        exact hj ((List.getElem_inj h.nd).mp (g2.trans g1.symm))
      exact ⟨b, u, f1, by rw [upd_ne hne]; exact f2, f3, m2.mono s1 f4⟩
/-- what is not asked any more of cells -/
theorem HS.forget {Mu' : List (Option MV)} (h : HS K B S ls Mu H) (hl : Mu'.length = Mu.length) (w : ∀ (k : Nat) (m : MV), Mu'[k]? = some (some m) → Mu[k]? = some (some m)) : HS K B S ls Mu' H :=
  ⟨h.ex, h.s0, h.new, h.fr, h.c0, by rw [hl]; exact h.len, h.nd, fun k m e => h.cell k m (w k m e), h.old, h.lsn⟩
/-- a state as the base of what follows -/
theorem HS.start (h : HS K B S ls Mu H) : HS K ⟨H, S, ls⟩ S ls Mu H :=
  ⟨h.ex, Same.refl _, fun a o e => .inl e, fun a o e _ => e, Pre.refl _, h.len, h.nd, h.cell, h.old, fun a ha => .inr ha⟩
theorem HS.back {S2 H2 : Hp} {ls2 : List Addr} {Mu2 : List (Option MV)} (h : HS K B S ls Mu H) (g : HS K ⟨H, S, ls⟩ S2 ls2 Mu2 H2) : HS K B S2 ls2 Mu2 H2 := by
  have no : ∀ a, H a = none → B.H0 a = none := fun a e => (h.fresh e).2.2
  refine ⟨g.ex, h.s0.trans g.s0, fun a o e => ?_, fun a o e hc => ?_, h.c0.trans g.c0, g.len, g.nd, g.cell, g.old, fun a ha => ?_⟩
  · rcases g.new a o e with q | q | q
    · exact h.new a o q
    · exact .inr (.inl (no a q))
    · exact .inr (h.lsn a q)
  · refine g.fr a o (h.fr a o e hc) fun q => ?_
    rcases h.lsn a q with z | z
    · rw [z] at e
      cases e
    · exact hc z
  · rcases g.lsn a ha with q | q
    · exact .inl (no a q)
    · exact h.lsn a q
end

/-! ### slots -/
abbrev Gm := List (Option SV)
abbrev Mm := List (Option MV)
def Sl (K : PySem.W.Frag) (S : Hp) (ls : List Addr) (σ : St) (G : Gm) : Prop :=
  σ.length = G.length ∧ ∀ (i : Nat) (s : SV), G[i]? = some (some s) → ∃ v, σ[i]? = some (some v) ∧ s.p K S ls v
section
variable {K : PySem.W.Frag} {S S' H : Hp} {ls ls' : List Addr} {σ : St} {G : Gm} {i : Nat} {v : V} {s : SV}
theorem Sl.mono (h : Same S S') (g : Pre ls ls') (q : Sl K S ls σ G) : Sl K S' ls' σ G :=
  ⟨q.1, fun i s e => by
    obtain ⟨v, e1, e2⟩ := q.2 i s e
    exact ⟨v, e1, SV.mono h g e2⟩⟩
theorem Sl.set (q : Sl K S ls σ G) (r : s.p K S ls v) : Sl K S ls (σ.set i (some v)) (G.set i (some s)) :=
  ⟨by simp [q.1], fun j s' e => by
    by_cases hj : i = j
    · subst hj
      by_cases hi : i < G.length
      · rw [List.getElem?_set_self hi] at e
        cases e
        exact ⟨v, by rw [List.getElem?_set_self (by rw [q.1]; exact hi)], r⟩
      · rw [List.getElem?_eq_none (by simp; omega)] at e
        cases e
    · rw [List.getElem?_set_ne hj] at e ⊢
      exact q.2 j s' e⟩
theorem Sl.drop {G' : Gm} (q : Sl K S ls σ G) (hl : G'.length = G.length) (w : ∀ (i : Nat) (s : SV), G'[i]? = some (some s) → G[i]? = some (some s)) : Sl K S ls σ G' :=
  ⟨q.1.trans hl.symm, fun i s e => q.2 i s (w i s e)⟩
end

/-! ### plain kinds -/
def rInt : Rep Int := ⟨fun _ _ v a => v = .int a, fun _ q => q⟩
def rBool : Rep Bool := ⟨fun _ _ v a => v = .bl a, fun _ q => q⟩
def rStr : Rep Str := ⟨fun _ _ v a => v = .str a, fun _ q => q⟩
def rNone : Rep Unit := ⟨fun _ _ v _ => v = .non, fun _ q => q⟩
abbrev vI (a : Int) : SV := .val (tv rInt a)
abbrev vB (a : Bool) : SV := .val (tv rBool a)
abbrev vS (a : Str) : SV := .val (tv rStr a)
abbrev vN : SV := .val (tv rNone ())

/-! ### what an expression's reading comes to -/
/-- behind it: v as s says -/
def Aft (K : PySem.W.Frag) (B : Bs) (S : Hp) (ls : List Addr) (Mu : Mm) (s : SV) (Q : VK) : Prop :=
  ∀ v S' ls' H', Same S S' → Pre ls ls' → HS K B S' ls' Mu H' → s.p K S' ls' v → Q v H'
theorem Aft.mono {K : PySem.W.Frag} {B : Bs} {S S1 : Hp} {ls ls1 : List Addr} {Mu : Mm} {s : SV} {Q : VK} (h : Same S S1) (g : Pre ls ls1) (q : Aft K B S ls Mu s Q) : Aft K B S1 ls1 Mu s Q :=
  fun v S' ls' H' a b c d => q v S' ls' H' (h.trans a) (g.trans b) c d
def EvV (K : PySem.W.Frag) (te : TE) (G : Gm) (Mu Mu' : Mm) (s : SV) : Prop :=
  ∀ B σ S ls H Q, Sl K S ls σ G → HS K B S ls Mu H → Aft K B S ls Mu' s Q → te σ H Q
/-- a new object that nobody holds yet -/
def AftF (K : PySem.W.Frag) (B : Bs) (S : Hp) (ls : List Addr) (Mu : Mm) (m : MV) (Q : VK) : Prop :=
  ∀ p o S' ls' H', Same S S' → Pre ls ls' → HS K B S' ls' Mu H' → H' p = some o → S' p = none → p ∉ ls' → B.H0 p = none → m.q K S' p o → Q (.ref p) H'
def EvF (K : PySem.W.Frag) (te : TE) (G : Gm) (Mu Mu' : Mm) (m : MV) : Prop :=
  ∀ B σ S ls H Q, Sl K S ls σ G → HS K B S ls Mu H → AftF K B S ls Mu' m Q → te σ H Q
def AftT (K : PySem.W.Frag) (B : Bs) (S : Hp) (ls : List Addr) (Mu : Mm) (b : Bool) (Q : Bool → Hp → Prop) : Prop :=
  ∀ S' ls' H', Same S S' → Pre ls ls' → HS K B S' ls' Mu H' → Q b H'
def EvT (K : PySem.W.Frag) (tt : TT) (G : Gm) (Mu Mu' : Mm) (b : Bool) : Prop :=
  ∀ B σ S ls H Q, Sl K S ls σ G → HS K B S ls Mu H → AftT K B S ls Mu' b Q → tt σ H Q
def AftA (K : PySem.W.Frag) (B : Bs) (S : Hp) (ls : List Addr) (Mu : Mm) (ss : List SV) (Q : List V → Hp → Prop) : Prop :=
  ∀ vs S' ls' H', Same S S' → Pre ls ls' → HS K B S' ls' Mu H' → AllS K S' ls' vs ss → Q vs H'
def EvA (K : PySem.W.Frag) (ta : TA) (G : Gm) (Mu Mu' : Mm) (ss : List SV) : Prop :=
  ∀ B σ S ls H Q, Sl K S ls σ G → HS K B S ls Mu H → AftA K B S ls Mu' ss Q → ta σ H Q
theorem AftT.mono {K : PySem.W.Frag} {B : Bs} {S S1 : Hp} {ls ls1 : List Addr} {Mu : Mm} {b : Bool} {Q : Bool → Hp → Prop} (h : Same S S1) (g : Pre ls ls1) (q : AftT K B S ls Mu b Q) : AftT K B S1 ls1 Mu b Q :=
  fun S' ls' H' a b c => q S' ls' H' (h.trans a) (g.trans b) c
theorem AftA.mono {K : PySem.W.Frag} {B : Bs} {S S1 : Hp} {ls ls1 : List Addr} {Mu : Mm} {ss : List SV} {Q : List V → Hp → Prop} (h : Same S S1) (g : Pre ls ls1) (q : AftA K B S ls Mu ss Q) : AftA K B S1 ls1 Mu ss Q :=
  fun v S' ls' H' a b c d => q v S' ls' H' (h.trans a) (g.trans b) c d
theorem AftF.mono {K : PySem.W.Frag} {B : Bs} {S S1 : Hp} {ls ls1 : List Addr} {Mu : Mm} {m : MV} {Q : VK} (h : Same S S1) (g : Pre ls ls1) (q : AftF K B S ls Mu m Q) : AftF K B S1 ls1 Mu m Q :=
  fun p o S' ls' H' a b => q p o S' ls' H' (h.trans a) (g.trans b)

/-- by values: two places, one, many; a truth -/
def Rv (K : PySem.W.Frag) (r : R2) (Mu Mu' : Mm) (sa sb s : SV) : Prop :=
  ∀ B S ls H x y Q, HS K B S ls Mu H → sa.p K S ls x → sb.p K S ls y → Aft K B S ls Mu' s Q → r x y H Q
def Ru (K : PySem.W.Frag) (r : V → Hp → VK → Prop) (Mu Mu' : Mm) (sa s : SV) : Prop :=
  ∀ B S ls H x Q, HS K B S ls Mu H → sa.p K S ls x → Aft K B S ls Mu' s Q → r x H Q
def Rc (K : PySem.W.Frag) (r : List V → Hp → VK → Prop) (Mu Mu' : Mm) (ss : List SV) (s : SV) : Prop :=
  ∀ B S ls H vs Q, HS K B S ls Mu H → AllS K S ls vs ss → Aft K B S ls Mu' s Q → r vs H Q
def Rm (K : PySem.W.Frag) (r : V → List V → Hp → VK → Prop) (Mu Mu' : Mm) (so : SV) (ss : List SV) (s : SV) : Prop :=
  ∀ B S ls H x vs Q, HS K B S ls Mu H → so.p K S ls x → AllS K S ls vs ss → Aft K B S ls Mu' s Q → r x vs H Q
def RvF (K : PySem.W.Frag) (r : R2) (Mu Mu' : Mm) (sa sb : SV) (m : MV) : Prop :=
  ∀ B S ls H x y Q, HS K B S ls Mu H → sa.p K S ls x → sb.p K S ls y → AftF K B S ls Mu' m Q → r x y H Q
def RcF (K : PySem.W.Frag) (r : List V → Hp → VK → Prop) (Mu Mu' : Mm) (ss : List SV) (m : MV) : Prop :=
  ∀ B S ls H vs Q, HS K B S ls Mu H → AllS K S ls vs ss → AftF K B S ls Mu' m Q → r vs H Q
def RmF (K : PySem.W.Frag) (r : V → List V → Hp → VK → Prop) (Mu Mu' : Mm) (so : SV) (ss : List SV) (m : MV) : Prop :=
  ∀ B S ls H x vs Q, HS K B S ls Mu H → so.p K S ls x → AllS K S ls vs ss → AftF K B S ls Mu' m Q → r x vs H Q

section
variable {K : PySem.W.Frag} {G : Gm} {Mu Mu1 Mu2 Mu3 : Mm} {ta tb te : TE} {tt tu : TT} {sa sb s : SV} {v : V} {i : Nat}
theorem ev_var (h : G[i]? = some (some s)) : EvV K (tVar i) G Mu Mu s := fun B σ S ls H Q sl hs q => by
  obtain ⟨v, e, r⟩ := sl.2 i s h
  exact ⟨v, e, q v S ls H (Same.refl _) (Pre.refl _) hs r⟩
theorem ev_c (h : ∀ S ls, s.p K S ls v) : EvV K (tC v) G Mu Mu s := fun B σ S ls H Q sl hs q => q v S ls H (Same.refl _) (Pre.refl _) hs (h _ _)
theorem ev_op {r : R2} (ha : EvV K ta G Mu Mu1 sa) (hb : EvV K tb G Mu1 Mu2 sb) (hr : Rv K r Mu2 Mu3 sa sb s) : EvV K (tOp r ta tb) G Mu Mu3 s := fun B σ S ls H Q sl hs q =>
  ha B σ S ls H _ sl hs fun x S1 l1 H1 a1 b1 c1 d1 => hb B σ S1 l1 H1 _ (sl.mono a1 b1) c1 fun y S2 l2 H2 a2 b2 c2 d2 =>
    hr B S2 l2 H2 x y Q c2 (SV.mono a2 b2 d1) d2 (q.mono (a1.trans a2) (b1.trans b2))
theorem ef_op {r : R2} {m : MV} (ha : EvV K ta G Mu Mu1 sa) (hb : EvV K tb G Mu1 Mu2 sb) (hr : RvF K r Mu2 Mu3 sa sb m) : EvF K (tOp r ta tb) G Mu Mu3 m := fun B σ S ls H Q sl hs q =>
  ha B σ S ls H _ sl hs fun x S1 l1 H1 a1 b1 c1 d1 => hb B σ S1 l1 H1 _ (sl.mono a1 b1) c1 fun y S2 l2 H2 a2 b2 c2 d2 =>
    hr B S2 l2 H2 x y Q c2 (SV.mono a2 b2 d1) d2 (q.mono (a1.trans a2) (b1.trans b2))
theorem ev_un {r : V → Hp → VK → Prop} (ha : EvV K ta G Mu Mu1 sa) (hr : Ru K r Mu1 Mu2 sa s) : EvV K (tUn r ta) G Mu Mu2 s := fun B σ S ls H Q sl hs q =>
  ha B σ S ls H _ sl hs fun x S1 l1 H1 a1 b1 c1 d1 => hr B S1 l1 H1 x Q c1 d1 (q.mono a1 b1)
theorem ea_nil : EvA K tNil G Mu Mu [] := fun B σ S ls H Q sl hs q => q [] S ls H (Same.refl _) (Pre.refl _) hs .nil
theorem ea_cons {tr : TA} {ss : List SV} (h : EvV K te G Mu Mu1 s) (hr : EvA K tr G Mu1 Mu2 ss) : EvA K (tCons te tr) G Mu Mu2 (s :: ss) := fun B σ S ls H Q sl hs q =>
  h B σ S ls H _ sl hs fun x S1 l1 H1 a1 b1 c1 d1 => hr B σ S1 l1 H1 _ (sl.mono a1 b1) c1 fun vs S2 l2 H2 a2 b2 c2 d2 =>
    q (x :: vs) S2 l2 H2 (a1.trans a2) (b1.trans b2) c2 (.cons (SV.mono a2 b2 d1) d2)
theorem ev_cb {r : List V → Hp → VK → Prop} {ta : TA} {ss : List SV} (h : EvA K ta G Mu Mu1 ss) (hr : Rc K r Mu1 Mu2 ss s) : EvV K (tCB r ta) G Mu Mu2 s := fun B σ S ls H Q sl hs q =>
  h B σ S ls H _ sl hs fun vs S1 l1 H1 a1 b1 c1 d1 => hr B S1 l1 H1 vs Q c1 d1 (q.mono a1 b1)
theorem ef_cb {r : List V → Hp → VK → Prop} {ta : TA} {ss : List SV} {m : MV} (h : EvA K ta G Mu Mu1 ss) (hr : RcF K r Mu1 Mu2 ss m) : EvF K (tCB r ta) G Mu Mu2 m := fun B σ S ls H Q sl hs q =>
  h B σ S ls H _ sl hs fun vs S1 l1 H1 a1 b1 c1 d1 => hr B S1 l1 H1 vs Q c1 d1 (q.mono a1 b1)
/-- tests -/
theorem et_test {t : TE} {b : Bool} (h : EvV K t G Mu Mu1 (vB b)) : EvT K (tTest t) G Mu Mu1 b := fun B σ S ls H Q sl hs q =>
  h B σ S ls H _ sl hs fun x S1 l1 H1 a1 b1 c1 d1 => ⟨b, d1, q S1 l1 H1 a1 b1 c1⟩
theorem et_B {t : TE} {b : Bool} (h : EvV K t G Mu Mu1 (vB b)) : EvT K (tB t) G Mu Mu1 b := fun B σ S ls H Q sl hs q =>
  h B σ S ls H _ sl hs fun x S1 l1 H1 a1 b1 c1 d1 => ⟨b, d1, q S1 l1 H1 a1 b1 c1⟩
theorem et_not {b : Bool} (h : EvT K tt G Mu Mu1 b) : EvT K (tNot tt) G Mu Mu1 (!b) := fun B σ S ls H Q sl hs q =>
  h B σ S ls H _ sl hs fun S1 l1 H1 a1 b1 c1 => q S1 l1 H1 a1 b1 c1
/-- and, or: the second one is asked only then -/
theorem et_and {a b : Bool} {Mu3 : Mm} (h1 : EvT K tt G Mu Mu1 a) (h2 : a = true → EvT K tu G Mu1 Mu2 b) (e2 : a = true → Mu2 = Mu3) (e1 : a = false → Mu1 = Mu3) : EvT K (tAnd tt tu) G Mu Mu3 (a && b) := fun B σ S ls H Q sl hs q =>
  h1 B σ S ls H _ sl hs fun S1 l1 H1 a1 b1 c1 => by
    cases a with
    | true =>
      show tu σ H1 Q
      have e := e2 rfl
      subst e
      exact h2 rfl B σ S1 l1 H1 Q (sl.mono a1 b1) c1 (q.mono a1 b1)
    | false =>
      show Q false H1
      have e := e1 rfl
      subst e
      exact q S1 l1 H1 a1 b1 c1
theorem et_or {a b : Bool} {Mu3 : Mm} (h1 : EvT K tt G Mu Mu1 a) (h2 : a = false → EvT K tu G Mu1 Mu2 b) (e2 : a = false → Mu2 = Mu3) (e1 : a = true → Mu1 = Mu3) : EvT K (tOr tt tu) G Mu Mu3 (a || b) := fun B σ S ls H Q sl hs q =>
  h1 B σ S ls H _ sl hs fun S1 l1 H1 a1 b1 c1 => by
    cases a with
    | false =>
      show tu σ H1 Q
      have e := e2 rfl
      subst e
      exact h2 rfl B σ S1 l1 H1 Q (sl.mono a1 b1) c1 (q.mono a1 b1)
    | true =>
      show Q true H1
      have e := e1 rfl
      subst e
      exact q S1 l1 H1 a1 b1 c1
theorem ev_ifM {a : Bool} (h : EvT K tt G Mu Mu1 a) (h1 : a = true → EvV K ta G Mu1 Mu2 s) (h2 : a = false → EvV K tb G Mu1 Mu2 s) : EvV K (tIf tt ta tb) G Mu Mu2 s := fun B σ S ls H Q sl hs q =>
  h B σ S ls H _ sl hs fun S1 l1 H1 a1 b1 c1 => by
    cases a with
    | true => exact h1 rfl B σ S1 l1 H1 Q (sl.mono a1 b1) c1 (q.mono a1 b1)
    | false => exact h2 rfl B σ S1 l1 H1 Q (sl.mono a1 b1) c1 (q.mono a1 b1)
end
end TL

/-! TL, second part: sequences, numbers, blocks, loops, promises. -/
namespace TL
open PySem L2

/-! ### sequences -/
theorem same_seqT {K : PySem.W.Frag} {H H' : Hp} {a : Addr} {xs : List V} (e : Same H H') (h : SqT K H a xs) : SqT K H' a xs := by
  rcases h with (h | ⟨o, h⟩) | h
  · exact .inl (.inl (e _ _ h))
  · exact .inl (.inr ⟨o, e _ _ h⟩)
  · exact .inr h
/-- l: a list that is tracked; q: a list that may be read; t: a tuple -/
inductive Knd where
  | l | q | t
def SqK (K : PySem.W.Frag) (H : Hp) (p : Addr) (vs : List V) (k : Knd) : Prop := match k with
  | .l => H p = some (.lst vs)
  | .q => SqL K H p vs
  | .t => SqT K H p vs
theorem SqK.same {K : PySem.W.Frag} {H H' : Hp} {p : Addr} {vs : List V} {k : Knd} (e : Same H H') (h : SqK K H p vs k) : SqK K H' p vs k := by
  cases k with
  | l => exact e p _ (show H p = some (.lst vs) from h)
  | q => exact Same.seq e (show SqL K H p vs from h)
  | t => exact same_seqT e (show SqT K H p vs from h)
def Knd.isL (k : Knd) : Bool := match k with
  | .t => false
  | _ => true
theorem SqK.seq {K : PySem.W.Frag} {H : Hp} {p : Addr} {vs : List V} {k : Knd} (h : SqK K H p vs k) (e : k.isL = true) : SqL K H p vs := by
  cases k with
  | l => exact SqL.of (show H p = some (.lst vs) from h)
  | q => exact h
  | t => cases e
theorem SqK.both {K : PySem.W.Frag} {H : Hp} {p : Addr} {vs : List V} {k : Knd} (h : SqK K H p vs k) : SqL K H p vs ∨ SqT K H p vs := by
  cases k with
  | l => exact .inl (SqL.of (show H p = some (.lst vs) from h))
  | q => exact .inl h
  | t => exact .inr h
def sqT (k : Knd) (ts : List TV) : TV := ⟨fun K S v => ∃ p vs, v = .ref p ∧ SqK K S p vs k ∧ vs.length ≤ sizeLine ∧ AllT K S vs ts,
  fun h ⟨p, vs, e, q, l, r⟩ => ⟨p, vs, e, SqK.same h q, l, r.mono h⟩⟩
abbrev lstT : List TV → TV := sqT .l
abbrev tupT : List TV → TV := sqT .t
def rSq {α : Type} (k : Knd) (R : Rep α) : Rep (List α) := ⟨fun K S v xs => (sqT k (xs.map (tv R))).p K S v, fun h q => (sqT k _).mono h q⟩
abbrev rList {α : Type} (R : Rep α) : Rep (List α) := rSq .l R
abbrev rTup {α : Type} (R : Rep α) : Rep (List α) := rSq .t R
def rP1 {α : Type} (A : Rep α) : Rep α := ⟨fun K S v x => (tupT [tv A x]).p K S v, fun h q => (sqT .t _).mono h q⟩
def rP2 {α β : Type} (A : Rep α) (B : Rep β) : Rep (α × β) := ⟨fun K S v x => (tupT [tv A x.1, tv B x.2]).p K S v, fun h q => (sqT .t _).mono h q⟩
def rP3 {α β γ : Type} (A : Rep α) (B : Rep β) (C : Rep γ) : Rep (α × β × γ) := ⟨fun K S v x => (tupT [tv A x.1, tv B x.2.1, tv C x.2.2]).p K S v, fun h q => (sqT .t _).mono h q⟩
def rP4 {α β γ δ : Type} (A : Rep α) (B : Rep β) (C : Rep γ) (D : Rep δ) : Rep (α × β × γ × δ) := ⟨fun K S v x => (tupT [tv A x.1, tv B x.2.1, tv C x.2.2.1, tv D x.2.2.2]).p K S v, fun h q => (sqT .t _).mono h q⟩
def IsSq (K : PySem.W.Frag) (Mu : Mm) (s : SV) (k : Knd) (ts : List TV) : Prop :=
  ∀ B S ls H v, HS K B S ls Mu H → s.p K S ls v → ∃ p vs, v = .ref p ∧ SqK K H p vs k ∧ vs.length ≤ sizeLine ∧ AllT K S vs ts
section
variable {K : PySem.W.Frag} {Mu : Mm} {ts us : List TV} {k : Knd} {α β γ δ : Type} {R : Rep α} {j : Nat}
theorem is_sq : IsSq K Mu (.val (sqT k ts)) k ts := fun B S ls H v hs ⟨p, vs, e, q, l, r⟩ => ⟨p, vs, e, SqK.same hs.ex q, l, r⟩
theorem is_seq {xs : List α} : IsSq K Mu (.val (tv (rSq k R) xs)) k (xs.map (tv R)) := is_sq
theorem is_cell (h : Mu[j]? = some (some (mL ts))) : IsSq K Mu (.cell j) .l ts := fun B S ls H v hs ⟨a, e, ev⟩ => by
  obtain ⟨a', o, e1, e2, e3, ⟨vs, eo, l, r⟩⟩ := hs.cell j _ h
  rw [e] at e1
  cases e1
  subst eo
  exact ⟨a, vs, ev, e3, l, r⟩
theorem is_p1 {A : Rep α} {x : α} : IsSq K Mu (.val (tv (rP1 A) x)) .t [tv A x] := is_sq
theorem is_p2 {A : Rep α} {B : Rep β} {x : α × β} : IsSq K Mu (.val (tv (rP2 A B) x)) .t [tv A x.1, tv B x.2] := is_sq
theorem is_p3 {A : Rep α} {B : Rep β} {C : Rep γ} {x : α × β × γ} : IsSq K Mu (.val (tv (rP3 A B C) x)) .t [tv A x.1, tv B x.2.1, tv C x.2.2] := is_sq
theorem is_p4 {A : Rep α} {B : Rep β} {C : Rep γ} {D : Rep δ} {x : α × β × γ × δ} : IsSq K Mu (.val (tv (rP4 A B C D) x)) .t [tv A x.1, tv B x.2.1, tv C x.2.2.1, tv D x.2.2.2] := is_sq
end
/-- x[i] -/
theorem atQ_eq {α : Type} {xs : List α} {i : Int} : atQ xs i = atI xs i := rfl
theorem getI_ok {α : Type} {xs : List α} {i : Int} {x : α} (h : getI xs i = .ok x) : atI xs i = some x := by
  unfold getI at h
  split at h
  · rename_i y e
    cases h
    exact e
  · cases h
theorem at_map {α : Type} {R : Rep α} {xs : List α} {i : Int} {x : α} (h : getI xs i = .ok x) : atI (xs.map (tv R)) i = some (tv R x) := by
  have e := getI_ok h
  unfold atI at e ⊢
  rw [List.length_map]
  cases q : ixN xs.length i with
  | none =>
    rw [q] at e
    cases e
  | some j =>
    rw [q] at e
    have e : xs[j]? = some x := e
    show (xs.map (tv R))[j]? = _
    rw [List.getElem?_map, e]
    rfl
theorem atI_len {α β : Type} {xs : List α} {ys : List β} (h : xs.length = ys.length) {i : Int} {y : β} (e : atI ys i = some y) : ∃ j : Nat, ys[j]? = some y ∧ ∀ x, xs[j]? = some x → atI xs i = some x := by
  unfold atI at e ⊢
  rw [h]
  cases q : ixN ys.length i with
  | none =>
    rw [q] at e
    cases e
  | some j =>
    rw [q] at e
    exact ⟨j, e, fun x hx => hx⟩

/-! ### operators on values -/
section
variable {K : PySem.W.Frag} {Mu : Mm} {a b : Int} {s : SV} {ts : List TV} {t : TV}
theorem rv_same {r : R2} {sa sb s : SV} (h : ∀ B S ls H x y Q, HS K B S ls Mu H → sa.p K S ls x → sb.p K S ls y → (∀ v, s.p K S ls v → Q v H) → r x y H Q) : Rv K r Mu Mu sa sb s :=
  fun B S ls H x y Q hs ha hb q => h B S ls H x y Q hs ha hb fun v hv => q v S ls H (Same.refl _) (Pre.refl _) hs hv
theorem rc_same {r : List V → Hp → VK → Prop} {ss : List SV} {s : SV} (h : ∀ B S ls H vs Q, HS K B S ls Mu H → AllS K S ls vs ss → (∀ v, s.p K S ls v → Q v H) → r vs H Q) : Rc K r Mu Mu ss s :=
  fun B S ls H vs Q hs ha q => h B S ls H vs Q hs ha fun v hv => q v S ls H (Same.refl _) (Pre.refl _) hs hv
theorem ru_same {r : V → Hp → VK → Prop} {sa s : SV} (h : ∀ B S ls H x Q, HS K B S ls Mu H → sa.p K S ls x → (∀ v, s.p K S ls v → Q v H) → r x H Q) : Ru K r Mu Mu sa s :=
  fun B S ls H x Q hs ha q => h B S ls H x Q hs ha fun v hv => q v S ls H (Same.refl _) (Pre.refl _) hs hv
theorem rv_I0 {g : Int → Int → V} (h : ∀ S ls, s.p K S ls (g a b)) : Rv K (rI0 g) Mu Mu (vI a) (vI b) s := rv_same fun B S ls H x y Q hs ha hb q => ⟨a, b, ha, hb, q _ (h S ls)⟩
theorem rv_IC {C : Int → Int → Prop} {g : Int → Int → V} (hc : C a b) (h : ∀ S ls, s.p K S ls (g a b)) : Rv K (rI C g) Mu Mu (vI a) (vI b) s := rv_same fun B S ls H x y Q hs ha hb q => ⟨a, b, ha, hb, hc, q _ (h S ls)⟩
theorem rv_add : Rv K (rI0 fun i j => .int (i + j)) Mu Mu (vI a) (vI b) (vI (a + b)) := rv_I0 fun _ _ => rfl
theorem rv_sub : Rv K (rI0 fun i j => .int (i - j)) Mu Mu (vI a) (vI b) (vI (a - b)) := rv_I0 fun _ _ => rfl
theorem rv_lt : Rv K (rI0 fun i j => .bl (decide (i < j))) Mu Mu (vI a) (vI b) (vB (decide (a < b))) := rv_I0 fun _ _ => rfl
theorem rv_le : Rv K (rI0 fun i j => .bl (decide (i ≤ j))) Mu Mu (vI a) (vI b) (vB (decide (a ≤ b))) := rv_I0 fun _ _ => rfl
theorem rv_gt : Rv K (rI0 fun i j => .bl (decide (j < i))) Mu Mu (vI a) (vI b) (vB (decide (b < a))) := rv_I0 fun _ _ => rfl
theorem rv_ge : Rv K (rI0 fun i j => .bl (decide (j ≤ i))) Mu Mu (vI a) (vI b) (vB (decide (b ≤ a))) := rv_I0 fun _ _ => rfl
theorem rv_mod (h : 0 < b) : Rv K (rI (fun _ j => 0 < j) fun i j => .int (i % j)) Mu Mu (vI a) (vI b) (vI (a % b)) := rv_IC h fun _ _ => rfl
theorem rv_fdiv (h : CDivW a b) : Rv K (rI CDivW fun i j => .int (i / j)) Mu Mu (vI a) (vI b) (vI (a / b)) := rv_IC h fun _ _ => rfl
theorem rv_mul (h : CMulX a b) : Rv K (rI CMulX fun i j => .int (i * j)) Mu Mu (vI a) (vI b) (vI (a * b)) := rv_IC h fun _ _ => rfl
theorem rv_shr (h : 0 ≤ b) : Rv K (rI (fun _ j => 0 ≤ j) fun i j => .int (i / 2 ^ j.toNat)) Mu Mu (vI a) (vI b) (vI (a / 2 ^ b.toNat)) := rv_IC h fun _ _ => rfl
/-- powers -/
def CPowW (i j : Int) : Prop := 0 ≤ j ∧ (Builtin.Int.intBits i : Int) * j ≤ 2 ^ 27
theorem op_powW {X : Cx} : OpR X (binaryOp .Pow) (rI CPowW fun i j => .int (i ^ j.toNat)) := opI fun _ _ _ _ _ _ _ hc q => PyProof.Rows.pow_int hc.1 hc.2 q
theorem rv_pow (h : CPowW a b) : Rv K (rI CPowW fun i j => .int (i ^ j.toNat)) Mu Mu (vI a) (vI b) (vI (a ^ b.toNat)) := rv_IC h fun _ _ => rfl
/-- == of flat things -/
theorem rv_eqI : Rv K rEq Mu Mu (vI a) (vI b) (vB (decide (a = b))) := rv_same fun B S ls H x y Q hs ha hb q => by
  cases ha
  cases hb
  refine ⟨rfl, q _ ?_⟩
  show V.bl _ = V.bl _
  rw [dec_int, Bool.beq_eq_decide_eq]
theorem rv_neI : Rv K rNe Mu Mu (vI a) (vI b) (vB (!decide (a = b))) := rv_same fun B S ls H x y Q hs ha hb q => by
  cases ha
  cases hb
  refine ⟨rfl, q _ ?_⟩
  show V.bl _ = V.bl _
  rw [dec_int, Bool.beq_eq_decide_eq]
theorem rv_eqS {x y : Str} : Rv K rEq Mu Mu (vS x) (vS y) (vB (decide (x = y))) := rv_same fun B S ls H x y Q hs ha hb q => by
  cases ha
  cases hb
  refine ⟨rfl, q _ ?_⟩
  show V.bl _ = V.bl _
  congr 1
  exact Bool.eq_iff_iff.mpr (by simp)
theorem rv_neS {x y : Str} : Rv K rNe Mu Mu (vS x) (vS y) (vB (!decide (x = y))) := rv_same fun B S ls H x y Q hs ha hb q => by
  cases ha
  cases hb
  refine ⟨rfl, q _ ?_⟩
  show V.bl _ = V.bl _
  congr 2
  exact Bool.eq_iff_iff.mpr (by simp)
theorem rv_eqB {x y : Bool} : Rv K rEq Mu Mu (vB x) (vB y) (vB (decide (x = y))) := rv_same fun B S ls H x y Q hs ha hb q => by
  cases ha
  cases hb
  refine ⟨rfl, q _ ?_⟩
  show V.bl _ = V.bl _
  congr 1
  exact Bool.eq_iff_iff.mpr (by simp)
theorem rv_neB {x y : Bool} : Rv K rNe Mu Mu (vB x) (vB y) (vB (!decide (x = y))) := rv_same fun B S ls H x y Q hs ha hb q => by
  cases ha
  cases hb
  refine ⟨rfl, q _ ?_⟩
  show V.bl _ = V.bl _
  congr 2
  exact Bool.eq_iff_iff.mpr (by simp)
/-- subscripts -/
theorem all_at {vs : List V} {S : Hp} (r : AllT K S vs ts) {i : Int} (h : atI ts i = some t) : ∃ v, atI vs i = some v ∧ t.p K S v := by
  obtain ⟨j, e, f⟩ := atI_len (xs := vs) (ys := ts) (Paired.length r) h
  obtain ⟨v, e1, e2⟩ := Paired.get2 r e
  exact ⟨v, f v e1, e2⟩
theorem rv_ixL {i : Int} {k : Knd} (h : IsSq K Mu s k ts) (hi : atI ts i = some t) (hk : k.isL = true := by rfl) : Rv K (rIxL K) Mu Mu s (vI i) (.val t) := rv_same fun B S ls H x y Q hs ha hb q => by
  obtain ⟨p, vs, e, sq, l, r⟩ := h B S ls H x hs ha
  obtain ⟨v, e1, e2⟩ := all_at r hi
  exact ⟨p, vs, i, v, e, hb, SqK.seq sq hk, e1, q v e2⟩
theorem rv_ixT {i : Int} (h : IsSq K Mu s .t ts) (hi : atI ts i = some t) : Rv K (rIxT K) Mu Mu s (vI i) (.val t) := rv_same fun B S ls H x y Q hs ha hb q => by
  obtain ⟨p, vs, e, sq, l, r⟩ := h B S ls H x hs ha
  obtain ⟨v, e1, e2⟩ := all_at r hi
  exact ⟨p, vs, i, v, e, hb, sq, e1, q v e2⟩
/-- len -/
theorem rc_len {k : Knd} {n : Nat} (h : IsSq K Mu s k ts) (hn : ts.length = n) : Rc K (fun xs H Q => ∃ p ys, xs = [.ref p] ∧ (SqL K H p ys ∨ SqT K H p ys) ∧ Q (.int ys.length) H) Mu Mu [s] (vI (n : Int)) := rc_same fun B S ls H vs Q hs ha q => by
  cases ha with
  | cons r0 r1 =>
    cases r1
    obtain ⟨p, xs, e, sq, l, r⟩ := h B S ls H _ hs r0
    subst e
    refine ⟨p, xs, rfl, SqK.both sq, q _ ?_⟩
    · show V.int _ = V.int _
      rw [Paired.length r, hn]
/-- in, not in: flat things -/
structure Flat {α : Type} [BEq α] (R : Rep α) : Prop where
  fl : ∀ {K S v a}, R.p K S v a → flatV v = true
  eq : ∀ {K S v a w b}, R.p K S v a → R.p K S w b → eqV w v = (b == a)
theorem flat_int : Flat rInt := ⟨fun h => by cases h; rfl, fun h h2 => by cases h; cases h2; rfl⟩
theorem flat_str : Flat rStr := ⟨fun h => by cases h; rfl, fun h h2 => by cases h; cases h2; rfl⟩
theorem flat_bool : Flat rBool := ⟨fun h => by cases h; rfl, fun h h2 => by cases h; cases h2; rfl⟩
theorem all_flat {α : Type} [BEq α] {R : Rep α} (F : Flat R) {S : Hp} : ∀ {vs : List V} {xs : List α}, AllT K S vs (xs.map (tv R)) → vs.all flatV = true
  | [], [], _ => rfl
  | [], _ :: _, h => nomatch h
  | _ :: _, [], h => nomatch h
  | v :: vs, x :: xs, .cons r t => by
    rw [List.all_cons, F.fl r, all_flat F t]
    rfl
theorem inV_flat {α : Type} [BEq α] [LawfulBEq α] {R : Rep α} (F : Flat R) {S : Hp} {v : V} {a : α} (ra : R.p K S v a) : ∀ {vs : List V} {xs : List α}, AllT K S vs (xs.map (tv R)) → inV v vs = xs.contains a
  | [], [], _ => rfl
  | [], _ :: _, h => nomatch h
  | _ :: _, [], h => nomatch h
  | w :: vs, x :: xs, .cons r t => by
    have e1 : inV v (w :: vs) = (eqV w v || inV v vs) := rfl
    rw [e1, F.eq ra r, inV_flat F ra t, List.contains_cons]
    have e2 : (x == a) = (a == x) := Bool.eq_iff_iff.mpr (by rw [beq_iff_eq, beq_iff_eq]; exact eq_comm)
    rw [e2]
theorem rv_in {α : Type} [BEq α] [LawfulBEq α] {R : Rep α} (F : Flat R) {s : SV} {k : Knd} {xs : List α} {a : α} (h : IsSq K Mu s k (xs.map (tv R))) : Rv K (rIn K false) Mu Mu (.val (tv R a)) s (vB (xs.contains a)) := rv_same fun B S ls H x y Q hs ha hb q => by
  obtain ⟨p, vs, e, sq, l, r⟩ := h B S ls H y hs hb
  refine ⟨p, vs, e, SqK.both sq, F.fl ha, all_flat F r, q _ ?_⟩
  · show V.bl _ = V.bl _
    rw [inV_flat F ha r]
    rfl
theorem rv_nin {α : Type} [BEq α] [LawfulBEq α] {R : Rep α} (F : Flat R) {s : SV} {k : Knd} {xs : List α} {a : α} (h : IsSq K Mu s k (xs.map (tv R))) : Rv K (rIn K true) Mu Mu (.val (tv R a)) s (vB (!xs.contains a)) := rv_same fun B S ls H x y Q hs ha hb q => by
  obtain ⟨p, vs, e, sq, l, r⟩ := h B S ls H y hs hb
  refine ⟨p, vs, e, SqK.both sq, F.fl ha, all_flat F r, q _ ?_⟩
  · show V.bl _ = V.bl _
    rw [inV_flat F ha r]
    rfl
end

/-! ### displays, fresh things -/
section
variable {K : PySem.W.Frag} {G : Gm} {Mu Mu1 Mu2 : Mm} {ta : TA} {te : TE} {ts : List TV} {m : MV} {t : TV}
theorem allS_vals {S : Hp} {ls : List Addr} : ∀ {vs : List V} {ts : List TV}, AllS K S ls vs (ts.map .val) → AllT K S vs ts
  | [], [], _ => .nil
  | [], _ :: _, h => nomatch h
  | _ :: _, [], h => nomatch h
  | _ :: _, _ :: _, .cons r t => .cons r (allS_vals t)
theorem allT_vals {S : Hp} {ls : List Addr} : ∀ {vs : List V} {ts : List TV}, AllT K S vs ts → AllS K S ls vs (ts.map .val)
  | _, _, .nil => .nil
  | _, _, .cons r t => .cons r (allT_vals t)
/-- (a, b, ..) -/
theorem ev_tup {ss : List SV} (h : EvA K ta G Mu Mu1 ss) (e : ss = ts.map .val := by rfl) (hl : Nat.ble ts.length 64 = true := by rfl) : EvV K (tTup ta) G Mu Mu1 (.val (tupT ts)) := fun B σ S ls H Q sl hs q =>
  h B σ S ls H _ sl hs fun vs S1 l1 H1 a1 b1 c1 d1 => by
    subst e
    have r := allS_vals d1
    have hz : vs.length ≤ sizeLine := by
      have hl := Nat.le_of_ble_eq_true hl
      rw [Paired.length r, sizeLine_eq]
      omega
    refine ⟨hz, fun p hp => ?_⟩
    obtain ⟨s2, h2⟩ := c1.laid (o := .tup vs) hp
    exact q _ _ _ _ (a1.trans s2) b1 h2 ⟨p, vs, rfl, .inl (.inl upd_same), hz, r.mono s2⟩
/-- [a, b, ..] -/
theorem ef_lst {ss : List SV} (h : EvA K ta G Mu Mu1 ss) (e : ss = ts.map .val := by rfl) (hl : Nat.ble ts.length 64 = true := by rfl) : EvF K (tLst ta) G Mu Mu1 (mL ts) := fun B σ S ls H Q sl hs q =>
  h B σ S ls H _ sl hs fun vs S1 l1 H1 a1 b1 c1 d1 => by
    subst e
    have r := allS_vals d1
    have hz : vs.length ≤ sizeLine := by
      have hl := Nat.le_of_ble_eq_true hl
      rw [Paired.length r, sizeLine_eq]
      omega
    refine ⟨hz, fun p hp => ?_⟩
    obtain ⟨n1, n2, n3⟩ := c1.fresh hp
    exact q p _ _ _ _ a1 b1 (c1.loose hp) upd_same n1 n2 n3 ⟨vs, rfl, hz, r⟩
/-- a fresh object stands from now on -/
def Frz (m : MV) (t : TV) : Prop := ∀ {K S p o}, m.q K S p o → S p = some o → t.p K S (.ref p)
theorem frz_l {ts : List TV} : Frz (mL ts) (lstT ts) := fun ⟨vs, e, l, r⟩ h => by
  subst e
  exact ⟨_, vs, rfl, h, l, r⟩
theorem ev_frz (h : EvF K te G Mu Mu1 m) (f : Frz m t) : EvV K te G Mu Mu1 (.val t) := fun B σ S ls H Q sl hs q =>
  h B σ S ls H _ sl hs fun p o S1 l1 H1 a1 b1 c1 e1 n1 n2 n3 d1 => by
    obtain ⟨s2, h2⟩ := c1.stand e1 n1 n2 n3
    exact q _ _ _ _ (a1.trans s2) b1 h2 (f (m.mono s2 d1) upd_same)
theorem ev_lst (h : EvF K te G Mu Mu1 (mL ts)) : EvV K te G Mu Mu1 (.val (lstT ts)) := ev_frz h frz_l
/-- .. or is an own cell -/
theorem ev_own (h : EvF K te G Mu Mu1 m) : EvV K te G Mu (Mu1 ++ [some m]) (.cell Mu1.length) := fun B σ S ls H Q sl hs q =>
  h B σ S ls H _ sl hs fun p o S1 l1 H1 a1 b1 c1 e1 n1 n2 n3 d1 => by
    obtain ⟨p2, h2⟩ := c1.own e1 n1 n2 n3 d1
    exact q _ _ _ _ a1 (b1.trans p2) h2 ⟨p, by rw [← c1.len]; simp, rfl⟩
end

/-! ### blocks -/
inductive OS where
  | nx (G : Gm) (Mu : Mm) | bk (G : Gm) (Mu : Mm) | ct (G : Gm) (Mu : Mm)
  | rt (t : TV) (Mp : Mm) | rf (m : MV) (Mp : Mm) | vd (Mp : Mm) | rn (Mp : Mm) | never
/-- the same cells, as far as both tell -/
def Cmp (ls ls' : List Addr) : Prop := ∀ (k : Nat) (a : Addr), ls[k]? = some a → k < ls'.length → ls'[k]? = some a
theorem Cmp.refl (ls : List Addr) : Cmp ls ls := fun _ _ e _ => e
theorem Cmp.pre {a b c : List Addr} (h : Pre a b) (g : Cmp b c) : Cmp a c := fun k x e l => g k x (h.get e) l
theorem Cmp.take {a b : List Addr} (h : Pre a b) (n : Nat) : Cmp a (b.take n) := fun k x e l => by
  rw [List.getElem?_take_of_lt (by rw [List.length_take] at l; omega)]
  exact h.get e
theorem Cmp.to_pre {a b : List Addr} (h : Cmp a b) (l : a.length ≤ b.length) : Pre a b := by
  refine ⟨b.drop a.length, ?_⟩
  apply List.ext_getElem?
  intro k
  by_cases hk : k < a.length
  · rw [List.getElem?_append_left hk, List.getElem?_eq_getElem hk]
    exact h k _ (List.getElem?_eq_getElem hk) (by omega)
  · rw [List.getElem?_append_right (by omega), List.getElem?_drop]
    congr 1
    omega
def Acc (K : PySem.W.Frag) (B : Bs) (S : Hp) (ls : List Addr) (D : Ends) : OS → Prop
  | .nx G Mu => ∀ σ' S' ls' H', Same S S' → Cmp ls ls' → Sl K S' ls' σ' G → HS K B S' ls' Mu H' → D.nx σ' H'
  | .bk G Mu => ∀ σ' S' ls' H', Same S S' → Cmp ls ls' → Sl K S' ls' σ' G → HS K B S' ls' Mu H' → D.bk σ' H'
  | .ct G Mu => ∀ σ' S' ls' H', Same S S' → Cmp ls ls' → Sl K S' ls' σ' G → HS K B S' ls' Mu H' → D.ct σ' H'
  | .rt t Mp => ∀ v S' ls' H' Mj, HS K B S' ls' (Mp ++ Mj) H' → t.p K S' v → D.rt v H'
  | .rf m Mp => ∀ p o S' ls' H' Mj, HS K B S' ls' (Mp ++ Mj) H' → H' p = some o → S' p = none → p ∉ ls'.take Mp.length → B.H0 p = none → m.q K S' p o → D.rt (.ref p) H'
  | .vd Mp => ∀ σ' S' ls' H' Mj, HS K B S' ls' (Mp ++ Mj) H' → D.nx σ' H' ∧ D.rt .non H'
  | .rn Mp => ∀ S' ls' H' Mj, HS K B S' ls' (Mp ++ Mj) H' → D.rt .non H'
  | .never => True
theorem Acc.mono {K : PySem.W.Frag} {B : Bs} {S S1 : Hp} {ls ls1 : List Addr} {D : Ends} (h : Same S S1) (g : Pre ls ls1) : ∀ {o : OS}, Acc K B S ls D o → Acc K B S1 ls1 D o
  | .nx _ _, q => fun σ' S' ls' H' z a => q σ' S' ls' H' (h.trans z) (a.pre g)
  | .bk _ _, q => fun σ' S' ls' H' z a => q σ' S' ls' H' (h.trans z) (a.pre g)
  | .ct _ _, q => fun σ' S' ls' H' z a => q σ' S' ls' H' (h.trans z) (a.pre g)
  | .rt _ _, q => q
  | .rf _ _, q => q
  | .vd _, q => q
  | .rn _, q => q
  | .never, _ => trivial
theorem HS.trunc {K : PySem.W.Frag} {B : Bs} {S H : Hp} {ls : List Addr} {Mu Mj : Mm} (h : HS K B S ls (Mu ++ Mj) H) (hc : B.C0.length ≤ Mu.length) : HS K B S (ls.take Mu.length) Mu H := by
  have hl : Mu.length ≤ ls.length := by
    rw [h.len, List.length_append]
    omega
  refine ⟨h.ex, h.s0, h.new, h.fr, ?_, by rw [List.length_take]; omega, h.nd.sublist (List.take_sublist _ _), fun k m e => ?_, fun a ha => h.old a (List.mem_of_mem_take ha), fun a ha => h.lsn a (List.mem_of_mem_take ha)⟩
  · obtain ⟨m, e⟩ := h.c0
    exact ⟨m.take (Mu.length - B.C0.length), by rw [e, List.take_append, List.take_of_length_le hc]⟩
  · have hk : k < Mu.length := (List.getElem?_eq_some_iff.mp e).1
    obtain ⟨a, o, e1, r⟩ := h.cell k m (by rw [List.getElem?_append_left hk]; exact e)
    exact ⟨a, o, by rw [List.getElem?_take_of_lt hk]; exact e1, r⟩
def EvB {ω : Type} (K : PySem.W.Frag) (np : Nat) (t : TS) (G : Gm) (Mu : Mm) (κ : ω → OS) (m : Mr ω) : Prop :=
  ∀ B σ S ls H D w, B.C0.length = np → Sl K S ls σ G → HS K B S ls Mu H → m = .ok w → Acc K B S ls D (κ w) → t D σ H
/-- slots forgotten, slot by slot -/
inductive GSub : Gm → Gm → Prop where
  | nil : GSub [] []
  | keep {s : Option SV} {G' G : Gm} (h : GSub G' G) : GSub (s :: G') (s :: G)
  | drop {s : Option SV} {G' G : Gm} (h : GSub G' G) : GSub (none :: G') (s :: G)
theorem GSub.len : ∀ {G' G : Gm}, GSub G' G → G'.length = G.length
  | _, _, .nil => rfl
  | _, _, .keep h => congrArg (· + 1) h.len
  | _, _, .drop h => congrArg (· + 1) h.len
theorem GSub.get : ∀ {G' G : Gm}, GSub G' G → ∀ (i : Nat) (s : SV), G'[i]? = some (some s) → G[i]? = some (some s)
  | _, _, .nil, _, _, e => by simp at e
  | _, _, .keep h, 0, _, e => e
  | _, _, .keep h, i + 1, s, e => h.get i s e
  | _, _, .drop h, 0, _, e => by simp at e
  | _, _, .drop h, i + 1, s, e => h.get i s e
theorem GSub.refl : ∀ G : Gm, GSub G G
  | [] => .nil
  | _ :: G => .keep (GSub.refl G)
theorem Sl.sub {K : PySem.W.Frag} {S : Hp} {ls : List Addr} {σ : St} {G G' : Gm} (q : Sl K S ls σ G) (h : GSub G' G) : Sl K S ls σ G' := q.drop h.len h.get
def cellsOk (n : Nat) : Gm → Bool
  | [] => true
  | some (.cell k) :: r => decide (k < n) && cellsOk n r
  | _ :: r => cellsOk n r
theorem cellsOk_get {n : Nat} : ∀ {G : Gm}, cellsOk n G = true → ∀ (i k : Nat), G[i]? = some (some (.cell k)) → k < n
  | [], _, i, k, e => by simp at e
  | some (.cell j) :: r, h, 0, k, e => by
    have e : some (SV.cell j) = some (SV.cell k) := by simpa using e
    cases e
    have := (Bool.and_eq_true_iff.mp (show (decide (j < n) && cellsOk n r) = true from h)).1
    exact of_decide_eq_true this
  | some (.cell j) :: r, h, i + 1, k, e => cellsOk_get ((Bool.and_eq_true_iff.mp (show (decide (j < n) && cellsOk n r) = true from h)).2) i k (by simpa using e)
  | some (.val t) :: r, h, 0, k, e => by simp at e
  | some (.val t) :: r, h, i + 1, k, e => cellsOk_get (show cellsOk n r = true from h) i k (by simpa using e)
  | none :: r, h, 0, k, e => by simp at e
  | none :: r, h, i + 1, k, e => cellsOk_get (show cellsOk n r = true from h) i k (by simpa using e)
theorem Sl.trunc {K : PySem.W.Frag} {S : Hp} {ls : List Addr} {σ : St} {G : Gm} {n : Nat} (q : Sl K S ls σ G) (h : cellsOk n G = true) : Sl K S (ls.take n) σ G :=
  ⟨q.1, fun i s e => by
    obtain ⟨v, e1, e2⟩ := q.2 i s e
    refine ⟨v, e1, ?_⟩
    cases s with
    | val t => exact e2
    | cell k =>
      obtain ⟨a, f1, f2⟩ := e2
      exact ⟨a, by rw [List.getElem?_take_of_lt (cellsOk_get h i k e)]; exact f1, f2⟩⟩
section
variable {ω τ : Type} {K : PySem.W.Frag} {np : Nat} {G G' : Gm} {Mu Mu1 Mu2 : Mm} {κ : ω → OS} {m : Mr ω} {w : ω} {t u : TS} {te : TE} {s : SV} {i : Nat}
theorem eb_bind {α : Type} {p : Mr α} {k : α → Mr ω} (h : ∀ r, p = .ok r → EvB K np t G Mu κ (k r)) : EvB K np t G Mu κ (p >>= k) := fun B σ S ls H D w hn sl hs e q => by
  obtain ⟨a, e1, e2⟩ := bind_ok e
  exact h a e1 B σ S ls H D w hn sl hs e2 q
theorem eb_if {c : Prop} [Decidable c] {m1 m2 : Mr ω} (h1 : c → EvB K np t G Mu κ m1) (h2 : ¬ c → EvB K np t G Mu κ m2) : EvB K np t G Mu κ (if c then m1 else m2) := by
  by_cases h : c
  · rw [if_pos h]
    exact h1 h
  · rw [if_neg h]
    exact h2 h
theorem eb_eq {m' : Mr ω} (h : EvB K np t G Mu κ m') (e : m = m') : EvB K np t G Mu κ m := e ▸ h
/-- the end of a block; what came to be in it is dropped -/
theorem eb_nil {G0 : Gm} {Mu0 Mj : Mm} (hκ : κ w = .nx G0 Mu0) (hG : GSub G0 G) (hM : Mu = Mu0 ++ Mj) (hn : np ≤ Mu0.length) (hc : cellsOk Mu0.length G0 = true) : EvB K np tNext G Mu κ (.ok w) := fun B σ S ls H D w' e0 sl hs e q => by
  cases e
  rw [hκ] at q
  subst hM
  have hp : B.C0.length ≤ Mu0.length := by rw [e0]; exact hn
  exact q σ S _ H (Same.refl _) (Cmp.take (Pre.refl _) _) ((sl.sub hG).trunc hc) (hs.trunc hp)
theorem eb_pass (h : EvB K np u G Mu κ m) : EvB K np (tSeq tNext u) G Mu κ m := fun B σ S ls H D w hn sl hs e q => h B σ S ls H D w hn sl hs e q
theorem eb_brk {G0 : Gm} {Mu0 Mj : Mm} (hκ : κ w = .bk G0 Mu0) (hG : GSub G0 G) (hM : Mu = Mu0 ++ Mj) (hn : np ≤ Mu0.length) (hc : cellsOk Mu0.length G0 = true) : EvB K np (tSeq tBreak u) G Mu κ (.ok w) := fun B σ S ls H D w' e0 sl hs e q => by
  cases e
  rw [hκ] at q
  subst hM
  have hp : B.C0.length ≤ Mu0.length := by rw [e0]; exact hn
  exact q σ S _ H (Same.refl _) (Cmp.take (Pre.refl _) _) ((sl.sub hG).trunc hc) (hs.trunc hp)
theorem eb_cnt {G0 : Gm} {Mu0 Mj : Mm} (hκ : κ w = .ct G0 Mu0) (hG : GSub G0 G) (hM : Mu = Mu0 ++ Mj) (hn : np ≤ Mu0.length) (hc : cellsOk Mu0.length G0 = true) : EvB K np (tSeq tCont u) G Mu κ (.ok w) := fun B σ S ls H D w' e0 sl hs e q => by
  cases e
  rw [hκ] at q
  subst hM
  have hp : B.C0.length ≤ Mu0.length := by rw [e0]; exact hn
  exact q σ S _ H (Same.refl _) (Cmp.take (Pre.refl _) _) ((sl.sub hG).trunc hc) (hs.trunc hp)
/-- x = e -/
theorem eb_asg (h : EvV K te G Mu Mu1 s) (r : EvB K np u (G.set i (some s)) Mu1 κ m) : EvB K np (tSeq (tAsg te (gName i)) u) G Mu κ m := fun B σ S ls H D w hn sl hs e q =>
  h B σ S ls H _ sl hs fun v S1 l1 H1 a1 b1 c1 d1 => r B (σ.set i (some v)) S1 l1 H1 D w hn ((sl.mono a1 b1).set d1) c1 e (q.mono a1 b1)
/-- e; alone -/
theorem eb_drop (h : EvV K te G Mu Mu1 s) (r : EvB K np u G Mu1 κ m) : EvB K np (tSeq (tDrop te) u) G Mu κ m := fun B σ S ls H D w hn sl hs e q =>
  h B σ S ls H _ sl hs fun v S1 l1 H1 a1 b1 c1 d1 => r B σ S1 l1 H1 D w hn (sl.mono a1 b1) c1 e (q.mono a1 b1)
/-- return e -/
theorem eb_ret {tt : TV} {Mp Mj : Mm} (h : EvV K te G Mu Mu1 (.val tt)) (hκ : κ w = .rt tt Mp) (hM : Mu1 = Mp ++ Mj) : EvB K np (tSeq (tRet te) u) G Mu κ (.ok w) := fun B σ S ls H D w' hn sl hs e q => by
  cases e
  rw [hκ] at q
  subst hM
  exact h B σ S ls H _ sl hs fun v S1 l1 H1 a1 b1 c1 d1 => q v S1 l1 H1 Mj c1 d1
theorem eb_retF {mv : MV} {Mp Mj : Mm} (h : EvF K te G Mu Mu1 mv) (hκ : κ w = .rf mv Mp) (hM : Mu1 = Mp ++ Mj) : EvB K np (tSeq (tRet te) u) G Mu κ (.ok w) := fun B σ S ls H D w' hn sl hs e q => by
  cases e
  rw [hκ] at q
  subst hM
  exact h B σ S ls H _ sl hs fun p o S1 l1 H1 a1 b1 c1 e1 n1 n2 n3 d1 => q p o S1 l1 H1 Mj c1 e1 n1 (fun z => n2 (List.mem_of_mem_take z)) n3 d1
/-- return of an own cell -/
theorem eb_retC {mv : MV} {Mp Mj : Mm} {k : Nat} (h : EvV K te G Mu Mu1 (.cell k)) (hκ : κ w = .rf mv Mp) (hM : Mu1 = Mp ++ Mj) (hk : Mu1[k]? = some (some mv)) (hp : Mp.length ≤ k) (hnp : np ≤ Mp.length) : EvB K np (tSeq (tRet te) u) G Mu κ (.ok w) := fun B σ S ls H D w' hn sl hs e q => by
  cases e
  rw [hκ] at q
  refine h B σ S ls H _ sl hs fun v S1 l1 H1 a1 b1 c1 d1 => ?_
  obtain ⟨a, e1, e2⟩ := d1
  subst e2
  obtain ⟨a', o, f1, f2, f3, f4⟩ := c1.cell k mv hk
  rw [e1] at f1
  cases f1
  have f5 := c1.lsn a (List.mem_of_getElem? e1)
  subst hM
  refine q a o S1 l1 H1 Mj c1 f3 f2 (fun z => ?_) ?_ f4
  · obtain ⟨j, hj, ej⟩ := List.mem_iff_getElem.mp z
    rw [List.getElem_take] at ej
    rw [List.length_take] at hj
    obtain ⟨l2, g2⟩ := List.getElem?_eq_some_iff.mp e1
    have := (List.getElem_inj c1.nd).mp (ej.trans g2.symm)
    omega
  · rcases f5 with z | z
    · exact z
    · exfalso
      obtain ⟨j, hj, ej⟩ := List.mem_iff_getElem.mp z
      obtain ⟨more, em⟩ := c1.c0
      have hj2 : j < l1.length := by rw [em, List.length_append]; omega
      have ej2 : l1[j] = a := by
        rw [← ej]
        simp only [em]
        exact List.getElem_append_left hj
      obtain ⟨l2, g2⟩ := List.getElem?_eq_some_iff.mp e1
      have := (List.getElem_inj c1.nd).mp (ej2.trans g2.symm)
      omega
theorem eb_retN {Mp Mj : Mm} (hκ : κ w = .vd Mp ∨ κ w = .rn Mp) (hM : Mu = Mp ++ Mj) : EvB K np (tSeq tRetN u) G Mu κ (.ok w) := fun B σ S ls H D w' hn sl hs e q => by
  cases e
  subst hM
  rcases hκ with hκ | hκ
  · rw [hκ] at q
    exact (q σ S ls H Mj hs).2
  · rw [hκ] at q
    exact q S ls H Mj hs
/-- the end of a def without a value -/
theorem eb_end {Mp Mj : Mm} (hκ : κ w = .vd Mp) (hM : Mu = Mp ++ Mj) : EvB K np tNext G Mu κ (.ok w) := fun B σ S ls H D w' hn sl hs e q => by
  cases e
  rw [hκ] at q
  subst hM
  exact (q σ S ls H Mj hs).1
/-- outcomes of a part, beside going on -/
def inn : OS → OS
  | .nx _ _ => .never
  | .vd Mp => .rn Mp
  | o => o
def innL : OS → OS
  | .rt t Mp => .rt t Mp
  | .rf m Mp => .rf m Mp
  | .vd Mp => .rn Mp
  | .rn Mp => .rn Mp
  | _ => .never
abbrev inner (κ : ω → OS) (w : ω) : OS := inn (κ w)
abbrev innerL (κ : ω → OS) (w : ω) : OS := innL (κ w)
theorem acc_inn {B : Bs} {S : Hp} {ls : List Addr} {D D' : Ends} (hr : D'.rt = D.rt) (hb : D'.bk = D.bk) (hc : D'.ct = D.ct) : ∀ {o : OS}, Acc K B S ls D o → Acc K B S ls D' (inn o)
  | .nx _ _, _ => trivial
  | .bk _ _, q => fun σ' S' ls' H' a b c d => by rw [hb]; exact q σ' S' ls' H' a b c d
  | .ct _ _, q => fun σ' S' ls' H' a b c d => by rw [hc]; exact q σ' S' ls' H' a b c d
  | .rt _ _, q => fun v S' ls' H' Mj a b => by rw [hr]; exact q v S' ls' H' Mj a b
  | .rf _ _, q => fun p o S' ls' H' Mj a b c d e f => by rw [hr]; exact q p o S' ls' H' Mj a b c d e f
  | .vd _, q => fun S' ls' H' Mj a => by rw [hr]; exact (q [] S' ls' H' Mj a).2
  | .rn _, q => fun S' ls' H' Mj a => by rw [hr]; exact q S' ls' H' Mj a
  | .never, _ => trivial
theorem acc_innL {B : Bs} {S S' : Hp} {ls ls' : List Addr} {D D' : Ends} (hr : D'.rt = D.rt) : ∀ {o : OS}, Acc K B S ls D o → Acc K B S' ls' D' (innL o)
  | .nx _ _, _ => trivial
  | .bk _ _, q => trivial
  | .ct _ _, q => trivial
  | .rt _ _, q => fun v S' ls' H' Mj a b => by rw [hr]; exact q v S' ls' H' Mj a b
  | .rf _ _, q => fun p o S' ls' H' Mj a b c d e f => by rw [hr]; exact q p o S' ls' H' Mj a b c d e f
  | .vd _, q => fun S' ls' H' Mj a => by rw [hr]; exact (q [] S' ls' H' Mj a).2
  | .rn _, q => fun S' ls' H' Mj a => by rw [hr]; exact q S' ls' H' Mj a
  | .never, _ => trivial
def jnK (g : τ → Gm) (mu : τ → Mm) (κ : ω → OS) : Jn τ ω → OS
  | .go s => .nx (g s) (mu s)
  | .out w => inner κ w
/-- if c: a (that does not go on); and what follows -/
theorem eb_ifr {tc : TT} {ta : TS} {b : Bool} {mA mR : Mr ω} (h : EvT K tc G Mu Mu1 b) (hA : b = true → EvB K np ta G Mu1 (inner κ) mA) (hR : b = false → EvB K np u G Mu1 κ mR) :
    EvB K np (tSeq (tIfS tc ta tNext) u) G Mu κ (if b = true then mA else mR) := fun B σ S ls H D w hn sl hs e q =>
  h B σ S ls H _ sl hs fun S1 l1 H1 a1 b1 c1 => by
    cases b with
    | true =>
      rw [if_pos rfl] at e
      rw [if_pos rfl]
      exact hA rfl B σ S1 l1 H1 _ w hn (sl.mono a1 b1) c1 e (acc_inn (D := D) (D' := { D with nx := u D }) rfl rfl rfl (q.mono a1 b1))
    | false =>
      rw [if_neg Bool.false_ne_true] at e
      rw [if_neg Bool.false_ne_true]
      exact hR rfl B σ S1 l1 H1 D w hn (sl.mono a1 b1) c1 e (q.mono a1 b1)
/-- if c: a else: b, and what follows both -/
theorem eb_ifj {tc : TT} {ta tb : TS} {b : Bool} {mA mB : Mr (Jn τ ω)} {g : τ → Gm} {mu : τ → Mm} {k : τ → Mr ω} (h : EvT K tc G Mu Mu1 b) (hA : b = true → EvB K np ta G Mu1 (jnK g mu κ) mA) (hB : b = false → EvB K np tb G Mu1 (jnK g mu κ) mB)
    (hl : ∀ s, Mu1.length ≤ (mu s).length) (hR : ∀ s, EvB K np u (g s) (mu s) κ (k s)) : EvB K np (tSeq (tIfS tc ta tb) u) G Mu κ ((if b = true then mA else mB) >>= Jn.k k) := fun B σ S ls H D w hn sl hs e q =>
  h B σ S ls H _ sl hs fun S1 l1 H1 a1 b1 c1 => by
    obtain ⟨j, e1, e2⟩ := bind_ok e
    have acc : Acc K B S1 l1 { D with nx := u D } (jnK g mu κ j) := by
      cases j with
      | go s =>
        intro σ' S' ls' H' sa cm sl' hs'
        have pr : Pre l1 ls' := cm.to_pre (by rw [c1.len, hs'.len]; exact hl s)
        exact hR s B σ' S' ls' H' D w hn sl' hs' e2 (q.mono (a1.trans sa) (b1.trans pr))
      | out w' =>
        cases e2
        refine acc_inn (D := D) ?_ ?_ ?_ (q.mono a1 b1) <;> rfl
    cases b with
    | true =>
      rw [if_pos rfl] at e1
      rw [if_pos rfl]
      exact hA rfl B σ S1 l1 H1 _ j hn (sl.mono a1 b1) c1 e1 acc
    | false =>
      rw [if_neg Bool.false_ne_true] at e1
      rw [if_neg Bool.false_ne_true]
      exact hB rfl B σ S1 l1 H1 _ j hn (sl.mono a1 b1) c1 e1 acc
/-- the last statement of a block -/
theorem eb_ifl {tc : TT} {ta tb : TS} {b : Bool} {mA mB : Mr ω} (h : EvT K tc G Mu Mu1 b) (hA : b = true → EvB K np ta G Mu1 κ mA) (hB : b = false → EvB K np tb G Mu1 κ mB) :
    EvB K np (tSeq (tIfS tc ta tb) tNext) G Mu κ (if b = true then mA else mB) := fun B σ S ls H D w hn sl hs e q =>
  h B σ S ls H _ sl hs fun S1 l1 H1 a1 b1 c1 => by
    cases b with
    | true =>
      rw [if_pos rfl] at e
      rw [if_pos rfl]
      exact hA rfl B σ S1 l1 H1 D w hn (sl.mono a1 b1) c1 e (q.mono a1 b1)
    | false =>
      rw [if_neg Bool.false_ne_true] at e
      rw [if_neg Bool.false_ne_true]
      exact hB rfl B σ S1 l1 H1 D w hn (sl.mono a1 b1) c1 e (q.mono a1 b1)

/-! ### loops -/
def stpK (g : τ → Gm) (mu : τ → Mm) (κ : ω → OS) : Stp τ ω → OS
  | .go s => .nx (g s) (mu s)
  | .cnt s => .ct (g s) (mu s)
  | .brk s => .bk (g s) (mu s)
  | .out w => innerL κ w
/-- what a loop or a comprehension walks: ts, while the cells are as P says -/
def ItOk (K : PySem.W.Frag) (J : It) (B : Bs) (S0 : Hp) (ls0 : List Addr) (ts : List TV) (P : Mm → Prop) : Prop :=
  ∀ i S ls Mu H, Same S0 S → Pre ls0 ls → P Mu → HS K B S ls Mu H →
    (∀ t, ts[i]? = some t → J.go i H ∧ ∀ x H', J.yld i H x H' → ∃ S', Same S S' ∧ HS K B S' ls Mu H' ∧ t.p K S' x ∧ Same H H' ∧ ∀ a o, S' a = some o → S a = some o ∨ H a = none) ∧ (ts.length ≤ i → J.stop i H)
def AftI (K : PySem.W.Frag) (B : Bs) (S : Hp) (ls : List Addr) (Mu : Mm) (ts : List TV) (P : Mm → Prop) (Z : Prop) (R : It → Hp → Prop) : Prop :=
  ∀ J S' ls' H', Same S S' → Pre ls ls' → HS K B S' ls' Mu H' → ItOk K J B S' ls' ts P → Z → R J H'
def EvI (K : PySem.W.Frag) (wi : TI) (G : Gm) (Mu Mu' : Mm) (ts : List TV) (P : Mm → Prop) (Z : Prop) : Prop :=
  ∀ B σ S ls H R, Sl K S ls σ G → HS K B S ls Mu H → AftI K B S ls Mu' ts P Z R → wi σ H R
/-- an item goes to its target -/
def EvG (K : PySem.W.Frag) (tg : TG) (s : SV) (G G' : Gm) : Prop :=
  ∀ B v σ S ls Mu H Q, s.p K S ls v → Sl K S ls σ G → HS K B S ls Mu H → (∀ σ', Sl K S ls σ' G' → Q σ' H) → tg v σ H Q
theorem eg_name : EvG K (gName i) s G (G.set i (some s)) := fun B v σ S ls Mu H Q r sl hs q => q _ (sl.set r)
theorem eb_for {α : Type} {R : Rep α} {wi : TI} {tg : TG} {tb : TS} {xs : List α} {P : Mm → Prop} {Z : Prop} {g : τ → Gm} {mu : τ → Mm} {s0 : τ} {f : τ → α → Mr (Stp τ ω)} {k : τ → Mr ω} {Gi : τ → α → Gm}
    (hi : EvI K wi G Mu (mu s0) (xs.map (tv R)) P Z) (hP : ∀ s, P (mu s)) (h0 : GSub (g s0) G) (hl : ∀ s, (mu s).length = (mu s0).length)
    (hg : ∀ s x, EvG K tg (.val (tv R x)) (g s) (Gi s x)) (hb : ∀ s x, EvB K np tb (Gi s x) (mu s) (stpK g mu κ) (f s x)) (hR : ∀ s, EvB K np u (g s) (mu s) κ (k s)) :
    EvB K np (tSeq (tFor wi tg tb) u) G Mu κ (forL xs s0 f >>= Stp.k k) := fun B σ S ls H D w hn sl hs e q =>
  hi B σ S ls H _ sl hs fun J S1 l1 H1 a1 b1 c1 it _ => by
    obtain ⟨r, e1, e2⟩ := bind_ok e
    refine ⟨fun i m σ' H' => m = xs.length - i ∧ i ≤ xs.length ∧ ∃ s S' ls', Same S1 S' ∧ Pre l1 ls' ∧ Sl K S' ls' σ' (g s) ∧ HS K B S' ls' (mu s) H' ∧ forL (xs.drop i) s f = .ok r, ⟨xs.length, by simp, Nat.zero_le _, s0, S1, l1, Same.refl _, Pre.refl _, (sl.mono a1 b1).sub h0, c1, e1⟩, ?_⟩
    rintro i m σ' H' ⟨rfl, hi, s, S', ls', sa, pr, sl', hs', er⟩
    obtain ⟨it1, it2⟩ := it i S' ls' (mu s) H' sa pr (hP s) hs'
    by_cases hlt : i < xs.length
    · have ei : (xs.map (tv R))[i]? = some (tv R xs[i]) := by simp [hlt]
      obtain ⟨go, yl⟩ := it1 _ ei
      rw [List.drop_eq_getElem_cons hlt] at er
      refine .inr ⟨go, fun σ3 H3 => ∃ s3 S3 ls3, Same S1 S3 ∧ Pre l1 ls3 ∧ Sl K S3 ls3 σ3 (g s3) ∧ HS K B S3 ls3 (mu s3) H3 ∧ forL (xs.drop (i + 1)) s3 f = .ok r, fun σ3 H3 n3 => ⟨xs.length - (i + 1), by omega, rfl, hlt, n3⟩, fun x H2 y => ?_⟩
      obtain ⟨S2, sa2, hs2, rx, _, _⟩ := yl x H2 y
      refine hg s xs[i] B x σ' S2 ls' (mu s) H2 _ rx (sl'.mono sa2 (Pre.refl _)) hs2 fun σ4 sl4 => ?_
      cases ef : f s xs[i] with
      | error z =>
        unfold forL at er
        rw [ef] at er
        cases er
      | ok st =>
        refine hb s xs[i] B σ4 S2 ls' H2 _ st hn sl4 hs2 ef ?_
        have nxt : ∀ s3 σ3 S3 ls3 H3, forL (xs.drop (i + 1)) s3 f = .ok r → Same S2 S3 → Cmp ls' ls3 → Sl K S3 ls3 σ3 (g s3) → HS K B S3 ls3 (mu s3) H3 → ∃ s3 S3 ls3, Same S1 S3 ∧ Pre l1 ls3 ∧ Sl K S3 ls3 σ3 (g s3) ∧ HS K B S3 ls3 (mu s3) H3 ∧ forL (xs.drop (i + 1)) s3 f = .ok r :=
          fun s3 σ3 S3 ls3 H3 er3 sa3 cm sl3 hs3 => by
            have hle : ls'.length ≤ ls3.length := by rw [hs'.len, hs3.len, hl s, hl s3]; exact Nat.le_refl _
            exact ⟨s3, S3, ls3, (sa.trans sa2).trans sa3, pr.trans (cm.to_pre hle), sl3, hs3, er3⟩
        cases st with
        | go s3 =>
          unfold forL at er
          rw [ef] at er
          exact fun σ3 S3 ls3 H3 sa3 cm sl3 hs3 => nxt s3 σ3 S3 ls3 H3 er sa3 cm sl3 hs3
        | cnt s3 =>
          unfold forL at er
          rw [ef] at er
          exact fun σ3 S3 ls3 H3 sa3 cm sl3 hs3 => nxt s3 σ3 S3 ls3 H3 er sa3 cm sl3 hs3
        | brk s3 =>
          unfold forL at er
          rw [ef] at er
          cases er
          refine fun σ3 S3 ls3 H3 sa3 cm sl3 hs3 => ?_
          have hle : ls'.length ≤ ls3.length := by rw [hs'.len, hs3.len, hl s, hl s3]; exact Nat.le_refl _
          exact hR s3 B σ3 S3 ls3 H3 D w hn sl3 hs3 e2 (q.mono (((a1.trans sa).trans sa2).trans sa3) ((b1.trans pr).trans (cm.to_pre hle)))
        | out w' =>
          unfold forL at er
          rw [ef] at er
          cases er
          cases e2
          refine acc_innL (D := D) ?_ q; rfl
    · have e0 : i = xs.length := by omega
      subst e0
      rw [List.drop_length] at er
      unfold forL at er
      cases er
      exact .inl ⟨it2 (by simp), hR s B σ' S' ls' H' D w hn sl' hs' e2 (q.mono (a1.trans sa) (b1.trans pr))⟩
end
end TL

/-! TL, third part: what is walked, comprehensions, while, promises and calls, built-ins, methods. -/
namespace TL
open PySem L2
def AnyM : Mm → Prop := fun _ => True
def Sm62 (a : Int) : Prop := -(2 ^ 62) ≤ a ∧ a < 2 ^ 62
section
variable {K : PySem.W.Frag} {G : Gm} {Mu Mu1 Mu2 : Mm} {ta : TA} {te tl : TE} {s : SV} {ts : List TV} {k : Knd} {a b : Int} {j : Nat}
/-- a value that is a sequence -/
theorem ei_list (h : EvV K tl G Mu Mu1 (.val (sqT k ts))) (hk : k.isL = true := by rfl) : EvI K (iList K tl) G Mu Mu1 ts AnyM (ts.length ≤ sizeLine) := fun B σ S ls H R sl hs q =>
  h B σ S ls H _ sl hs fun x S1 l1 H1 a1 b1 c1 d1 => by
    obtain ⟨p, vs, e, sq, hz, r⟩ := d1
    subst e
    have sql : SqL K S1 p vs := SqK.seq sq hk
    refine ⟨p, rfl, ⟨vs, Same.seq c1.ex sql⟩, q _ S1 l1 H1 a1 b1 c1 (fun i S2 l2 M2 H2 sa pr _ hs2 => ?_) (by rw [← Paired.length r]; exact hz)⟩
    have sq2 : SqL K H2 p vs := Same.seq (sa.trans hs2.ex) sql
    refine ⟨fun t et => ?_, fun hl => ⟨vs, sq2, by rw [Paired.length r]; exact hl⟩⟩
    obtain ⟨v, e1, e2⟩ := Paired.get2 r et
    refine ⟨⟨vs, v, sq2, e1⟩, fun x H3 y => ?_⟩
    obtain ⟨e3, y⟩ := y
    subst e3
    have ex : x = v := Option.some.inj ((y vs sq2).symm.trans e1)
    subst ex
    exact ⟨S2, Same.refl _, hs2, t.mono sa e2, Same.refl _, fun a o e => .inl e⟩
theorem ei_tup (h : EvV K tl G Mu Mu1 (.val (sqT .t ts))) : EvI K (iTup K tl) G Mu Mu1 ts AnyM (ts.length ≤ sizeLine) := fun B σ S ls H R sl hs q =>
  h B σ S ls H _ sl hs fun x S1 l1 H1 a1 b1 c1 d1 => by
    obtain ⟨p, vs, e, sq, hz, r⟩ := d1
    subst e
    have sql : SqT K S1 p vs := sq
    refine ⟨p, rfl, ⟨vs, same_seqT c1.ex sql⟩, q _ S1 l1 H1 a1 b1 c1 (fun i S2 l2 M2 H2 sa pr _ hs2 => ?_) (by rw [← Paired.length r]; exact hz)⟩
    have sq2 : SqT K H2 p vs := same_seqT (sa.trans hs2.ex) sql
    refine ⟨fun t et => ?_, fun hl => ⟨vs, sq2, by rw [Paired.length r]; exact hl⟩⟩
    obtain ⟨v, e1, e2⟩ := Paired.get2 r et
    refine ⟨⟨vs, v, sq2, e1⟩, fun x H3 y => ?_⟩
    obtain ⟨e3, y⟩ := y
    subst e3
    have ex : x = v := Option.some.inj ((y vs sq2).symm.trans e1)
    subst ex
    exact ⟨S2, Same.refl _, hs2, t.mono sa e2, Same.refl _, fun a o e => .inl e⟩
/-- an own cell that the loop leaves as it is -/
theorem ei_cell (h : EvV K tl G Mu Mu1 (.cell j)) (hm : Mu1[j]? = some (some (mL ts))) : EvI K (iList K tl) G Mu Mu1 ts (fun M => M[j]? = some (some (mL ts))) (ts.length ≤ sizeLine) := fun B σ S ls H R sl hs q =>
  h B σ S ls H _ sl hs fun x S1 l1 H1 a1 b1 c1 d1 => by
    obtain ⟨p, ep, e⟩ := d1
    subst e
    obtain ⟨p', o, e1, _, e3, ⟨vs, eo, hz, r⟩⟩ := c1.cell j _ hm
    rw [ep] at e1
    cases e1
    subst eo
    refine ⟨p, rfl, ⟨vs, SqL.of e3⟩, q _ S1 l1 H1 a1 b1 c1 (fun i S2 l2 M2 H2 sa pr hP hs2 => ?_) (by rw [← Paired.length r]; exact hz)⟩
    obtain ⟨p2, o2, f1, _, f3, ⟨vs2, fo, hz2, r2⟩⟩ := hs2.cell j _ hP
    rw [pr.get ep] at f1
    cases f1
    subst fo
    have sq2 : SqL K H2 p vs2 := SqL.of f3
    refine ⟨fun t et => ?_, fun hl => ⟨vs2, sq2, by rw [Paired.length r2]; exact hl⟩⟩
    obtain ⟨v, g1, g2⟩ := Paired.get2 r2 et
    refine ⟨⟨vs2, v, sq2, g1⟩, fun x H3 y => ?_⟩
    obtain ⟨e3', y⟩ := y
    subst e3'
    have ex : x = v := Option.some.inj ((y vs2 sq2).symm.trans g1)
    subst ex
    exact ⟨S2, Same.refl _, hs2, g2, Same.refl _, fun a o e => .inl e⟩
theorem rngI_at {i : Nat} {x : Int} (h : (rngI a b)[i]? = some x) : i < (b - a).toNat ∧ x = a + (i : Int) := by
  unfold rngI at h
  rw [List.getElem?_map] at h
  by_cases hi : i < (b - a).toNat
  · rw [List.getElem?_range hi] at h
    exact ⟨hi, (Option.some.inj h).symm⟩
  · rw [List.getElem?_eq_none (by simpa using hi)] at h
    cases h
theorem rngI_lenC : (rngI a b).length = (b - a).toNat := by
  unfold rngI
  rw [List.length_map, List.length_range]
theorem rngD_at {i : Nat} {x : Int} (h : (rngD a b)[i]? = some x) : i < (a - b).toNat ∧ x = a + (i : Int) * (-1) := by
  unfold rngD at h
  rw [List.getElem?_map] at h
  by_cases hi : i < (a - b).toNat
  · rw [List.getElem?_range hi] at h
    exact ⟨hi, (Option.some.inj h).symm⟩
  · rw [List.getElem?_eq_none (by simpa using hi)] at h
    cases h
theorem rngD_len : (rngD a b).length = (a - b).toNat := by
  unfold rngD
  rw [List.length_map, List.length_range]
theorem ok_rng {B : Bs} {S : Hp} {ls : List Addr} : ItOk K (Itr a (b - a).toNat) B S ls ((rngI a b).map (tv rInt)) AnyM := fun i S2 l2 M2 H2 sa pr _ hs2 => by
  refine ⟨fun t et => ?_, fun hl => ?_⟩
  · rw [List.getElem?_map] at et
    obtain ⟨x, ex, et⟩ := Option.map_eq_some_iff.mp et
    obtain ⟨hi, hx⟩ := rngI_at ex
    subst et hx
    refine ⟨hi, fun x H3 y => ?_⟩
    obtain ⟨e, y⟩ := y
    subst e y
    exact ⟨S2, Same.refl _, hs2, rfl, Same.refl _, fun a o e => .inl e⟩
  · rw [List.length_map, rngI_lenC] at hl
    exact hl
theorem ei_rng1 (h : EvA K ta G Mu Mu1 [vI b]) (hb : Sm62 b) : EvI K (iRng1 ta) G Mu Mu1 ((rngI 0 b).map (tv rInt)) AnyM True := fun B σ S ls H R sl hs q =>
  h B σ S ls H _ sl hs fun vs S1 l1 H1 a1 b1 c1 d1 => by
    cases d1 with
    | cons r0 r1 =>
      cases r1
      cases r0
      refine ⟨b, rfl, hb.1, hb.2, ?_⟩
      have e : b.toNat = (b - 0).toNat := by rw [Int.sub_zero]
      rw [e]
      exact q _ S1 l1 H1 a1 b1 c1 ok_rng trivial
theorem ei_rng2 (h : EvA K ta G Mu Mu1 [vI a, vI b]) (ha : Sm62 a) (hb : Sm62 b) : EvI K (iRng2 ta) G Mu Mu1 ((rngI a b).map (tv rInt)) AnyM True := fun B σ S ls H R sl hs q =>
  h B σ S ls H _ sl hs fun vs S1 l1 H1 a1 b1 c1 d1 => by
    cases d1 with
    | cons r0 r1 =>
      cases r1 with
      | cons r1 r2 =>
        cases r2
        cases r0
        cases r1
        exact ⟨a, b, rfl, ⟨ha.1, ha.2, hb.1, hb.2⟩, q _ S1 l1 H1 a1 b1 c1 ok_rng trivial⟩
theorem ei_rngD (h : EvA K ta G Mu Mu1 [vI a, vI b, vI (-1)]) (ha : Sm62 a) (hb : Sm62 b) : EvI K (iRng3 ta) G Mu Mu1 ((rngD a b).map (tv rInt)) AnyM True := fun B σ S ls H R sl hs q =>
  h B σ S ls H _ sl hs fun vs S1 l1 H1 a1 b1 c1 d1 => by
    cases d1 with
    | cons r0 r1 =>
      cases r1 with
      | cons r1 r2 =>
        cases r2 with
        | cons r2 r3 =>
          cases r3
          cases r0
          cases r1
          cases r2
          refine ⟨a, b, -1, (a - b).toNat, rfl, RgC.neg ha.1 ha.2 hb.1 hb.2, q _ S1 l1 H1 a1 b1 c1 (fun i S2 l2 M2 H2 sa pr _ hs2 => ?_) trivial⟩
          refine ⟨fun t et => ?_, fun hl => ?_⟩
          · rw [List.getElem?_map] at et
            obtain ⟨x, ex, et⟩ := Option.map_eq_some_iff.mp et
            obtain ⟨hi, hx⟩ := rngD_at ex
            subst et hx
            refine ⟨hi, fun x H3 y => ?_⟩
            obtain ⟨e, y⟩ := y
            subst e y
            exact ⟨S2, Same.refl _, hs2, rfl, Same.refl _, fun a o e => .inl e⟩
          · rw [List.length_map, rngD_len] at hl
            exact hl
end

/-! ### comprehensions -/
theorem lcR_acc {α β τ : Type} {f : τ → α → Mr (Option β × τ)} : ∀ {xs : List α} {s : τ} {ys : List β} {s2 : τ}, lcR xs s f = .ok (ys, s2) → ys.length ≤ xs.length
  | [], s, ys, s2, h => by
    cases h
    exact Nat.le_refl _
  | x :: xs, s, ys, s2, h => by
    unfold lcR at h
    cases e : f s x with
    | error z =>
      rw [e] at h
      cases h
    | ok r =>
      obtain ⟨o, s1⟩ := r
      rw [e] at h
      dsimp only at h
      cases e2 : lcR xs s1 f with
      | error z =>
        rw [e2] at h
        cases h
      | ok r2 =>
        obtain ⟨zs, s3⟩ := r2
        rw [e2] at h
        cases h
        have := lcR_acc e2
        rw [List.length_append, List.length_cons]
        cases o <;> simp <;> omega
def wipeG (G : Gm) : List Nat → Gm
  | [] => G
  | v :: vs => (wipeG G vs).set v none
theorem slWipe {K : PySem.W.Frag} {S : Hp} {ls : List Addr} {σ : St} {G : Gm} (q : Sl K S ls σ G) : ∀ vs : List Nat, Sl K S ls (wipe σ vs) (wipeG G vs)
  | [] => q
  | v :: vs => by
    have h := slWipe q vs
    refine ⟨by show ((wipe σ vs).set v none).length = ((wipeG G vs).set v none).length; simp [h.1], fun i s e => ?_⟩
    have e : ((wipeG G vs).set v none)[i]? = some (some s) := e
    by_cases hi : v = i
    · subst hi
      by_cases hv : v < (wipeG G vs).length
      · rw [List.getElem?_set_self hv] at e
        cases e
      · rw [List.getElem?_eq_none (by simpa using hv)] at e
        cases e
    · rw [List.getElem?_set_ne hi] at e
      obtain ⟨u, e1, e2⟩ := h.2 i s e
      exact ⟨u, by show ((wipe σ vs).set v none)[i]? = _; rw [List.getElem?_set_ne hi]; exact e1, e2⟩
/-- an item goes to a target whose names are the comprehension's own -/
def EvGo (K : PySem.W.Frag) (tg : TG) (vs : List Nat) (s : SV) (G G' : Gm) : Prop :=
  ∀ B v σ S ls Mu H Q, s.p K S ls v → Sl K S ls (wipe σ vs) G → HS K B S ls Mu H → (∀ σ', wipe σ' vs = wipe σ vs → Sl K S ls σ' G' → Q σ' H) → tg v (wipe σ vs) H Q
theorem wipe_set {σ : St} {i : Nat} {v : Option V} : wipe ((wipe σ [i]).set i v) [i] = wipe σ [i] := by
  show (List.set (List.set (List.set σ i none) i v) i none) = List.set σ i none
  rw [List.set_set, List.set_set]
theorem ego_name {K : PySem.W.Frag} {i : Nat} {s : SV} {G : Gm} : EvGo K (gName i) [i] s G (G.set i (some s)) := fun B v σ S ls Mu H Q r sl hs q => q _ wipe_set (sl.set r)
section
variable {K : PySem.W.Frag} {G : Gm} {Mu Mu1 Mu2 : Mm} {te : TE} {tt : TT} {α β τ : Type} {R : Rep α} {R' : Rep β} {wi : TI} {tg : TG} {xs : List α} {P : Mm → Prop} {Z : Prop} {vs : List Nat}
theorem ef_lc {mu : τ → Mm} {s0 s2 : τ} {ys : List β} {f : τ → α → Mr (Option β × τ)} {Gi : α → Gm} (hi : EvI K wi G Mu (mu s0) (xs.map (tv R)) P Z) (hz : Z → xs.length ≤ sizeLine) (hP : ∀ s, P (mu s)) (hl : ∀ s, (mu s).length = (mu s0).length)
    (hg : ∀ x, EvGo K tg vs (.val (tv R x)) (wipeG G vs) (Gi x))
    (hb : ∀ s x o s', f s x = .ok (o, s') → ∃ b M1, EvT K tt (Gi x) (mu s) M1 b ∧ (b = true → ∃ y, o = some y ∧ EvV K te (Gi x) M1 (mu s') (.val (tv R' y))) ∧ (b = false → o = none ∧ M1 = mu s'))
    (hr : lcR xs s0 f = .ok (ys, s2)) : EvF K (tLc wi tg tt te vs) G Mu (mu s2) (mL (ys.map (tv R'))) := fun B σ S ls H Q sl hs q =>
  hi B σ S ls H _ sl hs fun J S1 l1 H1 a1 b1 c1 it hZ D hD => by
    have hz := hz hZ
    obtain ⟨nD1, nD2, nD3⟩ := c1.fresh hD
    have slw : Sl K S1 l1 (wipe σ vs) (wipeG G vs) := slWipe (sl.mono a1 b1) vs
    refine ⟨fun i m H' => m = xs.length - i ∧ i ≤ xs.length ∧ ∃ (s : τ) (S' : Hp) (acc : List V) (zs : List β), Same S1 S' ∧ S' D = none ∧ HS K B S' l1 (mu s) H' ∧ H' D = some (.lst acc) ∧ acc.length ≤ i ∧ AllT K S' acc (zs.map (tv R')) ∧ ∃ ws, lcR (xs.drop i) s f = Except.ok (ws, s2) ∧ ys = zs ++ ws,
      ⟨xs.length, by simp, Nat.zero_le _, s0, S1, [], [], Same.refl _, nD1, c1.loose hD, upd_same, Nat.le_refl _, .nil, ys, hr, rfl⟩, ?_⟩
    rintro i m H' ⟨rfl, hi, s, S', acc, zs, sa, nd, hs', hD', hacc, r, ws, er, ey⟩
    obtain ⟨it1, it2⟩ := it i S' l1 (mu s) H' sa (Pre.refl _) (hP s) hs'
    by_cases hlt : i < xs.length
    · have ei : (xs.map (tv R))[i]? = some (tv R xs[i]) := by simp [hlt]
      obtain ⟨go, yl⟩ := it1 _ ei
      rw [List.drop_eq_getElem_cons hlt] at er
      unfold lcR at er
      cases ef : f s xs[i] with
      | error z =>
        rw [ef] at er
        cases er
      | ok rr =>
        obtain ⟨o, s1⟩ := rr
        rw [ef] at er
        dsimp only at er
        cases e2 : lcR (xs.drop (i + 1)) s1 f with
        | error z =>
          rw [e2] at er
          cases er
        | ok r2 =>
          obtain ⟨ws2, s3⟩ := r2
          rw [e2] at er
          cases er
          refine .inr ⟨go, fun H3 => ∃ (s : τ) (S' : Hp) (acc : List V) (zs : List β), Same S1 S' ∧ S' D = none ∧ HS K B S' l1 (mu s) H3 ∧ H3 D = some (.lst acc) ∧ acc.length ≤ i + 1 ∧ AllT K S' acc (zs.map (tv R')) ∧ ∃ ws, lcR (xs.drop (i + 1)) s f = .ok (ws, s2) ∧ ys = zs ++ ws, fun H3 n3 => ⟨xs.length - (i + 1), by omega, rfl, hlt, n3⟩, fun x H2 y => ?_⟩
          obtain ⟨S2, sa2, hs2, rx, sH, nw⟩ := yl x H2 y
          have hD2 : H2 D = some (.lst acc) := sH D _ hD'
          have nd2 : S2 D = none := by
            cases q : S2 D with
            | none => rfl
            | some u =>
              rcases nw D u q with z | z
              · rw [nd] at z
                cases z
              · rw [hD'] at z
                cases z
          have hzz : acc.length < sizeLine := by omega
          have same_l : ∀ {l4 : List Addr} {s' : τ} {S4 H4 : Hp}, HS K ⟨H2, S2, l1⟩ S4 l4 (mu s') H4 → l4 = l1 := fun {l4 s' S4 H4} c4 => by
            obtain ⟨more, e4⟩ := c4.c0
            have h1 := c4.len
            have h2 := hs2.len
            have h3 := hl s
            have h4 := hl s'
            have e4 : l4 = l1 ++ more := e4
            rw [e4, List.length_append] at h1
            have : more = [] := List.eq_nil_of_length_eq_zero (by omega)
            rw [e4, this, List.append_nil]
          have nd4 : ∀ {l4 : List Addr} {M4 : Mm} {S4 H4 : Hp}, HS K ⟨H2, S2, l1⟩ S4 l4 M4 H4 → S4 D = none ∧ H4 D = some (.lst acc) := fun {l4 M4 S4 H4} c4 => by
            refine ⟨?_, c4.fr D _ hD2 nD2⟩
            cases q : S4 D with
            | none => rfl
            | some u =>
              rcases c4.new D u q with z | z | z
              · have z : S2 D = some u := z
                rw [nd2] at z
                cases z
              · have z : H2 D = none := z
                rw [hD2] at z
                cases z
              · exact absurd z nD2
          refine hg xs[i] B x σ S2 l1 (mu s) H2 _ rx (slw.mono (sa.trans sa2) (Pre.refl _)) hs2 fun σ4 ew sl4 => ⟨ew, ?_⟩
          obtain ⟨b, M1, ht, hy, hn⟩ := hb s xs[i] o s1 ef
          refine ht ⟨H2, S2, l1⟩ σ4 S2 l1 H2 _ sl4 hs2.start fun S3 l3 H3 a3 b3 c3 => ?_
          cases b with
          | true =>
            rw [if_pos rfl]
            obtain ⟨y', eo, hv⟩ := hy rfl
            subst eo
            refine hv ⟨H2, S2, l1⟩ σ4 S3 l3 H3 _ (sl4.mono a3 b3) c3 fun v S4 l4 H4 a4 b4 c4 d4 => ?_
            obtain ⟨n4, h4⟩ := nd4 c4
            have e4 := same_l c4
            subst e4
            have sa4 : Same S' S4 := (sa2.trans a3).trans a4
            refine ⟨acc, h4, hzz, s1, S4, acc ++ [v], zs ++ [y'], sa.trans sa4, n4, (hs2.back c4).scr n4 nD2 nD3, upd_same, by simp; omega, ?_, ws2, e2, by rw [ey]; simp⟩
            rw [List.map_append]
            exact Paired.app (r.mono sa4) (.cons d4 .nil)
          | false =>
            rw [if_neg Bool.false_ne_true]
            obtain ⟨eo, eM⟩ := hn rfl
            subst eo eM
            obtain ⟨n4, h4⟩ := nd4 c3
            have e4 := same_l c3
            subst e4
            have sa4 : Same S' S3 := sa2.trans a3
            exact ⟨s1, S3, acc, zs, sa.trans sa4, n4, hs2.back c3, h4, by omega, r.mono sa4, ws2, e2, by rw [ey]; simp⟩
    · have e0 : i = xs.length := by omega
      subst e0
      rw [List.drop_length] at er
      unfold lcR at er
      cases er
      rw [List.append_nil] at ey
      subst ey
      refine .inl ⟨it2 (by simp), q D _ S' l1 H' (a1.trans sa) b1 hs' hD' nd nD2 nD3 ⟨acc, rfl, Nat.le_trans hacc hz, r⟩⟩
end
end TL

/-! TL, fourth part: comprehensions in short, while, promises and calls, built-ins, methods. -/
namespace TL
open PySem L2
/-! ### comprehensions in short -/
theorem et_yes {K : PySem.W.Frag} {G : Gm} {Mu : Mm} : EvT K tYes G Mu Mu true := fun B σ S ls H Q sl hs q => q S ls H (Same.refl _) (Pre.refl _) hs
section
variable {K : PySem.W.Frag} {G : Gm} {Mu Mu1 Mu2 : Mm} {te : TE} {tt : TT} {α β τ : Type} {R : Rep α} {R' : Rep β} {wi : TI} {tg : TG} {xs : List α} {P : Mm → Prop} {Z : Prop} {vs : List Nat} {Gi : α → Gm}
theorem lcR_map {h : α → β} : ∀ xs : List α, lcR xs () (fun _ x => .ok (some (h x), ())) = .ok (xs.map h, ())
  | [] => rfl
  | x :: xs => by
    unfold lcR
    dsimp only
    rw [lcR_map xs]
    rfl
theorem ef_map {h : α → β} (hi : EvI K wi G Mu Mu1 (xs.map (tv R)) P Z) (hz : Z → xs.length ≤ sizeLine) (hP : P Mu1) (hg : ∀ x, EvGo K tg vs (.val (tv R x)) (wipeG G vs) (Gi x))
    (hb : ∀ x, EvV K te (Gi x) Mu1 Mu1 (.val (tv R' (h x)))) : EvF K (tLc wi tg tYes te vs) G Mu Mu1 (mL ((xs.map h).map (tv R'))) :=
  ef_lc (mu := fun _ : Unit => Mu1) (s0 := ()) (s2 := ()) (f := fun _ x => .ok (some (h x), ())) hi hz (fun _ => hP) (fun _ => rfl) hg (fun s x o s' e => by
    cases e
    exact ⟨true, Mu1, et_yes, fun _ => ⟨_, rfl, hb x⟩, fun z => nomatch z⟩) (lcR_map xs)
theorem lcR_mapR {h : α → Mr β} : ∀ {xs : List α} {ys : List β}, mapR h xs = .ok ys → lcR xs () (fun _ x => match h x with | .error e => .error e | .ok y => .ok (some y, ())) = .ok (ys, ())
  | [], ys, e => by
    cases e
    rfl
  | x :: xs, ys, e => by
    unfold mapR at e
    cases q : h x with
    | error z => rw [q] at e; cases e
    | ok y =>
      rw [q] at e
      dsimp only at e
      cases q2 : mapR h xs with
      | error z => rw [q2] at e; cases e
      | ok zs =>
        rw [q2] at e
        cases e
        unfold lcR
        dsimp only
        rw [q]
        dsimp only
        rw [lcR_mapR q2]
        rfl
theorem ef_mapR {h : α → Mr β} {ys : List β} (hi : EvI K wi G Mu Mu1 (xs.map (tv R)) P Z) (hz : Z → xs.length ≤ sizeLine) (hP : P Mu1) (hg : ∀ x, EvGo K tg vs (.val (tv R x)) (wipeG G vs) (Gi x))
    (hb : ∀ x y, h x = .ok y → EvV K te (Gi x) Mu1 Mu1 (.val (tv R' y))) (hr : mapR h xs = .ok ys) : EvF K (tLc wi tg tYes te vs) G Mu Mu1 (mL (ys.map (tv R'))) :=
  ef_lc (mu := fun _ : Unit => Mu1) (s0 := ()) (s2 := ()) (f := fun _ x => match h x with | .error e => .error e | .ok y => .ok (some y, ())) hi hz (fun _ => hP) (fun _ => rfl) hg (fun s x o s' e => by
    cases q : h x with
    | error z => rw [q] at e; cases e
    | ok y =>
      rw [q] at e
      cases e
      exact ⟨true, Mu1, et_yes, fun _ => ⟨_, rfl, hb x y q⟩, fun z => nomatch z⟩) (lcR_mapR hr)
theorem lcR_mapS {f : τ → α → Mr (β × τ)} : ∀ {xs : List α} {s s2 : τ} {ys : List β}, mapS f xs s = .ok (ys, s2) → lcR xs s (fun s x => match f s x with | .error e => .error e | .ok (y, s1) => .ok (some y, s1)) = .ok (ys, s2)
  | [], s, s2, ys, e => by
    cases e
    rfl
  | x :: xs, s, s2, ys, e => by
    unfold mapS at e
    cases q : f s x with
    | error z => rw [q] at e; cases e
    | ok r =>
      obtain ⟨y, s1⟩ := r
      rw [q] at e
      dsimp only at e
      cases q2 : mapS f xs s1 with
      | error z => rw [q2] at e; cases e
      | ok r2 =>
        obtain ⟨zs, s3⟩ := r2
        rw [q2] at e
        cases e
        unfold lcR
        dsimp only
        rw [q]
        dsimp only
        rw [lcR_mapS q2]
        rfl
theorem ef_mapS {mu : τ → Mm} {s0 s2 : τ} {ys : List β} {f : τ → α → Mr (β × τ)} (hi : EvI K wi G Mu (mu s0) (xs.map (tv R)) P Z) (hz : Z → xs.length ≤ sizeLine) (hP : ∀ s, P (mu s)) (hl : ∀ s, (mu s).length = (mu s0).length)
    (hg : ∀ x, EvGo K tg vs (.val (tv R x)) (wipeG G vs) (Gi x)) (hb : ∀ s x y s', f s x = .ok (y, s') → EvV K te (Gi x) (mu s) (mu s') (.val (tv R' y)))
    (hr : mapS f xs s0 = .ok (ys, s2)) : EvF K (tLc wi tg tYes te vs) G Mu (mu s2) (mL (ys.map (tv R'))) :=
  ef_lc (mu := mu) (s0 := s0) (s2 := s2) (f := fun s x => match f s x with | .error e => .error e | .ok (y, s1) => .ok (some y, s1)) hi hz hP hl hg (fun s x o s' e => by
    cases q : f s x with
    | error z => rw [q] at e; cases e
    | ok r =>
      obtain ⟨y, s1⟩ := r
      rw [q] at e
      cases e
      exact ⟨true, mu s, et_yes, fun _ => ⟨_, rfl, hb s x y _ q⟩, fun z => nomatch z⟩) (lcR_mapS hr)
theorem lcR_fil {b : α → Bool} {h : α → β} : ∀ xs : List α, lcR xs () (fun _ x => .ok (if b x = true then some (h x) else none, ())) = .ok ((xs.filter b).map h, ())
  | [] => rfl
  | x :: xs => by
    unfold lcR
    dsimp only
    rw [lcR_fil xs, List.filter_cons]
    by_cases e : b x = true
    · rw [if_pos e, if_pos e]
      rfl
    · rw [if_neg e, if_neg e]
      rfl
theorem ef_fil {b : α → Bool} {h : α → β} (hi : EvI K wi G Mu Mu1 (xs.map (tv R)) P Z) (hz : Z → xs.length ≤ sizeLine) (hP : P Mu1) (hg : ∀ x, EvGo K tg vs (.val (tv R x)) (wipeG G vs) (Gi x))
    (ht : ∀ x, EvT K tt (Gi x) Mu1 Mu1 (b x)) (hb : ∀ x, b x = true → EvV K te (Gi x) Mu1 Mu1 (.val (tv R' (h x)))) : EvF K (tLc wi tg tt te vs) G Mu Mu1 (mL (((xs.filter b).map h).map (tv R'))) :=
  ef_lc (mu := fun _ : Unit => Mu1) (s0 := ()) (s2 := ()) (f := fun _ x => .ok (if b x = true then some (h x) else none, ())) hi hz (fun _ => hP) (fun _ => rfl) hg (fun s x o s' e => by
    cases e
    refine ⟨b x, Mu1, ht x, fun z => ⟨h x, by rw [if_pos z], hb x z⟩, fun z => ⟨by rw [if_neg (by rw [z]; exact Bool.false_ne_true)], rfl⟩⟩) (lcR_fil xs)
theorem lcR_filR {f : α → Mr (Option β)} : ∀ {xs : List α} {ys : List β}, filR f xs = .ok ys → lcR xs () (fun _ x => match f x with | .error e => .error e | .ok o => .ok (o, ())) = .ok (ys, ())
  | [], ys, e => by
    cases e
    rfl
  | x :: xs, ys, e => by
    unfold filR at e
    cases q : f x with
    | error z => rw [q] at e; cases e
    | ok y =>
      rw [q] at e
      dsimp only at e
      cases q2 : filR f xs with
      | error z => rw [q2] at e; cases e
      | ok zs =>
        rw [q2] at e
        cases e
        unfold lcR
        dsimp only
        rw [q]
        dsimp only
        rw [lcR_filR q2]
/-- test and element may stop short -/
theorem ef_filR {f : α → Mr (Option β)} {ys : List β} (hi : EvI K wi G Mu Mu1 (xs.map (tv R)) P Z) (hz : Z → xs.length ≤ sizeLine) (hP : P Mu1) (hg : ∀ x, EvGo K tg vs (.val (tv R x)) (wipeG G vs) (Gi x))
    (hb : ∀ x o, f x = .ok o → ∃ b, EvT K tt (Gi x) Mu1 Mu1 b ∧ (b = true → ∃ y, o = some y ∧ EvV K te (Gi x) Mu1 Mu1 (.val (tv R' y))) ∧ (b = false → o = none)) (hr : filR f xs = .ok ys) : EvF K (tLc wi tg tt te vs) G Mu Mu1 (mL (ys.map (tv R'))) :=
  ef_lc (mu := fun _ : Unit => Mu1) (s0 := ()) (s2 := ()) (f := fun _ x => match f x with | .error e => .error e | .ok o => .ok (o, ())) hi hz (fun _ => hP) (fun _ => rfl) hg (fun s x o s' e => by
    cases q : f x with
    | error z => rw [q] at e; cases e
    | ok y =>
      rw [q] at e
      cases e
      obtain ⟨b, h1, h2, h3⟩ := hb x o q
      exact ⟨b, Mu1, h1, h2, fun z => ⟨h3 z, rfl⟩⟩) (lcR_filR hr)
end

/-! ### while -/
section
variable {ω τ : Type} {K : PySem.W.Frag} {np : Nat} {G : Gm} {Mu : Mm} {κ : ω → OS} {u tb : TS} {tc : TT}
theorem eb_while {g : τ → Gm} {mu : τ → Mm} {s0 : τ} {n : Nat} {c : τ → Mr Bool} {f : τ → Mr (Stp τ ω)} {k : τ → Mr ω} (hM : Mu = mu s0) (h0 : GSub (g s0) G) (hl : ∀ s, (mu s).length = (mu s0).length)
    (hc : ∀ s b, c s = .ok b → EvT K tc (g s) (mu s) (mu s) b) (hb : ∀ s, c s = .ok true → EvB K np tb (g s) (mu s) (stpK g mu κ) (f s)) (hR : ∀ s, EvB K np u (g s) (mu s) κ (k s)) :
    EvB K np (tSeq (tWhile tc tb) u) G Mu κ (whileL c f n s0 >>= Stp.k k) := fun B σ S ls H D w hn sl hs e q => by
  obtain ⟨r, e1, e2⟩ := bind_ok e
  subst hM
  refine ⟨fun m σ' H' => ∃ (s : τ) (S' : Hp) (ls' : List Addr), Same S S' ∧ Pre ls ls' ∧ Sl K S' ls' σ' (g s) ∧ HS K B S' ls' (mu s) H' ∧ whileL c f m s = Except.ok r, ⟨n, s0, S, ls, Same.refl _, Pre.refl _, sl.sub h0, hs, e1⟩, ?_⟩
  rintro m σ' H' ⟨s, S', ls', sa, pr, sl', hs', er⟩
  cases m with
  | zero => cases er
  | succ m =>
    unfold whileL at er
    cases ec : c s with
    | error z => rw [ec] at er; cases er
    | ok b =>
      rw [ec] at er
      refine hc s b ec B σ' S' ls' H' _ sl' hs' fun S2 l2 H2 a2 b2 c2 => ?_
      cases b with
      | false =>
        cases er
        rw [if_neg Bool.false_ne_true]
        exact hR s B σ' S2 l2 H2 D w hn (sl'.mono a2 b2) c2 e2 (q.mono (sa.trans a2) (pr.trans b2))
      | true =>
        rw [if_pos rfl]
        dsimp only at er
        refine ⟨fun σ3 H3 => ∃ (s3 : τ) (S3 : Hp) (ls3 : List Addr), Same S S3 ∧ Pre ls ls3 ∧ Sl K S3 ls3 σ3 (g s3) ∧ HS K B S3 ls3 (mu s3) H3 ∧ whileL c f m s3 = Except.ok r, fun σ3 H3 n3 => ⟨m, by omega, n3⟩, ?_⟩
        cases ef : f s with
        | error z => rw [ef] at er; cases er
        | ok st =>
          rw [ef] at er
          refine hb s ec B σ' S2 l2 H2 _ st hn (sl'.mono a2 b2) c2 ef ?_
          have prf : ∀ {s3 : τ} {ls3 : List Addr} {S3 H3 : Hp}, Cmp l2 ls3 → HS K B S3 ls3 (mu s3) H3 → Pre ls ls3 := fun {s3 ls3 S3 H3} cm hs3 =>
            (pr.trans b2).trans (cm.to_pre (by rw [c2.len, hs3.len, hl s, hl s3]; exact Nat.le_refl _))
          cases st with
          | go s3 => exact fun σ3 S3 ls3 H3 sa3 cm sl3 hs3 => ⟨s3, S3, ls3, (sa.trans a2).trans sa3, prf cm hs3, sl3, hs3, er⟩
          | cnt s3 => exact fun σ3 S3 ls3 H3 sa3 cm sl3 hs3 => ⟨s3, S3, ls3, (sa.trans a2).trans sa3, prf cm hs3, sl3, hs3, er⟩
          | brk s3 =>
            cases er
            exact fun σ3 S3 ls3 H3 sa3 cm sl3 hs3 => hR s3 B σ3 S3 ls3 H3 D w hn sl3 hs3 e2 (q.mono ((sa.trans a2).trans sa3) (prf cm hs3))
          | out w' =>
            cases er
            cases e2
            refine acc_innL (D := D) ?_ q
            rfl
end

/-! ### promises -/
/-- what a def does: its arguments, its callers' cells that it is given, its mirror, its outcome -/
structure FS (ι ω : Type) where
  ins : ι → List SV
  cells : ι → Mm
  m : ι → Mr ω
  out : ι → ω → OS
def spT {ι ω : Type} (K : PySem.W.Frag) (F : FS ι ω) : Sp := fun vs H Q _ => ∃ (x : ι) (w : ω) (S : Hp) (ls : List Addr), F.m x = .ok w ∧ HS K ⟨H, S, ls⟩ S ls (F.cells x) H ∧ AllS K S ls vs (F.ins x) ∧
  Acc K ⟨H, S, ls⟩ S ls { nx := fun _ H' => Q .non H', rt := Q } (F.out x w)
theorem sp_len {ι ω : Type} {K : PySem.W.Frag} {F : FS ι ω} {n : Nat} (h : ∀ x, (F.ins x).length = n) (vs : List V) (H : Hp) (Q : VK) (E : XK) (q : spT K F vs H Q E) : vs.length = n := by
  obtain ⟨x, w, S, ls, _, _, r, _⟩ := q
  rw [Paired.length r, h x]
/-- the slots at a def's entry -/
def startG (N : Nat) (ss : List SV) : Gm := ss.map some ++ List.replicate (N - ss.length) none
theorem sl_start {K : PySem.W.Frag} {S : Hp} {ls : List Addr} {N : List Str} {vs : List V} {ss : List SV} (r : AllS K S ls vs ss) : Sl K S ls (L2.start N vs) (startG N.length ss) := by
  have hl := Paired.length r
  refine ⟨by unfold L2.start startG; simp [hl], fun i s e => ?_⟩
  unfold startG at e
  by_cases hi : i < ss.length
  · rw [List.getElem?_append_left (by simpa using hi), List.getElem?_map] at e
    obtain ⟨s', e1, e2⟩ := Option.map_eq_some_iff.mp e
    cases e2
    obtain ⟨v, f1, f2⟩ := Paired.get2 r e1
    refine ⟨v, ?_, f2⟩
    unfold L2.start
    rw [List.getElem?_append_left (by simp; omega), List.getElem?_map, f1]
    rfl
  · rw [List.getElem?_append_right (by simpa using hi), List.getElem?_replicate] at e
    split at e <;> cases e
/-- a def's body keeps its promise -/
theorem sp_body {ι ω : Type} {K : PySem.W.Frag} {F : FS ι ω} {N : List Str} {vs : List V} {H : Hp} {Q : VK} {E : XK} {t : TS} (q : spT K F vs H Q E)
    (h : ∀ x, EvB K (F.cells x).length t (startG N.length (F.ins x)) (F.cells x) (F.out x) (F.m x)) : t { nx := fun _ H' => Q .non H', rt := Q } (L2.start N vs) H := by
  obtain ⟨x, w, S, ls, e, hs, r, acc⟩ := q
  exact h x ⟨H, S, ls⟩ (L2.start N vs) S ls H _ w hs.len (sl_start r) hs e acc

/-! ### calls -/
section
variable {ι ω : Type} {K : PySem.W.Frag} {G : Gm} {Mu Mu1 : Mm} {ta : TA} {F : FS ι ω} {x : ι} {w : ω} {E : XK} {ss : List SV}
/-- of values alone -/
theorem HS.under {B : Bs} {S H : Hp} {ls : List Addr} {Mu : Mm} (h : HS K B S ls Mu H) : HS K ⟨H, S, []⟩ S [] [] H :=
  ⟨h.ex, Same.refl _, fun a o e => .inl e, fun a o e _ => e, Pre.refl _, rfl, List.nodup_nil, fun k m e => by simp at e, fun a ha => by simp at ha, fun a ha => by simp at ha⟩
theorem HS.over {B : Bs} {S H S2 H2 : Hp} {ls : List Addr} {Mu : Mm} {l2 : List Addr} {M2 : Mm} (h : HS K B S ls Mu H) (g : HS K ⟨H, S, []⟩ S2 l2 M2 H2) : HS K B S2 ls Mu H2 := by
  have no : ∀ a, H a = none → B.H0 a = none := fun a e => (h.fresh e).2.2
  refine ⟨g.ex, h.s0.trans g.s0, fun a o e => ?_, fun a o e hc => g.fr a o (h.fr a o e hc) (by simp), h.c0, h.len, h.nd, fun k m e => ?_, fun a ha => ?_, h.lsn⟩
  · rcases g.new a o e with q | q | q
    · exact h.new a o q
    · exact .inr (.inl (no a q))
    · simp at q
  · obtain ⟨a, o, e1, e2, e3, e4⟩ := h.cell k m e
    refine ⟨a, o, e1, ?_, g.fr a o e3 (by simp), m.mono g.s0 e4⟩
    cases q : S2 a with
    | none => rfl
    | some u =>
      rcases g.new a u q with z | z | z
      · have z : S a = some u := z
        rw [e2] at z
        cases z
      · have z : H a = none := z
        rw [e3] at z
        cases z
      · simp at z
  · obtain ⟨o, e⟩ := h.old a ha
    exact ⟨o, g.fr a o e (by simp)⟩
theorem allS_drop {S : Hp} {ls ls' : List Addr} : ∀ {vs : List V} {ts : List TV}, AllS K S ls vs (ts.map .val) → AllS K S ls' vs (ts.map .val)
  | [], [], _ => .nil
  | [], _ :: _, h => nomatch h
  | _ :: _, [], h => nomatch h
  | _ :: _, _ :: _, .cons r t => .cons r (allS_drop t)
theorem ev_call {ts : List TV} {t : TV} (ha : EvA K ta G Mu Mu1 ss) (es : ss = ts.map .val := by rfl) (hi : F.ins x = ts.map .val := by rfl) (hc : F.cells x = [] := by rfl) (hm : F.m x = .ok w) (ho : F.out x w = .rt t [] := by rfl) : EvV K (tCall (spT K F) [] E ta) G Mu Mu1 (.val t) := fun B σ S ls H Q sl hs q =>
  ha B σ S ls H _ sl hs fun vs S1 l1 H1 a1 b1 c1 d1 => by
    subst es
    refine ⟨x, w, S1, [], hm, by rw [hc]; exact c1.under, by rw [List.append_nil, hi]; exact allS_drop d1, ?_⟩
    rw [ho]
    intro v S2 l2 H2 Mj h2 r2
    exact q v S2 l1 H2 (a1.trans h2.s0) b1 (c1.over h2) r2
theorem ef_call {ts : List TV} {m : MV} (ha : EvA K ta G Mu Mu1 ss) (es : ss = ts.map .val := by rfl) (hi : F.ins x = ts.map .val := by rfl) (hc : F.cells x = [] := by rfl) (hm : F.m x = .ok w) (ho : F.out x w = .rf m [] := by rfl) : EvF K (tCall (spT K F) [] E ta) G Mu Mu1 m := fun B σ S ls H Q sl hs q =>
  ha B σ S ls H _ sl hs fun vs S1 l1 H1 a1 b1 c1 d1 => by
    subst es
    refine ⟨x, w, S1, [], hm, by rw [hc]; exact c1.under, by rw [List.append_nil, hi]; exact allS_drop d1, ?_⟩
    rw [ho]
    intro p o S2 l2 H2 Mj h2 e2 n2 n3 n4 r2
    have n4 : H1 p = none := n4
    obtain ⟨f1, f2, f3⟩ := c1.fresh n4
    exact q p o S2 l1 H2 (a1.trans h2.s0) b1 (c1.over h2) e2 n2 f2 f3 r2
/-- one own cell is handed on -/
def renC : SV → SV
  | .val t => .val t
  | .cell _ => .cell 0
def okC (k : Nat) : List SV → Bool
  | [] => true
  | .val _ :: r => okC k r
  | .cell j :: r => Nat.beq j k && okC k r
theorem allS_ren {S : Hp} {ls : List Addr} {k : Nat} {a : Addr} (ea : ls[k]? = some a) : ∀ {vs : List V} {ss : List SV}, okC k ss = true → AllS K S ls vs ss → AllS K S [a] vs (ss.map renC)
  | [], [], _, _ => .nil
  | [], _ :: _, _, h => nomatch h
  | _ :: _, [], _, h => nomatch h
  | v :: vs, .val t :: ss, o, .cons r rr => .cons r (allS_ren ea (show okC k ss = true from o) rr)
  | v :: vs, .cell j :: ss, o, .cons r rr => by
    have o1 := Bool.and_eq_true_iff.mp (show (Nat.beq j k && okC k ss) = true from o)
    have ej : j = k := Nat.eq_of_beq_eq_true o1.1
    subst ej
    obtain ⟨b, e1, e2⟩ := r
    rw [ea] at e1
    cases e1
    exact .cons ⟨a, rfl, e2⟩ (allS_ren ea o1.2 rr)
theorem HS.under1 {B : Bs} {S H : Hp} {ls : List Addr} {Mu : Mm} {k : Nat} {m : MV} {a : Addr} (h : HS K B S ls Mu H) (ek : Mu[k]? = some (some m)) (ea : ls[k]? = some a) : HS K ⟨H, S, [a]⟩ S [a] [some m] H := by
  obtain ⟨a', o, e1, e2, e3, e4⟩ := h.cell k m ek
  rw [ea] at e1
  cases e1
  refine ⟨h.ex, Same.refl _, fun a o e => .inl e, fun a o e _ => e, Pre.refl _, rfl, by simp, fun j m' e => ?_, fun b hb => ?_, fun b hb => .inr hb⟩
  · cases j with
    | zero =>
      have : m = m' := by simpa using e
      subst this
      exact ⟨a, o, rfl, e2, e3, e4⟩
    | succ j => simp at e
  · simp at hb
    subst hb
    exact ⟨o, e3⟩
theorem HS.over1 {B : Bs} {S H S2 H2 : Hp} {ls l2 : List Addr} {Mu Mj : Mm} {k : Nat} {m m' : MV} {a : Addr} (h : HS K B S ls Mu H) (ek : Mu[k]? = some (some m)) (ea : ls[k]? = some a) (g : HS K ⟨H, S, [a]⟩ S2 l2 ([some m'] ++ Mj) H2) : HS K B S2 ls (Mu.set k (some m')) H2 := by
  have no : ∀ a, H a = none → B.H0 a = none := fun a e => (h.fresh e).2.2
  have al := h.lsn a (List.mem_of_getElem? ea)
  have hal : a ∈ ls := List.mem_of_getElem? ea
  refine ⟨g.ex, h.s0.trans g.s0, fun b o e => ?_, fun b o e hc => ?_, h.c0, by simp [h.len], h.nd, fun j mj e => ?_, fun b hb => ?_, h.lsn⟩
  · rcases g.new b o e with q | q | q
    · exact h.new b o q
    · exact .inr (.inl (no b q))
    · have q : b ∈ [a] := q
      simp at q
      subst q
      exact .inr al
  · refine g.fr b o (h.fr b o e hc) fun q => ?_
    have q : b ∈ [a] := q
    simp at q
    subst q
    rcases al with z | z
    · rw [z] at e
      cases e
    · exact hc z
  · by_cases hj : k = j
    · subst hj
      rw [List.getElem?_set_self (List.getElem?_eq_some_iff.mp ek).1] at e
      have : m' = mj := by simpa using e
      subst this
      obtain ⟨b, o, e1, e2, e3, e4⟩ := g.cell 0 m' rfl
      have e0 : l2[0]? = some a := g.c0.get rfl
      rw [e0] at e1
      cases e1
      exact ⟨a, o, ea, e2, e3, e4⟩
    · rw [List.getElem?_set_ne hj] at e
      obtain ⟨b, o, e1, e2, e3, e4⟩ := h.cell j mj e
      have hne : b ≠ a := fun z => by
        subst z
        obtain ⟨l1, g1⟩ := List.getElem?_eq_some_iff.mp e1
        obtain ⟨l2, g2⟩ := List.getElem?_eq_some_iff.mp ea
        exact hj ((List.getElem_inj h.nd).mp (g2.trans g1.symm))
      have nb : b ∉ [a] := by simpa using hne
      refine ⟨b, o, e1, ?_, g.fr b o e3 nb, mj.mono g.s0 e4⟩
      cases q : S2 b with
      | none => rfl
      | some u =>
        rcases g.new b u q with z | z | z
        · have z : S b = some u := z
          rw [e2] at z
          cases z
        · have z : H b = none := z
          rw [e3] at z
          cases z
        · exact absurd z nb
  · by_cases hb2 : b = a
    · subst hb2
      obtain ⟨b', o, e1, e2, e3, e4⟩ := g.cell 0 m' rfl
      have e0 : l2[0]? = some b := g.c0.get rfl
      rw [e0] at e1
      cases e1
      exact ⟨o, e3⟩
    · obtain ⟨o, e⟩ := h.old b hb
      exact ⟨o, g.fr b o e (by simpa using hb2)⟩
theorem ev_call1 {k : Nat} {t : TV} {m m' : MV} (ha : EvA K ta G Mu Mu1 ss) (hk : Mu1[k]? = some (some m)) (hm : F.m x = .ok w) (hs : okC k ss = true := by rfl) (hi : F.ins x = ss.map renC := by rfl) (hc : F.cells x = [some m] := by rfl) (ho : F.out x w = .rt t [some m'] := by rfl) :
    EvV K (tCall (spT K F) [] E ta) G Mu (Mu1.set k (some m')) (.val t) := fun B σ S ls H Q sl hs' q =>
  ha B σ S ls H _ sl hs' fun vs S1 l1 H1 a1 b1 c1 d1 => by
    obtain ⟨a, o, e1, e2, e3, e4⟩ := c1.cell k m hk
    refine ⟨x, w, S1, [a], hm, by rw [hc]; exact c1.under1 hk e1, by rw [List.append_nil, hi]; exact allS_ren e1 hs d1, ?_⟩
    rw [ho]
    intro v S2 l2 H2 Mj h2 r2
    exact q v S2 l1 H2 (a1.trans h2.s0) b1 (c1.over1 hk e1 h2) r2
theorem ef_call1 {k : Nat} {m m' m2 : MV} (ha : EvA K ta G Mu Mu1 ss) (hk : Mu1[k]? = some (some m)) (hm : F.m x = .ok w) (hs : okC k ss = true := by rfl) (hi : F.ins x = ss.map renC := by rfl) (hc : F.cells x = [some m] := by rfl) (ho : F.out x w = .rf m2 [some m'] := by rfl) :
    EvF K (tCall (spT K F) [] E ta) G Mu (Mu1.set k (some m')) m2 := fun B σ S ls H Q sl hs' q =>
  ha B σ S ls H _ sl hs' fun vs S1 l1 H1 a1 b1 c1 d1 => by
    obtain ⟨a, o, e1, e2, e3, e4⟩ := c1.cell k m hk
    refine ⟨x, w, S1, [a], hm, by rw [hc]; exact c1.under1 hk e1, by rw [List.append_nil, hi]; exact allS_ren e1 hs d1, ?_⟩
    rw [ho]
    intro p o2 S2 l2 H2 Mj h2 f2 n2 n3 n4 r2
    have n4 : H1 p = none := n4
    obtain ⟨g1, g2, g3⟩ := c1.fresh n4
    exact q p o2 S2 l1 H2 (a1.trans h2.s0) b1 (c1.over1 hk e1 h2) f2 n2 g2 g3 r2
/-- .. of a def that gives nothing -/
theorem ev_callN1 {k : Nat} {m m' : MV} (ha : EvA K ta G Mu Mu1 ss) (hk : Mu1[k]? = some (some m)) (hm : F.m x = .ok w) (hs : okC k ss = true := by rfl) (hi : F.ins x = ss.map renC := by rfl) (hc : F.cells x = [some m] := by rfl) (ho : F.out x w = .vd [some m'] := by rfl) :
    EvV K (tCall (spT K F) [] E ta) G Mu (Mu1.set k (some m')) vN := fun B σ S ls H Q sl hs' q =>
  ha B σ S ls H _ sl hs' fun vs S1 l1 H1 a1 b1 c1 d1 => by
    obtain ⟨a, o, e1, e2, e3, e4⟩ := c1.cell k m hk
    refine ⟨x, w, S1, [a], hm, by rw [hc]; exact c1.under1 hk e1, by rw [List.append_nil, hi]; exact allS_ren e1 hs d1, ?_⟩
    rw [ho]
    intro σ' S2 l2 H2 Mj h2
    have g := q .non S2 l1 H2 (a1.trans h2.s0) b1 (c1.over1 hk e1 h2) rfl
    exact ⟨g, g⟩
end

/-! ### own lists: append, o[i] = e; x += e -/
section
variable {ω : Type} {K : PySem.W.Frag} {np : Nat} {G : Gm} {Mu Mu1 Mu2 Mu3 : Mm} {κ : ω → OS} {m : Mr ω} {u : TS} {te to ti : TE} {t : TV} {ts : List TV} {k i : Nat} {a b : Int}
/-- a list may grow -/
theorem growOk_lt {α : Type} {xs : List α} {r : Unit} (h : growOk xs = .ok r) : xs.length < sizeLine := by
  unfold growOk at h
  split at h
  · rw [sizeLine_eq]
    assumption
  · cases h
theorem eb_app {ts1 : List TV} (ho : EvV K to G Mu Mu1 (.cell k)) (hk1 : Mu1[k]? = some (some (mL ts1))) (he : EvV K te G Mu1 Mu2 (.val t)) (hk : Mu2[k]? = some (some (mL ts))) (hz : ts.length < sizeLine) (r : EvB K np u G (Mu2.set k (some (mL (ts ++ [t])))) κ m) :
    EvB K np (tSeq (tDrop (tBM K "list" rAppend to (tCons te tNil))) u) G Mu κ m := fun B σ S ls H D w hn sl hs e q =>
  ho B σ S ls H _ sl hs fun x S1 l1 H1 a1 b1 c1 d1 => by
    obtain ⟨p, ep, ex⟩ := d1
    subst ex
    obtain ⟨p', o, f1, _, f3, ⟨vs, fo, _, _⟩⟩ := c1.cell k _ hk1
    rw [ep] at f1
    cases f1
    subst fo
    refine ⟨.inl ⟨rfl, vs, SqL.of f3⟩, ?_⟩
    refine he B σ S1 l1 H1 _ (sl.mono a1 b1) c1 fun y S2 l2 H2 a2 b2 c2 d2 => ?_
    obtain ⟨p2, o2, g1, _, g3, ⟨vs2, go, gz, gr⟩⟩ := c2.cell k _ hk
    rw [b2.get ep] at g1
    cases g1
    subst go
    refine ⟨p, vs2, y, rfl, rfl, g3, by rw [Paired.length gr]; exact hz, ?_⟩
    refine r B σ S2 l2 _ D w hn ((sl.mono a1 b1).mono a2 b2) (c2.write hk (b2.get ep) ⟨vs2 ++ [y], rfl, ?_, Paired.app gr (.cons d2 .nil)⟩) e (q.mono (a1.trans a2) (b1.trans b2))
    rw [List.length_append, Paired.length gr]
    exact hz
/-- o[i] = e -/
theorem ixN_len {n : Nat} {i : Int} {j : Nat} (h : ixN n i = some j) : j < n := (ixN_seq h).2.1
theorem eb_setC {i : Int} {j : Nat} (he : EvV K te G Mu Mu1 (.val t)) (ho : EvV K to G Mu1 Mu2 (.cell k)) (hi : EvV K ti G Mu2 Mu3 (vI i)) (hk : Mu3[k]? = some (some (mL ts))) (hj : ixN ts.length i = some j) (r : EvB K np u G (Mu3.set k (some (mL (ts.set j t)))) κ m) :
    EvB K np (tSeq (tAsg te (gSub to ti rSetL)) u) G Mu κ m := fun B σ S ls H D w hn sl hs e q =>
  he B σ S ls H _ sl hs fun y S1 l1 H1 a1 b1 c1 d1 => ho B σ S1 l1 H1 _ (sl.mono a1 b1) c1 fun x S2 l2 H2 a2 b2 c2 d2 => hi B σ S2 l2 H2 _ ((sl.mono a1 b1).mono a2 b2) c2 fun z S3 l3 H3 a3 b3 c3 d3 => by
    obtain ⟨p, ep, ex⟩ := d2
    subst ex
    obtain ⟨p2, o2, g1, _, g3, ⟨vs2, go, gz, gr⟩⟩ := c3.cell k _ hk
    rw [b3.get ep] at g1
    cases g1
    subst go
    refine ⟨p, vs2, i, j, rfl, d3, g3, by rw [Paired.length gr]; exact hj, ?_⟩
    refine r B σ S3 l3 _ D w hn (((sl.mono a1 b1).mono a2 b2).mono a3 b3) (c3.write hk (b3.get ep) ⟨vs2.set j y, rfl, by rw [List.length_set]; exact gz, Paired.set (F := fun v (t : TV) => t.p K S3 v) (t.mono (a2.trans a3) d1) j gr⟩) e (q.mono ((a1.trans a2).trans a3) ((b1.trans b2).trans b3))
theorem setI_ok {α : Type} {xs ys : List α} {i : Int} {x : α} (h : setI xs i x = .ok ys) : ∃ j, L2.ixN xs.length i = some j ∧ ys = xs.set j x := by
  unfold setI at h
  split at h
  · rename_i j e
    cases h
    exact ⟨j, e, rfl⟩
  · cases h
theorem map_set {α : Type} {R : Rep α} {xs : List α} {j : Nat} {x : α} : (xs.map (tv R)).set j (tv R x) = (xs.set j x).map (tv R) := List.map_set.symm
/-- the same, of a list of one kind -/
theorem eb_setI {α : Type} {R : Rep α} {xs ys : List α} {x : α} {i : Int} (he : EvV K te G Mu Mu1 (.val (tv R x))) (ho : EvV K to G Mu1 Mu2 (.cell k)) (hi : EvV K ti G Mu2 Mu3 (vI i)) (hk : Mu3[k]? = some (some (mL (xs.map (tv R))))) (hj : setI xs i x = .ok ys) (r : EvB K np u G (Mu3.set k (some (mL (ys.map (tv R))))) κ m) :
    EvB K np (tSeq (tAsg te (gSub to ti rSetL)) u) G Mu κ m := by
  obtain ⟨j, e1, e2⟩ := setI_ok hj
  refine eb_setC he ho hi hk (j := j) (by rw [List.length_map]; exact e1) ?_
  rw [map_set, ← e2]
  exact r
theorem eb_appL {α : Type} {R : Rep α} {xs : List α} {x : α} {ts1 : List TV} {r0 : Unit} (ho : EvV K to G Mu Mu1 (.cell k)) (hk1 : Mu1[k]? = some (some (mL ts1))) (he : EvV K te G Mu1 Mu2 (.val (tv R x))) (hk : Mu2[k]? = some (some (mL (xs.map (tv R))))) (hz : growOk xs = .ok r0) (r : EvB K np u G (Mu2.set k (some (mL ((xs ++ [x]).map (tv R))))) κ m) :
    EvB K np (tSeq (tDrop (tBM K "list" rAppend to (tCons te tNil))) u) G Mu κ m := by
  refine eb_app ho hk1 he hk (by rw [List.length_map]; exact growOk_lt hz) ?_
  rw [List.map_append] at r
  exact r
/-- x += e, ints -/
theorem eb_aug {f : Int → Int → Int} (hx : G[i]? = some (some (vI a))) (h : EvV K te G Mu Mu1 (vI b)) (r : EvB K np u (G.set i (some (vI (f a b)))) Mu1 κ m) : EvB K np (tSeq (tAug i te (ipI f)) u) G Mu κ m := fun B σ S ls H D w hn sl hs e q => by
  obtain ⟨v, e1, e2⟩ := sl.2 i _ hx
  refine ⟨v, e1, h B σ S ls H _ sl hs fun y S1 l1 H1 a1 b1 c1 d1 => ⟨a, b, e2, d1, ?_⟩⟩
  exact r B _ S1 l1 H1 D w hn ((sl.mono a1 b1).set (v := .int (f a b)) rfl) c1 e (q.mono a1 b1)
end
end TL

/-! TL, fifth part: built-ins. -/
namespace TL
open PySem L2
section
variable {K : PySem.W.Frag} {G : Gm} {Mu Mu1 Mu2 Mu3 : Mm} {te : TE} {ts us : List TV} {s s2 : SV} {k k2 : Knd} {a b : Int} {α : Type} {R : Rep α} {xs ys : List α}
/-- one, two arguments -/
theorem ev_cb1 {r : List V → Hp → VK → Prop} {t : SV} (h : EvV K te G Mu Mu1 s) (hr : Rc K r Mu1 Mu2 [s] t) : EvV K (tCB r (tCons te tNil)) G Mu Mu2 t := ev_cb (ea_cons h ea_nil) hr
theorem rc_int : Rc K (fun xs H Q => (∃ i, xs = [.int i] ∧ Q (.int i) H) ∨ ∃ k, xs = [.bl k] ∧ Q (.int (if k then 1 else 0)) H) Mu Mu [vI a] (vI a) := rc_same fun B S ls H vs Q hs ha q => by
  cases ha with
  | cons r0 r1 =>
    cases r1
    cases r0
    exact .inl ⟨a, rfl, q _ rfl⟩
theorem rc_intB {c : Bool} : Rc K (fun xs H Q => (∃ i, xs = [.int i] ∧ Q (.int i) H) ∨ ∃ k, xs = [.bl k] ∧ Q (.int (if k then 1 else 0)) H) Mu Mu [vB c] (vI (if c = true then 1 else 0)) := rc_same fun B S ls H vs Q hs ha q => by
  cases ha with
  | cons r0 r1 =>
    cases r1
    cases r0
    exact .inr ⟨c, rfl, q _ rfl⟩
theorem rc_abs : Rc K (fun xs H Q => ∃ i, xs = [.int i] ∧ Q (.int (if i < 0 then -i else i)) H) Mu Mu [vI a] (vI (absI a)) := rc_same fun B S ls H vs Q hs ha q => by
  cases ha with
  | cons r0 r1 =>
    cases r1
    cases r0
    exact ⟨a, rfl, q _ rfl⟩
theorem rc_max2 : Rc K (fun xs H Q => ∃ i j, xs = [.int i, .int j] ∧ Q (.int (if j > i then j else i)) H) Mu Mu [vI a, vI b] (vI (if b > a then b else a)) := rc_same fun B S ls H vs Q hs ha q => by
  cases ha with
  | cons r0 r1 =>
    cases r1 with
    | cons r1 r2 =>
      cases r2
      cases r0
      cases r1
      exact ⟨a, b, rfl, q _ rfl⟩
theorem rc_min2 : Rc K (fun xs H Q => ∃ i j, xs = [.int i, .int j] ∧ Q (.int (if j < i then j else i)) H) Mu Mu [vI a, vI b] (vI (if b < a then b else a)) := rc_same fun B S ls H vs Q hs ha q => by
  cases ha with
  | cons r0 r1 =>
    cases r1 with
    | cons r1 r2 =>
      cases r2
      cases r0
      cases r1
      exact ⟨a, b, rfl, q _ rfl⟩
theorem allT_ints {S : Hp} : ∀ {vs : List V} {ns : List Int}, AllT K S vs (ns.map (tv rInt)) → vs = ns.map V.int
  | [], [], _ => rfl
  | [], _ :: _, h => nomatch h
  | _ :: _, [], h => nomatch h
  | v :: vs, n :: ns, .cons r t => by
    cases r
    rw [allT_ints t]
    rfl
theorem allT_bools {S : Hp} : ∀ {vs : List V} {ns : List Bool}, AllT K S vs (ns.map (tv rBool)) → vs = ns.map V.bl
  | [], [], _ => rfl
  | [], _ :: _, h => nomatch h
  | _ :: _, [], h => nomatch h
  | v :: vs, n :: ns, .cons r t => by
    cases r
    rw [allT_bools t]
    rfl
theorem ints_allT {S : Hp} : ∀ ns : List Int, AllT K S (ns.map V.int) (ns.map (tv rInt))
  | [] => .nil
  | n :: ns => .cons rfl (ints_allT ns)
theorem rc_any {bs : List Bool} (h : IsSq K Mu s k (bs.map (tv rBool))) (hk : k.isL = true := by rfl) : Rc K (rAny K) Mu Mu [s] (vB (bs.any id)) := rc_same fun B S ls H vs Q hs ha q => by
  cases ha with
  | cons r0 r1 =>
    cases r1
    obtain ⟨p, ws, e, sq, l, r⟩ := h B S ls H _ hs r0
    subst e
    rw [allT_bools r] at sq
    exact ⟨p, bs, rfl, SqK.seq sq hk, q _ rfl⟩
theorem rc_all {bs : List Bool} (h : IsSq K Mu s k (bs.map (tv rBool))) (hk : k.isL = true := by rfl) : Rc K (rAll K) Mu Mu [s] (vB (bs.all id)) := rc_same fun B S ls H vs Q hs ha q => by
  cases ha with
  | cons r0 r1 =>
    cases r1
    obtain ⟨p, ws, e, sq, l, r⟩ := h B S ls H _ hs r0
    subst e
    rw [allT_bools r] at sq
    exact ⟨p, bs, rfl, SqK.seq sq hk, q _ rfl⟩
theorem rc_sum {ns : List Int} (h : IsSq K Mu s k (ns.map (tv rInt))) (hk : k.isL = true := by rfl) : Rc K (rSum K) Mu Mu [s] (vI ns.sum) := rc_same fun B S ls H vs Q hs ha q => by
  cases ha with
  | cons r0 r1 =>
    cases r1
    obtain ⟨p, ws, e, sq, l, r⟩ := h B S ls H _ hs r0
    subst e
    rw [allT_ints r] at sq
    exact ⟨p, ns, rfl, SqK.seq sq hk, q _ rfl⟩
/-- sorted -/
theorem sortI_eq {ns ms : List Int} (h : ms.Perm ns) (p : ms.Pairwise (· ≤ ·)) : ms = sortI ns := by
  have s1 : (sortI ns).Pairwise (· ≤ ·) := by
    have z := List.pairwise_mergeSort (le := fun (a b : Int) => decide (a ≤ b)) (fun a b c h1 h2 => by simp at *; omega) (fun a b => by simp; omega) ns
    exact z.imp fun h => of_decide_eq_true h
  exact List.Perm.eq_of_pairwise (le := (· ≤ ·)) (fun a b _ _ h1 h2 => Int.le_antisymm h1 h2) p s1 (h.trans (List.mergeSort_perm ns _).symm)
theorem new_lst {B : Bs} {S H : Hp} {ls : List Addr} {p : Addr} {vs : List V} {Q : VK} (hs : HS K B S ls Mu H) (hp : H p = none) (hz : vs.length ≤ sizeLine) (r : AllT K S vs ts) (q : AftF K B S ls Mu (mL ts) Q) : Q (.ref p) (upd H p (.lst vs)) := by
  obtain ⟨n1, n2, n3⟩ := hs.fresh hp
  exact q p _ S ls _ (Same.refl _) (Pre.refl _) (hs.scr n1 n2 n3) upd_same n1 n2 n3 ⟨vs, rfl, hz, r⟩
theorem new_tup {B : Bs} {S H : Hp} {ls : List Addr} {p : Addr} {vs : List V} {Q : VK} (hs : HS K B S ls Mu H) (hp : H p = none) (hz : vs.length ≤ sizeLine) (r : AllT K S vs ts) (q : Aft K B S ls Mu (.val (tupT ts)) Q) : Q (.ref p) (upd H p (.tup vs)) := by
  obtain ⟨s2, h2⟩ := hs.laid (o := .tup vs) hp
  exact q _ _ ls _ s2 (Pre.refl _) h2 ⟨p, vs, rfl, .inl (.inl upd_same), hz, r.mono s2⟩
theorem rcF_sorted {ns : List Int} (h : IsSq K Mu s k (ns.map (tv rInt))) (hk : k.isL = true := by rfl) : RcF K (rSortedI K) Mu Mu [s] (mL ((sortI ns).map (tv rInt))) := fun B S ls H vs Q hs ha q => by
  cases ha with
  | cons r0 r1 =>
    cases r1
    obtain ⟨p, ws, e, sq, l, r⟩ := h B S ls H _ hs r0
    subst e
    have ew := allT_ints r
    subst ew
    refine ⟨p, ns, rfl, SqK.seq sq hk, fun ns' p' pm pw hp => ?_⟩
    have e := sortI_eq pm pw
    subst e
    refine new_lst hs hp ?_ (ints_allT _) q
    rw [List.length_map, pm.length_eq]
    rw [List.length_map] at l
    exact l
/-- tuple(list), tuple(tuple), list(seq) -/
theorem rc_tupL (h : IsSq K Mu s k ts) (hk : k.isL = true := by rfl) : Rc K (fun xs H Q => ∃ p ys, xs = [.ref p] ∧ ((SqL K H p ys ∧ ∀ l, H l = none → Q (.ref l) (upd H l (.tup ys))) ∨ (SqT K H p ys ∧ Q (.ref p) H))) Mu Mu [s] (.val (tupT ts)) := fun B S ls H vs Q hs ha q => by
  cases ha with
  | cons r0 r1 =>
    cases r1
    obtain ⟨p, ws, e, sq, l, r⟩ := h B S ls H _ hs r0
    subst e
    exact ⟨p, ws, rfl, .inl ⟨SqK.seq sq hk, fun l' hl' => new_tup hs hl' l r q⟩⟩
theorem rc_tupT : Rc K (fun xs H Q => ∃ p ys, xs = [.ref p] ∧ ((SqL K H p ys ∧ ∀ l, H l = none → Q (.ref l) (upd H l (.tup ys))) ∨ (SqT K H p ys ∧ Q (.ref p) H))) Mu Mu [.val (tupT ts)] (.val (tupT ts)) := rc_same fun B S ls H vs Q hs ha q => by
  cases ha with
  | cons r0 r1 =>
    cases r1
    obtain ⟨p, ws, e, sq, l, r⟩ := id r0
    have sq : SqT K S p ws := sq
    subst e
    exact ⟨p, ws, rfl, .inr ⟨same_seqT hs.ex sq, q _ r0⟩⟩
theorem rcF_list (h : IsSq K Mu s k ts) : RcF K (fun xs H Q => ∃ p ys, xs = [.ref p] ∧ (SqL K H p ys ∨ SqT K H p ys) ∧ ∀ l, H l = none → Q (.ref l) (upd H l (.lst ys))) Mu Mu [s] (mL ts) := fun B S ls H vs Q hs ha q => by
  cases ha with
  | cons r0 r1 =>
    cases r1
    obtain ⟨p, ws, e, sq, l, r⟩ := h B S ls H _ hs r0
    subst e
    exact ⟨p, ws, rfl, SqK.both sq, fun l' hl' => new_lst hs hl' l r q⟩
/-- xs + ys, xs * k -/
theorem catOk_le {α β : Type} {xs : List α} {ys : List β} {r : Unit} (h : catOk xs ys = .ok r) : xs.length + ys.length ≤ sizeLine := by
  unfold catOk at h
  split at h
  · rw [sizeLine_eq]
    assumption
  · cases h
theorem rvF_cat (h1 : IsSq K Mu s .l ts) (h2 : IsSq K Mu s2 .l us) (hz : ts.length + us.length ≤ sizeLine) : RvF K rCat Mu Mu s s2 (mL (ts ++ us)) := fun B S ls H x y Q hs ha hb q => by
  obtain ⟨p, vs, e, sq, l, r⟩ := h1 B S ls H _ hs ha
  obtain ⟨p2, vs2, e2, sq2, l2, r2⟩ := h2 B S ls H _ hs hb
  have hl : vs.length + vs2.length ≤ sizeLine := by
    rw [Paired.length r, Paired.length r2]
    exact hz
  exact ⟨p, p2, vs, vs2, e, e2, sq, sq2, hl, fun p3 hp3 => new_lst hs hp3 (by rw [List.length_append]; exact hl) (Paired.app r r2) q⟩
theorem rvF_catL (h1 : IsSq K Mu s .l (xs.map (tv R))) (h2 : IsSq K Mu s2 .l (ys.map (tv R))) {r0 : Unit} (hz : catOk xs ys = .ok r0) : RvF K rCat Mu Mu s s2 (mL ((xs ++ ys).map (tv R))) := by
  rw [List.map_append]
  exact rvF_cat h1 h2 (by rw [List.length_map, List.length_map]; exact catOk_le hz)
theorem flat_rep {α β : Type} (f : α → β) (xs : List α) : ∀ n : Nat, (List.replicate n (xs.map f)).flatten = ((List.replicate n xs).flatten).map f
  | 0 => rfl
  | n + 1 => by
    rw [List.replicate_succ, List.replicate_succ, List.flatten_cons, List.flatten_cons, List.map_append, flat_rep f xs n]
theorem paired_rep {F : V → TV → Prop} {vs : List V} {ts : List TV} (h : Paired F vs ts) : ∀ n : Nat, Paired F (List.replicate n vs).flatten (List.replicate n ts).flatten
  | 0 => .nil
  | n + 1 => by
    rw [List.replicate_succ, List.replicate_succ, List.flatten_cons, List.flatten_cons]
    exact Paired.app h (paired_rep h n)
theorem rvF_rep {n : Int} (h1 : IsSq K Mu s .l (xs.map (tv R))) {r0 : Unit} (hz : repOk xs n = .ok r0) : RvF K rRep Mu Mu s (vI n) (mL ((repL xs n).map (tv R))) := fun B S ls H x y Q hs ha hb q => by
  obtain ⟨p, vs, e, sq, l, r⟩ := h1 B S ls H _ hs ha
  unfold repOk at hz
  split at hz
  · rename_i hc
    obtain ⟨c1, c2, c3⟩ := hc
    have el : vs.length = xs.length := by rw [Paired.length r, List.length_map]
    have hl : vs.length * n.toNat ≤ sizeLine := by rw [el, sizeLine_eq]; exact c3
    refine ⟨p, n, vs, e, hb, sq, c1, c2, hl, fun p3 hp3 => new_lst hs hp3 ?_ ?_ q⟩
    · rw [List.length_flatten, List.map_replicate, List.sum_replicate_nat, Nat.mul_comm]
      exact hl
    · unfold repL
      rw [← flat_rep]
      exact paired_rep r _
  · cases hz
/-- -x -/
theorem ru_neg : Ru K (rU fun i => .int (-i)) Mu Mu (vI a) (vI (-a)) := ru_same fun B S ls H x Q hs ha q => ⟨a, ha, q _ rfl⟩
theorem ev_int {i : Int} : EvV K (tC (.int i)) G Mu Mu (vI i) := ev_c fun _ _ => rfl
theorem ev_bool {i : Bool} : EvV K (tC (.bl i)) G Mu Mu (vB i) := ev_c fun _ _ => rfl
theorem ev_str {i : Str} : EvV K (tC (.str i)) G Mu Mu (vS i) := ev_c fun _ _ => rfl
theorem ev_none : EvV K (tC .non) G Mu Mu vN := ev_c fun _ _ => rfl
theorem ev_neg1 {i : Int} : EvV K (tUn (rU fun i => .int (-i)) (tC (.int i))) G Mu Mu (vI (-i)) := ev_un ev_int ru_neg
theorem rngP_ok {r : Unit} (h : rngP a b = .ok r) : Sm62 a ∧ Sm62 b := by
  unfold rngP at h
  split at h
  · assumption
  · cases h
/-- slices -/
def EvO (K : PySem.W.Frag) (to : TO) (G : Gm) (Mu Mu' : Mm) (o : Option Int) : Prop :=
  ∀ B σ S ls H Q, Sl K S ls σ G → HS K B S ls Mu H → (∀ S' ls' H', Same S S' → Pre ls ls' → HS K B S' ls' Mu' H' → Q o H') → to σ H Q
theorem eo_none : EvO K tNoPart G Mu Mu none := fun B σ S ls H Q sl hs q => q S ls H (Same.refl _) (Pre.refl _) hs
theorem eo_some (h : EvV K te G Mu Mu1 (vI a)) : EvO K (tPart te) G Mu Mu1 (some a) := fun B σ S ls H Q sl hs q =>
  h B σ S ls H _ sl hs fun x S1 l1 H1 a1 b1 c1 d1 => ⟨a, d1, q S1 l1 H1 a1 b1 c1⟩
theorem sIxQ_eq {n d : Nat} {o : Option Int} : sIxQ n d o = HT.sIx n d o := by cases o <;> rfl
theorem cut_map {α β : Type} (f : α → β) (xs : List α) (lo hi : Option Int) : cut (xs.map f) lo hi = (cut xs lo hi).map f := by
  unfold cut
  rw [List.length_map, List.map_take, List.map_drop]
theorem cut_len {α : Type} (xs : List α) (lo hi : Option Int) : (cut xs lo hi).length ≤ xs.length := by
  unfold cut
  rw [List.length_take, List.length_drop]
  omega
theorem paired_cut {F : V → TV → Prop} {vs : List V} {ts : List TV} (h : Paired F vs ts) (lo hi : Option Int) : Paired F (cutV vs lo hi) (cut ts lo hi) := by
  unfold cutV cut
  simp only [sIxQ_eq]
  rw [Paired.length h]
  exact Paired.take _ (Paired.drop _ h)
theorem ef_sl {tl th : TO} {lo hi : Option Int} (h : EvV K te G Mu Mu1 s) (hl : EvO K tl G Mu1 Mu2 lo) (hh : EvO K th G Mu2 Mu3 hi) (hq : IsSq K Mu3 s k ts) (hk : k.isL = true := by rfl) : EvF K (tSl (rSlL K) te tl th) G Mu Mu3 (mL (cut ts lo hi)) := fun B σ S ls H Q sl hs q =>
  h B σ S ls H _ sl hs fun x S1 l1 H1 a1 b1 c1 d1 => hl B σ S1 l1 H1 _ (sl.mono a1 b1) c1 fun S2 l2 H2 a2 b2 c2 => hh B σ S2 l2 H2 _ ((sl.mono a1 b1).mono a2 b2) c2 fun S3 l3 H3 a3 b3 c3 => by
    obtain ⟨p, vs, e, sq, l, r⟩ := hq B S3 l3 H3 x c3 (SV.mono (a2.trans a3) (b2.trans b3) d1)
    refine ⟨p, vs, e, SqK.seq sq hk, fun p3 hp3 => new_lst c3 hp3 (Nat.le_trans (cutV_length vs lo hi) l) (paired_cut r lo hi) (q.mono ((a1.trans a2).trans a3) ((b1.trans b2).trans b3))⟩
/-- isinstance(x, T), T a built-in type -/
def rTy (n : String) : TV := ⟨fun _ _ v => v = .ty n, fun _ q => q⟩
def TyR (R : Rep α) (n : String) : Prop := ∀ {K : PySem.W.Frag} {S H : Hp} {v : V} {a : α}, R.p K S v a → Same S H → TyX K H v (.type n)
theorem ty_int : TyR rInt "int" := fun h _ => by cases h; exact .base (.int _)
theorem ty_bool : TyR rBool "bool" := fun h _ => by cases h; exact .base (.bl _)
theorem ty_str : TyR rStr "str" := fun h _ => by cases h; exact .base (.str _)
theorem ty_none : TyR rNone "NoneType" := fun h _ => by cases h; exact .base .non
theorem rc_isi {n n2 : String} {x : α} {c : Bool} (hn : TyR R n) (hb : kitB n n2 = some c) : Rc K (rIsi K) Mu Mu [.val (tv R x), .val (rTy n2)] (vB c) := rc_same fun B S ls H vs Q hs ha q => by
  cases ha with
  | cons r0 r1 =>
    cases r1 with
    | cons r1 r2 =>
      cases r2
      have e : _ = V.ty n2 := r1
      subst e
      exact ⟨_, _, _, _, c, rfl, .ty n2, hn r0 hs.ex, kit_ty hb, q _ rfl⟩
end
end TL

/-! TL, sixth part: operations that may stop short, texts, targets of tuples, == of data, where defs stand. -/
namespace TL
open PySem L2
section
variable {K : PySem.W.Frag} {G : Gm} {Mu Mu1 Mu2 Mu3 : Mm} {te ta tb : TE} {tt tu : TT} {ts us : List TV} {s s2 : SV} {k k2 : Knd} {a b r : Int} {α β γ δ : Type} {R : Rep α} {xs ys : List α} {A : Rep α} {B' : Rep β} {C : Rep γ} {D' : Rep δ}
/-! ### operations that may stop short -/
theorem rv_modP (h : modP a b = .ok r) : Rv K (rI (fun _ j => 0 < j) fun i j => .int (i % j)) Mu Mu (vI a) (vI b) (vI r) := by
  unfold modP at h
  split at h
  · cases h
    exact rv_mod (by assumption)
  · cases h
theorem rv_fdivP (h : fdivP a b = .ok r) : Rv K (rI CDivW fun i j => .int (i / j)) Mu Mu (vI a) (vI b) (vI r) := by
  unfold fdivP at h
  split at h
  · cases h
    exact rv_fdiv (by assumption)
  · cases h
theorem bitsQ_eq {a : Int} : (Builtin.Int.intBits a) = bitsQ a := by
  unfold Builtin.Int.intBits bitsQ
  by_cases h : a = 0
  · subst h
    rfl
  · have h1 : ¬ a.natAbs = 0 := by omega
    have h2 : (a == 0) = false := by simpa using h
    rw [h2, if_neg Bool.false_ne_true, if_neg h1]
theorem rv_mulP (h : mulP a b = .ok r) : Rv K (rI CMulX fun i j => .int (i * j)) Mu Mu (vI a) (vI b) (vI r) := by
  unfold mulP at h
  split at h
  · cases h
    refine rv_mul ?_
    show (Builtin.Int.intBits a : Int) + (Builtin.Int.intBits b : Int) ≤ 134217728
    rw [bitsQ_eq, bitsQ_eq]
    omega
  · cases h
theorem rv_powP (h : powP a b = .ok r) : Rv K (rI CPowW fun i j => .int (i ^ j.toNat)) Mu Mu (vI a) (vI b) (vI r) := by
  unfold powP at h
  split at h
  · rename_i hc
    cases h
    refine rv_pow ⟨hc.1, ?_⟩
    rw [bitsQ_eq]
    exact hc.2
  · cases h
theorem rv_shrP (h : shrP a b = .ok r) : Rv K (rI (fun _ j => 0 ≤ j) fun i j => .int (i / 2 ^ j.toNat)) Mu Mu (vI a) (vI b) (vI r) := by
  unfold shrP at h
  split at h
  · cases h
    exact rv_shr (by assumption)
  · cases h
/-- a factor that is written (below 2 ^ 64) -/
theorem rv_mulC (h : CMul a b) : Rv K (rI CMul fun i j => .int (i * j)) Mu Mu (vI a) (vI b) (vI (a * b)) := rv_IC h fun _ _ => rfl
theorem rv_eq_of {r2 : R2} {x y : SV} {t t' : SV} (h : Rv K r2 Mu Mu1 x y t) (e : t = t') : Rv K r2 Mu Mu1 x y t' := e ▸ h

/-! ### what is known behind such a step -/
theorem bo {α β : Type} {p : Mr α} {q : α → Mr β} {c : β} {T : Prop} (h : (p >>= q) = .ok c) (f : ∀ x, p = .ok x → q x = .ok c → T) : T := by
  obtain ⟨x, e1, e2⟩ := bind_ok h
  exact f x e1 e2
theorem oeT {c c' : Bool} (e : (Except.ok c : Mr Bool) = .ok c') (h : EvT K tt G Mu Mu1 c) : EvT K tt G Mu Mu1 c' := by
  cases e
  exact h
theorem oeV {x y : α} (e : (Except.ok x : Mr α) = .ok y) (h : EvV K te G Mu Mu1 (.val (tv R x))) : EvV K te G Mu Mu1 (.val (tv R y)) := by
  cases e
  exact h
theorem et_andM {a c : Bool} {p : Mr Bool} (h1 : EvT K tt G Mu Mu1 a) (hc : (if a = true then p else .ok false) = .ok c) (h2 : a = true → p = .ok c → EvT K tu G Mu1 Mu1 c) : EvT K (tAnd tt tu) G Mu Mu1 c := by
  cases a with
  | true =>
    rw [if_pos rfl] at hc
    have := et_and (Mu3 := Mu1) h1 (fun _ => h2 rfl hc) (fun _ => rfl) (fun z => nomatch z)
    simpa using this
  | false =>
    rw [if_neg Bool.false_ne_true] at hc
    cases hc
    exact et_and (a := false) (b := false) (Mu2 := Mu1) (Mu3 := Mu1) h1 (fun z => nomatch z) (fun z => nomatch z) (fun _ => rfl)
theorem et_orM {a c : Bool} {p : Mr Bool} (h1 : EvT K tt G Mu Mu1 a) (hc : (if a = true then .ok true else p) = .ok c) (h2 : a = false → p = .ok c → EvT K tu G Mu1 Mu1 c) : EvT K (tOr tt tu) G Mu Mu1 c := by
  cases a with
  | false =>
    rw [if_neg Bool.false_ne_true] at hc
    have := et_or (Mu3 := Mu1) h1 (fun _ => h2 rfl hc) (fun _ => rfl) (fun z => nomatch z)
    simpa using this
  | true =>
    rw [if_pos rfl] at hc
    cases hc
    exact et_or (a := true) (b := false) (Mu2 := Mu1) (Mu3 := Mu1) h1 (fun z => nomatch z) (fun z => nomatch z) (fun _ => rfl)
theorem et_and0 {a b : Bool} (h1 : EvT K tt G Mu Mu1 a) (h2 : EvT K tu G Mu1 Mu1 b) : EvT K (tAnd tt tu) G Mu Mu1 (a && b) := et_and h1 (fun _ => h2) (fun _ => rfl) (fun _ => rfl)
theorem et_or0 {a b : Bool} (h1 : EvT K tt G Mu Mu1 a) (h2 : EvT K tu G Mu1 Mu1 b) : EvT K (tOr tt tu) G Mu Mu1 (a || b) := et_or h1 (fun _ => h2) (fun _ => rfl) (fun _ => rfl)
/-- and, or as values (bools) -/
theorem ev_andM {a c : Bool} {p : Mr Bool} (h1 : EvV K ta G Mu Mu1 (vB a)) (hc : (if a = true then p else .ok false) = .ok c) (h2 : a = true → p = .ok c → EvV K tb G Mu1 Mu1 (vB c)) : EvV K (tAndV ta tb) G Mu Mu1 (vB c) := fun B σ S ls H Q sl hs q =>
  h1 B σ S ls H _ sl hs fun v S1 l1 H1 a1 b1 c1 d1 => by
    have d1 : v = .bl a := d1
    refine ⟨a, d1, ?_⟩
    cases a with
    | true =>
      rw [if_pos rfl] at hc
      exact h2 rfl hc B σ S1 l1 H1 Q (sl.mono a1 b1) c1 (q.mono a1 b1)
    | false =>
      rw [if_neg Bool.false_ne_true] at hc
      cases hc
      exact q _ S1 l1 H1 a1 b1 c1 rfl
theorem ev_orM {a c : Bool} {p : Mr Bool} (h1 : EvV K ta G Mu Mu1 (vB a)) (hc : (if a = true then .ok true else p) = .ok c) (h2 : a = false → p = .ok c → EvV K tb G Mu1 Mu1 (vB c)) : EvV K (tOrV ta tb) G Mu Mu1 (vB c) := fun B σ S ls H Q sl hs q =>
  h1 B σ S ls H _ sl hs fun v S1 l1 H1 a1 b1 c1 d1 => by
    have d1 : v = .bl a := d1
    refine ⟨a, d1, ?_⟩
    cases a with
    | false =>
      rw [if_neg Bool.false_ne_true] at hc
      exact h2 rfl hc B σ S1 l1 H1 Q (sl.mono a1 b1) c1 (q.mono a1 b1)
    | true =>
      rw [if_pos rfl] at hc
      cases hc
      exact q _ S1 l1 H1 a1 b1 c1 rfl
theorem ev_and0 {a b : Bool} (h1 : EvV K ta G Mu Mu1 (vB a)) (h2 : EvV K tb G Mu1 Mu1 (vB b)) : EvV K (tAndV ta tb) G Mu Mu1 (vB (a && b)) := by
  refine ev_andM (c := a && b) (p := .ok b) h1 (by cases a <;> rfl) fun e _ => ?_
  subst e
  exact h2
theorem ev_or0 {a b : Bool} (h1 : EvV K ta G Mu Mu1 (vB a)) (h2 : EvV K tb G Mu1 Mu1 (vB b)) : EvV K (tOrV ta tb) G Mu Mu1 (vB (a || b)) := by
  refine ev_orM (c := a || b) (p := .ok b) h1 (by cases a <;> rfl) fun e _ => ?_
  subst e
  exact h2
theorem ev_notV {a : Bool} (h1 : EvV K ta G Mu Mu1 (vB a)) : EvV K (tNotV ta) G Mu Mu1 (vB (!a)) := fun B σ S ls H Q sl hs q =>
  h1 B σ S ls H _ sl hs fun v S1 l1 H1 a1 b1 c1 d1 => ⟨a, d1, q _ S1 l1 H1 a1 b1 c1 rfl⟩
theorem ev_ite {c : Bool} {x y : α} (h : EvT K tt G Mu Mu1 c) (h1 : c = true → EvV K ta G Mu1 Mu2 (.val (tv R x))) (h2 : c = false → EvV K tb G Mu1 Mu2 (.val (tv R y))) : EvV K (tIf tt ta tb) G Mu Mu2 (.val (tv R (if c = true then x else y))) := by
  cases c with
  | true => exact ev_ifM h (fun _ => by rw [if_pos rfl]; exact h1 rfl) (fun z => nomatch z)
  | false => exact ev_ifM h (fun z => nomatch z) (fun _ => by rw [if_neg Bool.false_ne_true]; exact h2 rfl)
theorem ev_iteM {c : Bool} {x : α} {p q : Mr α} (h : EvT K tt G Mu Mu1 c) (e : (if c = true then p else q) = .ok x) (h1 : c = true → p = .ok x → EvV K ta G Mu1 Mu2 (.val (tv R x))) (h2 : c = false → q = .ok x → EvV K tb G Mu1 Mu2 (.val (tv R x))) : EvV K (tIf tt ta tb) G Mu Mu2 (.val (tv R x)) := by
  cases c with
  | true =>
    rw [if_pos rfl] at e
    exact ev_ifM h (fun _ => h1 rfl e) (fun z => nomatch z)
  | false =>
    rw [if_neg Bool.false_ne_true] at e
    exact ev_ifM h (fun z => nomatch z) (fun _ => h2 rfl e)

/-! ### texts, as the lists of their signs -/
def rTxt : Rep (List Nat) := ⟨fun _ _ v a => v = .str ⟨a.toArray⟩, fun _ q => q⟩
abbrev vX (a : List Nat) : SV := .val (tv rTxt a)
theorem ev_txt {z : Str} {l : List Nat} (h : z = ⟨l.toArray⟩) : EvV K (tC (.str z)) G Mu Mu (vX l) := ev_c fun _ _ => by
  subst h
  rfl
theorem str_inj {l l' : List Nat} : ((⟨l.toArray⟩ : Str) = ⟨l'.toArray⟩) ↔ l = l' := by
  constructor
  · intro h
    have := congrArg (fun z : Str => z.cps.toList) h
    simpa using this
  · intro h
    rw [h]
theorem rv_eqX {x y : List Nat} : Rv K rEq Mu Mu (vX x) (vX y) (vB (decide (x = y))) := rv_same fun B S ls H u v Q hs ha hb q => by
  cases ha
  cases hb
  refine ⟨rfl, q _ ?_⟩
  show V.bl _ = V.bl _
  congr 1
  exact Bool.eq_iff_iff.mpr (by rw [decide_eq_true_iff, decide_eq_true_iff, V.str.injEq]; exact str_inj)
theorem rv_neX {x y : List Nat} : Rv K rNe Mu Mu (vX x) (vX y) (vB (!decide (x = y))) := rv_same fun B S ls H u v Q hs ha hb q => by
  cases ha
  cases hb
  refine ⟨rfl, q _ ?_⟩
  show V.bl _ = V.bl _
  congr 2
  exact Bool.eq_iff_iff.mpr (by rw [decide_eq_true_iff, decide_eq_true_iff, V.str.injEq]; exact str_inj)
theorem flat_txt : Flat rTxt := ⟨fun h => by cases h; rfl, fun h h2 => by
  cases h
  cases h2
  show ((⟨_⟩ : Str) == ⟨_⟩) = _
  exact Bool.eq_iff_iff.mpr (by rw [beq_iff_eq, beq_iff_eq]; exact str_inj)⟩
theorem ty_txt : TyR rTxt "str" := fun h _ => by cases h; exact .base (.str _)
/-! ### targets of tuples -/
theorem eg_nil : ∀ {vs : List V} {σ : St} {H : Hp} {Q : St → Hp → Prop}, vs = [] → Q σ H → gNil vs σ H Q := fun e q => ⟨e, q⟩
theorem eg_tup2 {i j : Nat} {x : α × β} : EvG K (gTup K 2 (gCons (gName i) (gCons (gName j) gNil))) (.val (tv (rP2 A B') x)) G ((G.set i (some (.val (tv A x.1)))).set j (some (.val (tv B' x.2)))) := fun B v σ S ls Mu H Q r sl hs q => by
  obtain ⟨p, vs, e, sq, l, rr⟩ := r
  have sq : SqT K S p vs := sq
  cases rr with
  | cons r0 rr => cases rr with
    | cons r1 rr =>
      cases rr
      exact ⟨p, _, e, same_seqT hs.ex sq, rfl, _, _, rfl, _, _, rfl, rfl, q _ (Sl.set (s := .val (tv B' x.2)) (Sl.set (s := .val (tv A x.1)) sl r0) r1)⟩
theorem eg_tup3 {i j m : Nat} {x : α × β × γ} : EvG K (gTup K 3 (gCons (gName i) (gCons (gName j) (gCons (gName m) gNil)))) (.val (tv (rP3 A B' C) x)) G (((G.set i (some (.val (tv A x.1)))).set j (some (.val (tv B' x.2.1)))).set m (some (.val (tv C x.2.2)))) := fun B v σ S ls Mu H Q r sl hs q => by
  obtain ⟨p, vs, e, sq, l, rr⟩ := r
  have sq : SqT K S p vs := sq
  cases rr with
  | cons r0 rr => cases rr with
    | cons r1 rr => cases rr with
      | cons r2 rr =>
        cases rr
        exact ⟨p, _, e, same_seqT hs.ex sq, rfl, _, _, rfl, _, _, rfl, _, _, rfl, rfl, q _ (Sl.set (s := .val (tv C x.2.2)) (Sl.set (s := .val (tv B' x.2.1)) (Sl.set (s := .val (tv A x.1)) sl r0) r1) r2)⟩
/-- target = e -/
theorem eb_asgG {ω : Type} {np : Nat} {κ : ω → OS} {m : Mr ω} {u : TS} {tg : TG} {G' : Gm} (h : EvV K te G Mu Mu1 s) (hg : EvG K tg s G G') (r' : EvB K np u G' Mu1 κ m) : EvB K np (tSeq (tAsg te tg) u) G Mu κ m := fun B σ S ls H D w hn sl hs e q =>
  h B σ S ls H _ sl hs fun v S1 l1 H1 a1 b1 c1 d1 => hg B v σ S1 l1 Mu1 H1 _ d1 (sl.mono a1 b1) c1 fun σ' sl' => r' B σ' S1 l1 H1 D w hn sl' c1 e (q.mono a1 b1)
/-! ### displays of tuples -/
theorem ev_mk1 {ta : TA} {x : α} (h : EvA K ta G Mu Mu1 [.val (tv A x)]) : EvV K (tTup ta) G Mu Mu1 (.val (tv (rP1 A) x)) := ev_tup (ts := [tv A x]) h
theorem ev_mk2 {ta : TA} {x : α} {y : β} (h : EvA K ta G Mu Mu1 [.val (tv A x), .val (tv B' y)]) : EvV K (tTup ta) G Mu Mu1 (.val (tv (rP2 A B') (x, y))) := ev_tup (ts := [tv A x, tv B' y]) h
theorem ev_mk3 {ta : TA} {x : α} {y : β} {z : γ} (h : EvA K ta G Mu Mu1 [.val (tv A x), .val (tv B' y), .val (tv C z)]) : EvV K (tTup ta) G Mu Mu1 (.val (tv (rP3 A B' C) (x, y, z))) := ev_tup (ts := [tv A x, tv B' y, tv C z]) h
theorem ev_mk4 {ta : TA} {x : α} {y : β} {z : γ} {u : δ} (h : EvA K ta G Mu Mu1 [.val (tv A x), .val (tv B' y), .val (tv C z), .val (tv D' u)]) : EvV K (tTup ta) G Mu Mu1 (.val (tv (rP4 A B' C D') (x, y, z, u))) := ev_tup (ts := [tv A x, tv B' y, tv C z, tv D' u]) h
/-- () and (a, b, ..) of one kind -/
theorem ev_mkV {ta : TA} {ss : List SV} (h : EvA K ta G Mu Mu1 ss) (e : ss = (xs.map (tv R)).map .val := by rfl) (hl : Nat.ble (xs.map (tv R)).length 64 = true := by rfl) : EvV K (tTup ta) G Mu Mu1 (.val (tv (rTup R) xs)) := ev_tup (ts := xs.map (tv R)) h e hl
theorem ef_mkL {ta : TA} {ss : List SV} (h : EvA K ta G Mu Mu1 ss) (e : ss = (xs.map (tv R)).map .val := by rfl) (hl : Nat.ble (xs.map (tv R)).length 64 = true := by rfl) : EvF K (tLst ta) G Mu Mu1 (mL (xs.map (tv R))) := ef_lst (ts := xs.map (tv R)) h e hl
theorem ev_lstR (h : EvF K te G Mu Mu1 (mL (xs.map (tv R)))) : EvV K te G Mu Mu1 (.val (tv (rList R) xs)) := ev_lst h
/-- t + u, tuples -/
theorem rv_catT {k1 : Nat} (h1 : IsSq K Mu s .t ts) (h2 : IsSq K Mu s2 .t us) (e1 : ts ≠ []) (e2 : us ≠ []) (hz : ts.length + us.length ≤ sizeLine) : Rv K (rCatA K) Mu Mu s s2 (.val (tupT (ts ++ us))) := fun B S ls H x y Q hs ha hb q => by
  obtain ⟨p, vs, e, sq, l, r⟩ := h1 B S ls H _ hs ha
  obtain ⟨p2, vs2, e', sq2, l2, r2⟩ := h2 B S ls H _ hs hb
  have sq : SqT K H p vs := sq
  have sq2 : SqT K H p2 vs2 := sq2
  have hl : vs.length + vs2.length ≤ sizeLine := by
    rw [Paired.length r, Paired.length r2]
    exact hz
  have n1 : vs ≠ [] := fun z => by
    subst z
    have := Paired.length r
    exact e1 (List.eq_nil_of_length_eq_zero this.symm)
  have n2 : vs2 ≠ [] := fun z => by
    subst z
    have := Paired.length r2
    exact e2 (List.eq_nil_of_length_eq_zero this.symm)
  exact ⟨p, p2, vs, vs2, e, e', sq, sq2, hl, fun z => absurd z n1, fun _ z => absurd z n2, fun _ _ p3 hp3 => new_tup hs hp3 (by rw [List.length_append]; exact hl) (Paired.app r r2) q⟩
end
/-! ### where defs stand -/
/-- the def x, its promise and what a call asks beside -/
def OkF (P : Program) (w : World) (K : PySem.W.Frag) (mg : Str → Option Value) (base : Heap) (x : Str) (ps : List Str) (k : Nat) (sp : Sp) : Prop :=
  ∃ fd, FnOk P w K mg base CX0 k (He.ga K x) fd ps sp ∧ Binds K fd ps [] ∧ PySem.W.keepIn K (.ref (He.ga K x)) = true ∧ mg x = some (.ref (He.ga K x))
/-- what the top has left -/
structure Txt (fa : List He.Fa) (fn : List He.DefD) (K : PySem.W.Frag) (mg : Str → Option Value) : Prop where
  c : He.SaysD fa fn K
  gl : ∀ x, (He.Fa.glo x).ok K = true → mg x = some (.ref (He.ga K x))
  fr : ∀ x, (He.Fa.free x).ok K = true → mg x = none
theorem Txt.mk' {fa : List He.Fa} {fn : List He.DefD} {K : PySem.W.Frag} {h : Heap} {mg : Str → Option Value} (X : K.In h) (G : h.Ns mainGlobals mg) (c : He.SaysD fa fn K) : Txt fa fn K mg := ⟨c, fun x => He.glo_ok X G, fun x => He.free_ok X G⟩
theorem Txt.free {fa : List He.Fa} {fn : List He.DefD} {K : PySem.W.Frag} {mg : Str → Option Value} (T : Txt fa fn K mg) (i : Nat) {x : Str} (h : fa[i]? = some (.free x) := by rfl) : mg x = none := T.fr x (T.c.fact i h)
theorem Txt.glob {fa : List He.Fa} {fn : List He.DefD} {K : PySem.W.Frag} {mg : Str → Option Value} (T : Txt fa fn K mg) (i : Nat) {x : Str} (h : fa[i]? = some (.glo x) := by rfl) : mg x = some (.ref (He.ga K x)) := T.gl x (T.c.fact i h)
end TL

/-! TL, seventh part: short forms for the generator; freezing; == of data. -/
namespace TL
open PySem L2
section
variable {ω : Type} {np : Nat} {κ : ω → OS} {m : Mr ω} {u t : TS} {K : PySem.W.Frag} {G G' : Gm} {Mu Mu1 Mu2 Mu3 : Mm} {te ta tb tl : TE} {tt tu : TT} {ts us : List TV} {s s' s2 : SV} {k k2 : Knd} {a b r : Int} {α β γ δ : Type} {R : Rep α} {R' : Rep β} {xs ys : List α}
theorem ei_L (h : EvV K tl G Mu Mu1 (.val (tv (rSq k R) xs))) (hk : k.isL = true := by rfl) : EvI K (iList K tl) G Mu Mu1 (xs.map (tv R)) AnyM ((xs.map (tv R)).length ≤ sizeLine) := ei_list h hk
theorem ei_V (h : EvV K tl G Mu Mu1 (.val (tv (rSq .t R) xs))) : EvI K (iTup K tl) G Mu Mu1 (xs.map (tv R)) AnyM ((xs.map (tv R)).length ≤ sizeLine) := ei_tup h
theorem ei_C {j : Nat} (h : EvV K tl G Mu Mu1 (.cell j)) (hm : Mu1[j]? = some (some (mL (xs.map (tv R))))) : EvI K (iList K tl) G Mu Mu1 (xs.map (tv R)) (fun M => M[j]? = some (some (mL (xs.map (tv R))))) ((xs.map (tv R)).length ≤ sizeLine) := ei_cell h hm
theorem hz_map (h : (xs.map (tv R)).length ≤ sizeLine) : xs.length ≤ sizeLine := by rw [List.length_map] at h; exact h
theorem hz_size {r : Unit} (h : sizeP xs = .ok r) : xs.length ≤ sizeLine := by
  unfold sizeP at h
  split at h
  · rw [sizeLine_eq]
    assumption
  · cases h
theorem hz_ble {n : Nat} (h : Nat.ble n 16777216 = true) : n ≤ sizeLine := by
  rw [sizeLine_eq]
  exact Nat.le_of_ble_eq_true h
theorem ev_as (h : EvV K te G Mu Mu1 s) (e : s = s') : EvV K te G Mu Mu1 s' := e ▸ h
theorem len_map {n : Nat} (h : xs.length = n) : (xs.map (tv R)).length = n := by rw [List.length_map]; exact h
theorem rc_lenL (h : IsSq K Mu s k (xs.map (tv R))) : Rc K (fun xs H Q => ∃ p ys, xs = [.ref p] ∧ (SqL K H p ys ∨ SqT K H p ys) ∧ Q (.int ys.length) H) Mu Mu [s] (vI (xs.length : Int)) := rc_len h (List.length_map _)
theorem rc_tupLR (h : IsSq K Mu s k (xs.map (tv R))) (hk : k.isL = true := by rfl) : Rc K (fun xs H Q => ∃ p ys, xs = [.ref p] ∧ ((SqL K H p ys ∧ ∀ l, H l = none → Q (.ref l) (upd H l (.tup ys))) ∨ (SqT K H p ys ∧ Q (.ref p) H))) Mu Mu [s] (.val (tv (rTup R) xs)) := rc_tupL h hk
theorem ef_slR {tl th : TO} {lo hi : Option Int} (h : EvV K te G Mu Mu1 s) (hl : EvO K tl G Mu1 Mu2 lo) (hh : EvO K th G Mu2 Mu3 hi) (hq : IsSq K Mu3 s k (xs.map (tv R))) (hk : k.isL = true := by rfl) : EvF K (tSl (rSlL K) te tl th) G Mu Mu3 (mL ((cut xs lo hi).map (tv R))) := by
  rw [← cut_map]
  exact ef_sl h hl hh hq hk
theorem ef_cb1 {r : List V → Hp → VK → Prop} {m : MV} (h : EvV K te G Mu Mu1 s) (hr : RcF K r Mu1 Mu2 [s] m) : EvF K (tCB r (tCons te tNil)) G Mu Mu2 m := ef_cb (ea_cons h ea_nil) hr
theorem ev_cb2 {r : List V → Hp → VK → Prop} (h : EvV K ta G Mu Mu1 s) (h2 : EvV K tb G Mu1 Mu2 s2) (hr : Rc K r Mu2 Mu3 [s, s2] s') : EvV K (tCB r (tCons ta (tCons tb tNil))) G Mu Mu3 s' := ev_cb (ea_cons h (ea_cons h2 ea_nil)) hr
/-- tuple(range(..)), list(range(..)) -/
theorem rgV_allT {S : Hp} : AllT K S (rgV a b) ((rngI a b).map (tv rInt)) := by
  have e : rgV a b = (rngI a b).map V.int := by
    unfold rgV rngI
    rw [List.map_map]
    rfl
  rw [e]
  exact ints_allT _
def rgOkP (a b : Int) : Prop := RgOk a b
theorem ev_tupRg1 (h : EvV K ta G Mu Mu1 (vI b)) (hb : RgOk 0 b) : EvV K (tTupRg (tRg1 ta)) G Mu Mu1 (.val (tv (rTup rInt) (rngI 0 b))) := fun B σ S ls H Q sl hs q =>
  h B σ S ls H _ sl hs fun x S1 l1 H1 a1 b1 c1 d1 => by
    refine ⟨b, d1, hb, fun p hp => ?_⟩
    refine new_tup (ts := (rngI 0 b).map (tv rInt)) c1 hp ?_ rgV_allT (q.mono a1 b1)
    rw [rgV_length, sizeLine_eq]
    have := hb.2.2.2.2
    omega
theorem ef_lstRg1 (h : EvV K ta G Mu Mu1 (vI b)) (hb : RgOk 0 b) : EvF K (tLstRg (tRg1 ta)) G Mu Mu1 (mL ((rngI 0 b).map (tv rInt))) := fun B σ S ls H Q sl hs q =>
  h B σ S ls H _ sl hs fun x S1 l1 H1 a1 b1 c1 d1 => by
    refine ⟨b, d1, hb, fun p hp => ?_⟩
    refine new_lst (ts := (rngI 0 b).map (tv rInt)) c1 hp ?_ rgV_allT (q.mono a1 b1)
    rw [rgV_length, sizeLine_eq]
    have := hb.2.2.2.2
    omega
/-! ### an own cell becomes a value -/
def frzG (j : Nat) (t : TV) : Gm → Gm
  | [] => []
  | some (.cell i) :: r => (if Nat.beq i j = true then some (.val t) else some (.cell i)) :: frzG j t r
  | o :: r => o :: frzG j t r
theorem frzG_len {j : Nat} {t : TV} : ∀ G : Gm, (frzG j t G).length = G.length
  | [] => rfl
  | some (.cell i) :: r => congrArg (· + 1) (frzG_len r)
  | some (.val _) :: r => congrArg (· + 1) (frzG_len r)
  | none :: r => congrArg (· + 1) (frzG_len r)
theorem frzG_get {j : Nat} {t : TV} : ∀ {G : Gm} {i : Nat} {s : SV}, (frzG j t G)[i]? = some (some s) → G[i]? = some (some s) ∨ (G[i]? = some (some (.cell j)) ∧ s = .val t)
  | [], i, s, h => by simp [frzG] at h
  | some (.cell c) :: r, 0, s, h => by
    have h : (if Nat.beq c j = true then some (SV.val t) else some (SV.cell c)) = some s := by simpa [frzG] using h
    by_cases e : Nat.beq c j = true
    · rw [if_pos e] at h
      cases h
      have := Nat.eq_of_beq_eq_true e
      subst this
      exact .inr ⟨rfl, rfl⟩
    · rw [if_neg e] at h
      cases h
      exact .inl rfl
  | some (.val _) :: r, 0, s, h => .inl h
  | none :: r, 0, s, h => .inl h
  | some (.cell c) :: r, i + 1, s, h => frzG_get (G := r) (i := i) (by simpa [frzG] using h)
  | some (.val _) :: r, i + 1, s, h => frzG_get (G := r) (i := i) (by simpa [frzG] using h)
  | none :: r, i + 1, s, h => frzG_get (G := r) (i := i) (by simpa [frzG] using h)
theorem eb_frz {j : Nat} {mv : MV} {tv' : TV} (hk : Mu[j]? = some (some mv)) (f : Frz mv tv') (h : EvB K np t (frzG j tv' G) (Mu.set j none) κ m) : EvB K np t G Mu κ m := fun B σ S ls H D w hn sl hs e q => by
  obtain ⟨a, o, e1, e4, s1, h2⟩ := hs.freeze hk
  refine h B σ _ ls H D w hn ⟨by rw [frzG_len]; exact sl.1, fun i s' es => ?_⟩ h2 e (q.mono s1 (Pre.refl _))
  rcases frzG_get es with z | ⟨z, es'⟩
  · obtain ⟨v, f1, f2⟩ := sl.2 i s' z
    exact ⟨v, f1, SV.mono s1 (Pre.refl _) f2⟩
  · subst es'
    obtain ⟨v, f1, ⟨a', g1, g2⟩⟩ := sl.2 i _ z
    rw [e1] at g1
    cases g1
    subst g2
    exact ⟨_, f1, f (mv.mono s1 e4) upd_same⟩
theorem frz_L : Frz (mL (xs.map (tv R))) (tv (rList R) xs) := frz_l
end

theorem pairR {α β : Type} {p : Mr (α × β)} {r : α × β} (h : p = .ok r) : p = .ok (r.1, r.2) := h
section
variable {K : PySem.W.Frag} {G : Gm} {Mu Mu1 : Mm} {te : TE} {tt : TT} {α β : Type} {R : Rep α} {xs ys : List α}
theorem oeF (e : (Except.ok xs : Mr (List α)) = .ok ys) (h : EvF K te G Mu Mu1 (mL (xs.map (tv R)))) : EvF K te G Mu Mu1 (mL (ys.map (tv R))) := by
  cases e
  exact h
/-- of a pair: the value and the state behind -/
theorem oeP {mu : β → Mm} {x y : α} {s s' : β} (e : (Except.ok (x, s) : Mr (α × β)) = .ok (y, s')) (h : EvV K te G Mu (mu s) (.val (tv R x))) : EvV K te G Mu (mu s') (.val (tv R y)) := by
  cases e
  exact h
theorem filIf {b : Bool} {p : Mr (Option α)} {o : Option α} (e : (if b = true then p else .ok none) = .ok o) (ht : EvT K tt G Mu Mu b) (h : p = .ok o → ∃ y, o = some y ∧ EvV K te G Mu Mu (.val (tv R y))) :
    ∃ b, EvT K tt G Mu Mu b ∧ (b = true → ∃ y, o = some y ∧ EvV K te G Mu Mu (.val (tv R y))) ∧ (b = false → o = none) := by
  cases b with
  | true =>
    rw [if_pos rfl] at e
    exact ⟨true, ht, fun _ => h e, fun z => nomatch z⟩
  | false =>
    rw [if_neg Bool.false_ne_true] at e
    cases e
    exact ⟨false, ht, fun z => (nomatch z), fun _ => rfl⟩
theorem oeO {x : α} {o : Option α} (e : (Except.ok (some x) : Mr (Option α)) = .ok o) (h : EvV K te G Mu Mu1 (.val (tv R x))) : ∃ y, o = some y ∧ EvV K te G Mu Mu1 (.val (tv R y)) := by
  cases e
  exact ⟨x, rfl, h⟩
end
/-! ### == of data -/
structure DRep {α : Type} [BEq α] (R : Rep α) (d : Nat) where
  enc : α → PyData
  dp : ∀ {K S v a}, R.p K S v a → Dp K S v (enc a)
  lay : ∀ a, (enc a).canLay0 = true
  dep : ∀ a, (enc a).depth ≤ d
  eq : ∀ a b, PyData.eqv (enc a) (enc b) = (a == b)
def drInt : DRep rInt 0 := ⟨.int, fun h => by cases h; exact .int _, fun _ => rfl, fun _ => Nat.le_refl _, fun _ _ => rfl⟩
def drBool : DRep rBool 0 := ⟨.bool, fun h => by cases h; exact .bl _, fun _ => rfl, fun _ => Nat.le_refl _, fun _ _ => rfl⟩
theorem dpAll {α : Type} [BEq α] {R : Rep α} {d : Nat} (D : DRep R d) {K : PySem.W.Frag} {S : Hp} : ∀ {vs : List V} {xs : List α}, AllT K S vs (xs.map (tv R)) → DpAll K S vs (xs.map D.enc)
  | [], [], _ => .nil
  | [], _ :: _, h => nomatch h
  | _ :: _, [], h => nomatch h
  | _ :: _, _ :: _, .cons r t => .cons (D.dp r) (dpAll D t)
theorem layAll {α : Type} [BEq α] {R : Rep α} {d : Nat} (D : DRep R d) : ∀ xs : List α, PyData.canLayAll0 (xs.map D.enc) = true
  | [] => rfl
  | x :: xs => by
    show (PyData.canLay0 (D.enc x) && PyData.canLayAll0 (xs.map D.enc)) = true
    rw [D.lay x, layAll D xs]
    rfl
theorem depAll {α : Type} [BEq α] {R : Rep α} {d : Nat} (D : DRep R d) : ∀ xs : List α, PyData.depthAll (xs.map D.enc) ≤ d
  | [] => Nat.zero_le _
  | x :: xs => by
    show Nat.max (PyData.depth (D.enc x)) (PyData.depthAll (xs.map D.enc)) ≤ d
    exact Nat.max_le.mpr ⟨D.dep x, depAll D xs⟩
theorem eqAll {α : Type} [BEq α] {R : Rep α} {d : Nat} (D : DRep R d) : ∀ xs ys : List α, PyData.eqvAll (xs.map D.enc) (ys.map D.enc) = (xs == ys)
  | [], [] => rfl
  | [], _ :: _ => rfl
  | _ :: _, [] => rfl
  | x :: xs, y :: ys => by
    show (PyData.eqv (D.enc x) (D.enc y) && PyData.eqvAll (xs.map D.enc) (ys.map D.enc)) = _
    rw [D.eq, eqAll D xs ys]
    rfl
def drL {α : Type} [BEq α] {R : Rep α} {d : Nat} (D : DRep R d) : DRep (rSq .l R) (d + 1) where
  enc := fun xs => .list (xs.map D.enc)
  dp := fun ⟨p, vs, e, q, l, r⟩ => by
    subst e
    exact .lst (SqK.seq q rfl) (dpAll D r)
  lay := fun xs => layAll D xs
  dep := fun xs => by
    show PyData.depthAll (xs.map D.enc) + 1 ≤ d + 1
    have := depAll D xs
    omega
  eq := fun xs ys => eqAll D xs ys
def drV {α : Type} [BEq α] {R : Rep α} {d : Nat} (D : DRep R d) : DRep (rSq .t R) (d + 1) where
  enc := fun xs => .tuple (xs.map D.enc)
  dp := fun {K S v a} ⟨p, vs, e, q, l, r⟩ => by
    subst e
    have q : SqT K S p vs := q
    exact .tup q (dpAll D r)
  lay := fun xs => layAll D xs
  dep := fun xs => by
    show PyData.depthAll (xs.map D.enc) + 1 ≤ d + 1
    have := depAll D xs
    omega
  eq := fun xs ys => eqAll D xs ys
mutual
theorem Dp.same {K : PySem.W.Frag} {H H' : Hp} (e : Same H H') : ∀ {v : V} {d : PyData}, Dp K H v d → Dp K H' v d
  | _, _, .non => .non
  | _, _, .bl b => .bl b
  | _, _, .int i => .int i
  | _, _, .str x => .str x
  | _, _, .lst h a => .lst (Same.seq e h) (DpAll.same e a)
  | _, _, .tup h a => .tup (same_seqT e h) (DpAll.same e a)
theorem DpAll.same {K : PySem.W.Frag} {H H' : Hp} (e : Same H H') : ∀ {v : List V} {d : List PyData}, DpAll K H v d → DpAll K H' v d
  | _, _, .nil => .nil
  | _, _, .cons h a => .cons (Dp.same e h) (DpAll.same e a)
end
theorem rv_eqD {α : Type} [BEq α] {R : Rep α} {d : Nat} {K : PySem.W.Frag} {Mu : Mm} {a b : α} (D : DRep R d) (hd : d ≤ 64) : Rv K (rEqD K) Mu Mu (.val (tv R a)) (.val (tv R b)) (vB (a == b)) := rv_same fun B S ls H x y Q hs ha hb q => by
  have sh : ∀ z, SeqAt.shaped (D.enc z) = true := fun z => by
    show (PyData.canLay0 (D.enc z) && decide (PyData.depth (D.enc z) ≤ 64)) = true
    rw [D.lay z, decide_eq_true (Nat.le_trans (D.dep z) hd)]
    rfl
  exact ⟨D.enc a, D.enc b, Dp.same hs.ex (D.dp ha), Dp.same hs.ex (D.dp hb), sh a, sh b, q _ (congrArg V.bl (D.eq a b))⟩
theorem rv_neD {α : Type} [BEq α] {R : Rep α} {d : Nat} {K : PySem.W.Frag} {Mu : Mm} {a b : α} (D : DRep R d) (hd : d ≤ 64) : Rv K (rNeD K) Mu Mu (.val (tv R a)) (.val (tv R b)) (vB (!(a == b))) := rv_same fun B S ls H x y Q hs ha hb q => by
  have sh : ∀ z, SeqAt.shaped (D.enc z) = true := fun z => by
    show (PyData.canLay0 (D.enc z) && decide (PyData.depth (D.enc z) ≤ 64)) = true
    rw [D.lay z, decide_eq_true (Nat.le_trans (D.dep z) hd)]
    rfl
  exact ⟨D.enc a, D.enc b, Dp.same hs.ex (D.dp ha), Dp.same hs.ex (D.dp hb), sh a, sh b, q _ (congrArg V.bl (congrArg not (D.eq a b)))⟩

/-! ### rules at a named K (within a comprehension's block the context is another one) -/
section
variable {X : Cx} {K : PySem.W.Frag}
theorem kIxL (h : X.K = K := by rfl) : IxR X (rIxL K) := h ▸ ix_list
theorem kIxT (h : X.K = K := by rfl) : IxR X (rIxT K) := h ▸ ix_tup
theorem kIn (h : X.K = K := by rfl) : OpR X (compareOp .In) (rIn K false) := h ▸ op_in_seq
theorem kNotIn (h : X.K = K := by rfl) : OpR X (compareOp .NotIn) (rIn K true) := h ▸ op_notIn_seq
theorem kCatA (h : X.K = K := by rfl) : OpR X (binaryOp .Add) (rCatA K) := h ▸ op_catA
theorem kSlL (h : X.K = K := by rfl) : SlR X (rSlL K) := h ▸ sl_list
theorem kSum (hc : X.calm = true) (h : X.K = K := by rfl) : CallR X (.builtin "sum") (rSum K) := h ▸ cr_sum hc
theorem kAny (hc : X.calm = true) (h : X.K = K := by rfl) : CallR X (.builtin "any") (rAny K) := h ▸ cr_any hc
theorem kAll (hc : X.calm = true) (h : X.K = K := by rfl) : CallR X (.builtin "all") (rAll K) := h ▸ cr_all hc
theorem kSorted (h : X.K = K := by rfl) : CallR X (.builtin "sorted") (rSortedI K) := h ▸ cr_sortedI
theorem kLen (h : X.K = K := by rfl) : CallR X (.builtin "len") (fun xs H Q => ∃ p ys, xs = [.ref p] ∧ (SqL K H p ys ∨ SqT K H p ys) ∧ Q (.int ys.length) H) := h ▸ call_len_seq
theorem kListOf (h : X.K = K := by rfl) : CallR X (.type "list") (fun xs H Q => ∃ p ys, xs = [.ref p] ∧ (SqL K H p ys ∨ SqT K H p ys) ∧ ∀ l, H l = none → Q (.ref l) (upd H l (.lst ys))) := h ▸ call_list_of
theorem kTupleOf (h : X.K = K := by rfl) : CallR X (.type "tuple") (fun xs H Q => ∃ p ys, xs = [.ref p] ∧ ((SqL K H p ys ∧ ∀ l, H l = none → Q (.ref l) (upd H l (.tup ys))) ∨ (SqT K H p ys ∧ Q (.ref p) H))) := h ▸ call_tuple_of
theorem kIsi (h : X.K = K := by rfl) : CallR X (.builtin "isinstance") (rIsi K) := h ▸ call_isi
theorem kEqD (hu : X.A.units + 64 < cLine) (h : X.K = K := by rfl) : OpR X (compareOp .Eq) (rEqD K) := h ▸ op_eqD hu
theorem kNeD (hu : X.A.units + 64 < cLine) (h : X.K = K := by rfl) : OpR X (compareOp .NotEq) (rNeD K) := h ▸ op_neD hu
theorem kPiL {tg l : Expr} {tl : TE} (hl : PE X l tl) (h : X.K = K := by rfl) : PI X tg l (iList K tl) := h ▸ pi_list hl
theorem kPiT {tg l : Expr} {tl : TE} (hl : PE X l tl) (h : X.K = K := by rfl) : PI X tg l (iTup K tl) := h ▸ pi_tup hl
end
end TL

/-! mirrors of k10, printed by gen.py -/
namespace K10
open TL
structure Pot where
  cells : List Int
  at_ : Int
  cell : Int
  left : Int
  seed : Int
  turns : Int
def m_law_pot (script : List Int) : Mr Pot :=
  (.ok ((cut script none (some (63 : Int))).map fun (x1 : Int) => ((absI x1) % (((10 : Int) ^ 60) ^ 4))) : Mr (List Int)) >>= fun cells2 =>
  (.ok (20011 : Int) : Mr Int) >>= fun seed3 =>
  forL cells2 seed3 (fun (s4 : Int) (x5 : Int) =>
  (.ok ((((s4 * (16807 : Int)) + x5) + (1 : Int)) % (2147483647 : Int)) : Mr Int) >>= fun seed6 =>
  .ok (.go seed6)) >>= Stp.k fun (s4 : Int) =>
  .ok (Pot.mk cells2 (0 : Int) (0 : Int) (0 : Int) s4 (0 : Int))

def m_law_draw (pot : Pot) (size : Int) : Mr (Int × Pot) :=
  (if ((decide (pot.left = (0 : Int))) && (decide (pot.at_ < (pot.cells.length : Int)))) = true then
  getI pot.cells pot.at_ >>= fun r1 =>
  (if (decide (((10 : Int) ^ 18) ≤ r1)) = true then
  .ok (.go (Pot.mk pot.cells (pot.at_ + (1 : Int)) r1 (40 : Int) pot.seed (pot.turns + (1 : Int))))
  else
  .ok (.go (Pot.mk pot.cells (pot.at_ + (1 : Int)) (0 : Int) (8 : Int) (((pot.seed * (16807 : Int)) + r1) % (2147483647 : Int)) (pot.turns + (1 : Int)))))
  else
  .ok (.go (Pot.mk pot.cells pot.at_ pot.cell pot.left pot.seed (pot.turns + (1 : Int))))) >>= Jn.k fun (s2 : Pot) =>
  (if (decide ((0 : Int) < s2.left)) = true then
  (if (decide ((0 : Int) < s2.cell)) = true then
  modP s2.cell size >>= fun r3 =>
  fdivP s2.cell size >>= fun r4 =>
  (if (decide (r4 = (0 : Int))) = true then
  .ok (.go (Pot.mk s2.cells s2.at_ r4 (0 : Int) s2.seed s2.turns))
  else
  .ok (.go (Pot.mk s2.cells s2.at_ r4 (s2.left - (1 : Int)) s2.seed s2.turns))) >>= Jn.k fun (s5 : Pot) =>
  .ok (.out (r3, s5))
  else
  .ok (.go (Pot.mk s2.cells s2.at_ s2.cell (s2.left - (1 : Int)) s2.seed s2.turns)))
  else
  .ok (.go s2)) >>= Jn.k fun (s6 : Pot) =>
  (.ok ((s6.seed + (s6.turns * (7919 : Int))) % (2147483647 : Int)) : Mr Int) >>= fun number7 =>
  mulP number7 number7 >>= fun r8 =>
  (.ok (((r8 + (number7 * (48271 : Int))) + s6.turns) % (2147483629 : Int)) : Mr Int) >>= fun number9 =>
  mulP number9 number9 >>= fun r10 =>
  (.ok (((r10 + (number9 * (69621 : Int))) + (101 : Int)) % (2147483647 : Int)) : Mr Int) >>= fun number11 =>
  modP (number11 / (61 : Int)) size >>= fun r12 =>
  .ok (r12, s6)

def m_law_row (pot : Pot) (atoms : List Int) : Mr ((List Int) × Pot) :=
  m_law_draw pot (10 : Int) >>= fun r1 =>
  (if (decide (r1.1 = (8 : Int))) = true then
  .ok ((rngI 0 (64 : Int)), r1.2)
  else
  (if (decide (r1.1 = (9 : Int))) = true then
  filR (fun (x2 : Int) => (getI atoms (0 : Int) >>= fun r3 => (if (!decide (x2 = r3)) = true then .ok (some x2) else .ok none) : Mr (Option Int))) (rngI (0 : Int) (64 : Int)) >>= fun r4 =>
  .ok (r4, r1.2)
  else
  (.ok ([] : List Int) : Mr (List Int)) >>= fun found7 =>
  forL (rngI (0 : Int) (3 : Int)) found7 (fun (s8 : List Int) (x9 : Int) =>
  shrP r1.1 x9 >>= fun r10 =>
  ((if (decide ((r10 % (2 : Int)) = (1 : Int))) = true then getI atoms x9 >>= fun r11 => .ok (!s8.contains r11) else .ok false) : Mr Bool) >>= fun r12 =>
  (if r12 = true then
  getI atoms x9 >>= fun r14 =>
  growOk s8 >>= fun r15 =>
  .ok (.go (s8 ++ [r14]))
  else
  .ok (.go s8))) >>= Stp.k fun (s8 : List Int) =>
  .ok (sortI s8, r1.2)))

def m_law_rows (pot : Pot) (atoms : List Int) : Mr ((List (List Int)) × Pot) :=
  m_law_draw pot (8 : Int) >>= fun r1 =>
  (if (!decide (r1.1 = (5 : Int))) = true then
  m_law_draw r1.2 (14 : Int) >>= fun r2 =>
  (.ok ((1 : Int) + r2.1) : Mr Int) >>= fun many3 =>
  rngP (0 : Int) many3 >>= fun r4 =>
  sizeP (rngI (0 : Int) many3) >>= fun r5 =>
  mapS (fun (s8 : Pot) (x6 : Int) => m_law_row s8 atoms >>= fun r9 => .ok (r9.1, r9.2)) (rngI (0 : Int) many3) r2.2 >>= fun r10 =>
  .ok (r10.1, r10.2)
  else
  m_law_draw r1.2 (2 : Int) >>= fun r14 =>
  getI ([(400 : Int), (3000 : Int)] : List Int) r14.1 >>= fun r15 =>
  m_law_draw r14.2 r15 >>= fun r16 =>
  (.ok ((1 : Int) + r16.1) : Mr Int) >>= fun many17 =>
  m_law_draw r16.2 (8 : Int) >>= fun r18 =>
  m_law_draw r18.2 (4 : Int) >>= fun r19 =>
  (.ok ((1 : Int) + r19.1) : Mr Int) >>= fun size20 =>
  rngP (0 : Int) r18.1 >>= fun r21 =>
  sizeP (rngI (0 : Int) r18.1) >>= fun r22 =>
  mapS (fun (s25 : Pot) (x23 : Int) => m_law_row s25 atoms >>= fun r26 => .ok (r26.1, r26.2)) (rngI (0 : Int) r18.1) r19.2 >>= fun r27 =>
  rngP (0 : Int) size20 >>= fun r31 =>
  sizeP (rngI (0 : Int) size20) >>= fun r32 =>
  mapS (fun (s35 : Pot) (x33 : Int) => m_law_row s35 atoms >>= fun r36 => .ok (r36.1, r36.2)) (rngI (0 : Int) size20) r27.2 >>= fun r37 =>
  fdivP many17 size20 >>= fun r41 =>
  repOk r37.1 (r41 + (1 : Int)) >>= fun r42 =>
  catOk r27.1 (repL r37.1 (r41 + (1 : Int))) >>= fun r43 =>
  (.ok (r27.1 ++ (repL r37.1 (r41 + (1 : Int)))) : Mr (List (List Int))) >>= fun rows44 =>
  (.ok (cut rows44 none (some many17)) : Mr (List (List Int))) >>= fun rows45 =>
  m_law_draw r37.2 many17 >>= fun r46 =>
  m_law_row r46.2 atoms >>= fun r47 =>
  setI rows45 r46.1 r47.1 >>= fun r48 =>
  .ok (r48, r47.2))

def m_law_conditions (pot : Pot) (atoms : List Int) (day : Int) : Mr ((List ((List Nat) × Int × Int)) × Pot) :=
  getI atoms (0 : Int) >>= fun r1 =>
  getI atoms (1 : Int) >>= fun r2 =>
  (.ok ((rngI (0 : Int) (7 : Int)).map fun (x3 : Int) => ([97, 116], r1, x3)) : Mr (List ((List Nat) × Int × Int))) >>= fun made4 =>
  catOk made4 ((rngI (1 : Int) (7 : Int)).map fun (x5 : Int) => ([119, 105, 116, 104, 105, 110], r1, x5)) >>= fun r6 =>
  (.ok (made4 ++ ((rngI (1 : Int) (7 : Int)).map fun (x5 : Int) => ([119, 105, 116, 104, 105, 110], r1, x5))) : Mr (List ((List Nat) × Int × Int))) >>= fun made7 =>
  catOk made7 ((rngI (1 : Int) (7 : Int)).map fun (x8 : Int) => ([116, 104, 114, 111, 117, 103, 104], r1, x8)) >>= fun r9 =>
  (.ok (made7 ++ ((rngI (1 : Int) (7 : Int)).map fun (x8 : Int) => ([116, 104, 114, 111, 117, 103, 104], r1, x8))) : Mr (List ((List Nat) × Int × Int))) >>= fun made10 =>
  forL ([[115, 105, 110, 99, 101], [104, 101, 108, 100]] : List (List Nat)) made10 (fun (s11 : List ((List Nat) × Int × Int)) (x12 : List Nat) =>
  (if (decide (day ≤ (400 : Int))) = true then
  catOk s11 ([(x12, r1, r2), (x12, r2, r1), (x12, r1, r1)] : List ((List Nat) × Int × Int)) >>= fun r13 =>
  (.ok (s11 ++ ([(x12, r1, r2), (x12, r2, r1), (x12, r1, r1)] : List ((List Nat) × Int × Int))) : Mr (List ((List Nat) × Int × Int))) >>= fun made14 =>
  .ok (.go made14)
  else
  .ok (.go s11))) >>= Stp.k fun (s11 : List ((List Nat) × Int × Int)) =>
  m_law_draw pot (12 : Int) >>= fun r15 =>
  (.ok ((1 : Int) + r15.1) : Mr Int) >>= fun near16 =>
  m_law_draw r15.2 (1000 : Int) >>= fun r17 =>
  (.ok ((1 : Int) + r17.1) : Mr Int) >>= fun far18 =>
  m_law_draw r17.2 far18 >>= fun r19 =>
  modP day near16 >>= fun r20 =>
  modP (day + r19.1) far18 >>= fun r21 =>
  catOk s11 ([([111, 110], (1 : Int), (0 : Int)), ([111, 110], near16, r20), ([111, 110], far18, r21)] : List ((List Nat) × Int × Int)) >>= fun r22 =>
  (.ok (s11 ++ ([([111, 110], (1 : Int), (0 : Int)), ([111, 110], near16, r20), ([111, 110], far18, r21)] : List ((List Nat) × Int × Int))) : Mr (List ((List Nat) × Int × Int))) >>= fun made23 =>
  .ok (made23, r19.2)

def m_law_last (rows : List (List Int)) (atom : Int) : Mr Int :=
  rngP (0 : Int) (rows.length : Int) >>= fun r1 =>
  forL (rngI (0 : Int) (rows.length : Int)) () (fun (s2 : Unit) (x3 : Int) =>
  getI rows (((rows.length : Int) - (1 : Int)) - x3) >>= fun r4 =>
  (if (r4.contains atom) = true then
  .ok (.out (((rows.length : Int) - (1 : Int)) - x3))
  else
  .ok (.go ()))) >>= Stp.k fun (s2 : Unit) =>
  .ok ((0 : Int) - (1 : Int))

def m_law_truth (rows : List (List Int)) (day : Int) (cond : (List Nat) × Int × Int) : Mr Bool :=
  (if (decide (cond.1 = [111, 110])) = true then
  modP day cond.2.1 >>= fun r1 =>
  .ok (decide (r1 = cond.2.2))
  else
  (if (decide (cond.1 = [97, 116])) = true then
  ((if (decide (cond.2.2 ≤ day)) = true then getI rows (day - cond.2.2) >>= fun r2 => .ok (r2.contains cond.2.1) else .ok false) : Mr Bool) >>= fun r3 =>
  .ok r3
  else
  (if (decide (cond.1 = [115, 105, 110, 99, 101])) = true then
  m_law_last rows cond.2.2 >>= fun r5 =>
  .ok ((decide ((0 : Int) ≤ r5)) && (((cut rows (some (r5 + (1 : Int))) none).map fun (x6 : List Int) => (x6.contains cond.2.1)).all id))
  else
  (if (decide (cond.1 = [104, 101, 108, 100])) = true then
  m_law_last rows cond.2.1 >>= fun r7 =>
  .ok ((decide ((0 : Int) ≤ r7)) && (!(((cut rows (some (r7 + (1 : Int))) none).map fun (x8 : List Int) => (x8.contains cond.2.2)).any id)))
  else
  (.ok ((cut rows (some (if ((day - cond.2.2) + (1 : Int)) > (0 : Int) then ((day - cond.2.2) + (1 : Int)) else (0 : Int))) none).map fun (x9 : List Int) => (x9.contains cond.2.1)) : Mr (List Bool)) >>= fun found10 =>
  (if (decide (cond.1 = [119, 105, 116, 104, 105, 110])) = true then
  .ok (found10.any id)
  else
  .ok ((decide ((0 : Int) ≤ ((day - cond.2.2) + (1 : Int)))) && (found10.all id)))))))

def m_atom_holds (rows : List (List Int)) (day : Int) (atom : Int) : Mr Bool :=
  ((if (decide ((0 : Int) ≤ day)) = true then getI rows day >>= fun r1 => .ok (r1.contains atom) else .ok false) : Mr Bool) >>= fun r2 =>
  .ok r2

def m_since (rows : List (List Int)) (day : Int) (lasting : Int) (beginning : Int) : Mr Bool :=
  rngP day (-1 : Int) >>= fun r1 =>
  forL (rngD day (-1 : Int)) () (fun (s2 : Unit) (x3 : Int) =>
  getI rows x3 >>= fun r4 =>
  (if (r4.contains beginning) = true then
  .ok (.out true)
  else
  getI rows x3 >>= fun r5 =>
  (if (!r5.contains lasting) = true then
  .ok (.out false)
  else
  .ok (.go ())))) >>= Stp.k fun (s2 : Unit) =>
  .ok false

def m_held (rows : List (List Int)) (day : Int) (beginning : Int) (ending : Int) : Mr Bool :=
  rngP day (-1 : Int) >>= fun r1 =>
  forL (rngD day (-1 : Int)) () (fun (s2 : Unit) (x3 : Int) =>
  getI rows x3 >>= fun r4 =>
  (if (r4.contains beginning) = true then
  .ok (.out true)
  else
  getI rows x3 >>= fun r5 =>
  (if (r5.contains ending) = true then
  .ok (.out false)
  else
  .ok (.go ())))) >>= Stp.k fun (s2 : Unit) =>
  .ok false

def m_value (rows : List (List Int)) (day : Int) (condition : (List Nat) × Int × Int × Bool) : Mr Bool :=
  (if (decide (condition.1 = [111, 110])) = true then
  modP day condition.2.1 >>= fun r1 =>
  .ok (decide (r1 = condition.2.2.1))
  else
  (if (decide (condition.1 = [97, 116])) = true then
  m_atom_holds rows (day - condition.2.2.1) condition.2.1 >>= fun r2 =>
  .ok r2
  else
  (if (decide (condition.1 = [115, 105, 110, 99, 101])) = true then
  m_since rows day condition.2.1 condition.2.2.1 >>= fun r3 =>
  .ok r3
  else
  (if (decide (condition.1 = [104, 101, 108, 100])) = true then
  m_held rows day condition.2.1 condition.2.2.1 >>= fun r4 =>
  .ok r4
  else
  (.ok ((day - condition.2.2.1) + (1 : Int)) : Mr Int) >>= fun first5 =>
  rngP first5 (day + (1 : Int)) >>= fun r6 =>
  sizeP (rngI first5 (day + (1 : Int))) >>= fun r7 =>
  mapR (fun (x8 : Int) => m_atom_holds rows x8 condition.2.1 >>= fun r9 => .ok r9) (rngI first5 (day + (1 : Int))) >>= fun r10 =>
  (if (decide (condition.1 = [119, 105, 116, 104, 105, 110])) = true then
  .ok (r10.any id)
  else
  .ok (r10.all id))))))

def m_condition_holds (rows : List (List Int)) (day : Int) (condition : (List Nat) × Int × Int × Bool) : Mr Bool :=
  m_value rows day condition >>= fun r1 =>
  .ok (decide (r1 = condition.2.2.2))

def m_law (script : List Int) : Mr Bool :=
  m_law_pot script >>= fun r1 =>
  mapS (fun (s4 : Pot) (x2 : Int) => m_law_draw s4 (64 : Int) >>= fun r5 => .ok (r5.1, r5.2)) (rngI (0 : Int) (3 : Int)) r1 >>= fun r6 =>
  m_law_rows r6.2 r6.1 >>= fun r10 =>
  m_law_draw r10.2 (r10.1.length : Int) >>= fun r11 =>
  m_law_draw r11.2 (r10.1.length : Int) >>= fun r12 =>
  (.ok ([(0 : Int), ((r10.1.length : Int) - (1 : Int)), r11.1, r12.1] : List Int) : Mr (List Int)) >>= fun days13 =>
  forL days13 r12.2 (fun (s14 : Pot) (x15 : Int) =>
  (.ok (cut r10.1 none (some (x15 + (1 : Int)))) : Mr (List (List Int))) >>= fun due16 =>
  m_law_conditions s14 r6.1 x15 >>= fun r17 =>
  forL r17.1 () (fun (s18 : Unit) (x19 : (List Nat) × Int × Int) =>
  m_law_truth due16 x15 x19 >>= fun r20 =>
  forL ([true, false] : List Bool) () (fun (s21 : Unit) (x22 : Bool) =>
  m_condition_holds due16 x15 (x19.1, x19.2.1, x19.2.2, x22) >>= fun r23 =>
  (if ((!true) || (!decide (r23 = (decide (r20 = x22))))) = true then
  .ok (.out (.out (.out false)))
  else
  .ok (.go ()))) >>= Stp.k fun (s21 : Unit) =>
  .ok (.go ())) >>= Stp.k fun (s18 : Unit) =>
  (if (!(due16 == due16)) = true then
  .ok (.out false)
  else
  .ok (.go r17.2))) >>= Stp.k fun (s14 : Pot) =>
  .ok true

end K10

/-! the plain law of k10 -/
namespace K10
open TL
def PI (p : Pot) : Prop := 0 ≤ p.at_
def DQ (size : Int) (r : Int × Pot) : Prop := (0 ≤ r.1 ∧ r.1 < size) ∧ PI r.2
theorem pot_ok (s : List Int) : Post (m_law_pot s) PI := by
  unfold m_law_pot
  refine post_bind (post_ok (Q := fun _ => True) trivial) fun cells _ => ?_
  refine post_bind (post_ok (Q := fun _ => True) trivial) fun seed _ => ?_
  refine post_stp (A := fun _ => True) (post_forI trivial fun s x _ _ => ?_) fun s _ => ?_
  · exact post_bind (post_ok (Q := fun _ => True) trivial) fun _ _ => post_ok trivial
  · exact post_ok (Int.le_refl 0)
theorem draw_ok {p : Pot} {size : Int} (h : PI p) (h1 : 0 < size) (h2 : size < 2 ^ 62) : Post (m_law_draw p size) (DQ size) := by
  unfold m_law_draw
  refine post_jn (A := PI) (post_if (fun hc => ?_) fun _ => post_ok h) fun s2 hs2 => ?_
  · have hc' : p.left = 0 ∧ p.at_ < (p.cells.length : Int) := by simpa using hc
    refine post_bind (post_getI h hc'.2) fun x _ => ?_
    exact post_if (fun _ => post_ok (show (0 : Int) ≤ p.at_ + 1 by have : (0 : Int) ≤ p.at_ := h; omega)) fun _ => post_ok (show (0 : Int) ≤ p.at_ + 1 by have : (0 : Int) ≤ p.at_ := h; omega)
  refine post_jn (A := PI) (post_if (fun _ => post_if (fun _ => ?_) fun _ => post_ok hs2) fun _ => post_ok hs2) fun s6 hs6 => ?_
  · refine post_bindE (modP_ok h1) (post_bindE (fdivP_ok h1 h2) ?_)
    refine post_jn (A := PI) (post_if (fun _ => post_ok hs2) fun _ => post_ok hs2) fun s5 h5 => post_ok ?_
    exact ⟨⟨Int.emod_nonneg _ (by omega), Int.emod_lt_of_pos _ h1⟩, h5⟩
  · refine post_bindE rfl ?_
    refine post_bindE (mulP_ok (by omega) (by omega) (by omega) (by omega)) ?_
    refine post_bindE rfl ?_
    refine post_bindE (mulP_ok (by omega) (by omega) (by omega) (by omega)) ?_
    refine post_bindE rfl ?_
    refine post_bindE (modP_ok h1) (post_ok ?_)
    exact ⟨⟨Int.emod_nonneg _ (by omega), Int.emod_lt_of_pos _ h1⟩, hs6⟩
def RQ (r : List Int × Pot) : Prop := PI r.2
theorem row_ok {p : Pot} {atoms : List Int} (h : PI p) (ha : atoms.length = 3) : Post (m_law_row p atoms) RQ := by
  unfold m_law_row
  refine post_bind (draw_ok h (by decide) (by decide)) fun r1 q1 => ?_
  refine post_if (fun _ => post_ok q1.2) fun _ => post_if (fun _ => ?_) fun _ => ?_
  · refine post_bind (post_filR fun x _ => ?_) fun _ _ => post_ok q1.2
    refine post_bind (post_getI (by decide) (by omega)) fun _ _ => ?_
    exact post_if (fun _ => post_ok trivial) fun _ => post_ok trivial
  · refine post_bindE rfl ?_
    refine post_stp (A := fun _ => True) (post_forA (fun k (s : List Int) => s.length ≤ k) (W := RQ) (Nat.zero_le _) (fun k s x hx hk hs => ?_) fun _ _ => trivial) fun s _ => post_ok q1.2
    · have hx' := mem_rngI.mp hx
      rw [rngI_len] at hk
      refine post_bindE (shrP_ok hx'.1) ?_
      refine post_bind (Q := fun _ => True) (post_if (fun _ => ?_) fun _ => post_ok trivial) fun _ _ => ?_
      · exact post_bind (post_getI hx'.1 (by omega)) fun _ _ => post_ok trivial
      refine post_if (fun _ => ?_) fun _ => post_ok (show s.length ≤ k + 1 by omega)
      refine post_bind (post_getI hx'.1 (by omega)) fun y _ => ?_
      refine post_bindE (growOk_ok (by omega)) (post_ok ?_)
      show (s ++ [y]).length ≤ k + 1
      simp
      omega
def RsQ (r : List (List Int) × Pot) : Prop := (1 ≤ r.1.length ∧ r.1.length ≤ 3000) ∧ PI r.2
theorem rows_ok {p : Pot} {atoms : List Int} (h : PI p) (ha : atoms.length = 3) : Post (m_law_rows p atoms) RsQ := by
  have hrow : ∀ (s : Pot) (x : Int), PI s → Post (m_law_row s atoms >>= fun r => .ok (r.1, r.2)) fun r => True ∧ PI r.2 := fun s x hs => post_bind (row_ok hs ha) fun r q => post_ok ⟨trivial, q⟩
  unfold m_law_rows
  refine post_bind (draw_ok h (by decide) (by decide)) fun r1 q1 => ?_
  refine post_if (fun _ => ?_) fun _ => ?_
  · refine post_bind (draw_ok q1.2 (by decide) (by decide)) fun r2 q2 => ?_
    obtain ⟨⟨a2, b2⟩, c2⟩ := q2
    refine post_bindE rfl ?_
    refine post_bindE (rngP_pos (by decide) (by decide) (by omega) (by omega)) ?_
    refine post_bindE (sizeP_ok (by rw [rngI_len]; omega)) ?_
    refine post_bind (post_mapS (I := PI) (B := fun _ => True) c2 fun s x _ hs => hrow s x hs) fun r q => post_ok ?_
    refine ⟨?_, q.2.2⟩
    rw [q.1, rngI_len]
    omega
  · refine post_bind (draw_ok q1.2 (by decide) (by decide)) fun r14 q14 => ?_
    obtain ⟨⟨a14, b14⟩, c14⟩ := q14
    refine post_bind (Q := fun x => 1 ≤ x ∧ x ≤ 3000) ?_ fun r15 q15 => ?_
    · have : r14.1 = 0 ∨ r14.1 = 1 := by omega
      rcases this with e | e <;> rw [e] <;> exact post_ok (by decide)
    refine post_bind (draw_ok c14 (by omega) (by omega)) fun r16 q16 => ?_
    obtain ⟨⟨a16, b16⟩, c16⟩ := q16
    refine post_bindE rfl ?_
    refine post_bind (draw_ok c16 (by decide) (by decide)) fun r18 q18 => ?_
    obtain ⟨⟨a18, b18⟩, c18⟩ := q18
    refine post_bind (draw_ok c18 (by decide) (by decide)) fun r19 q19 => ?_
    obtain ⟨⟨a19, b19⟩, c19⟩ := q19
    refine post_bindE rfl ?_
    refine post_bindE (rngP_pos (by decide) (by decide) (by omega) (by omega)) ?_
    refine post_bindE (sizeP_ok (by rw [rngI_len]; omega)) ?_
    refine post_bind (post_mapS (I := PI) (B := fun _ => True) c19 fun s x _ hs => hrow s x hs) fun r27 q27 => ?_
    refine post_bindE (rngP_pos (by decide) (by decide) (by omega) (by omega)) ?_
    refine post_bindE (sizeP_ok (by rw [rngI_len]; omega)) ?_
    refine post_bind (post_mapS (I := PI) (B := fun _ => True) q27.2.2 fun s x _ hs => hrow s x hs) fun r37 q37 => ?_
    refine post_bindE (fdivP_ok (by omega) (by omega)) ?_
    have l27 := q27.1
    have l37 := q37.1
    rw [rngI_len] at l27 l37
    have hd0 : 0 ≤ (1 + r16.1) / (1 + r19.1) := Int.ediv_nonneg (by omega) (by omega)
    have hd1 : (1 + r16.1) / (1 + r19.1) ≤ 1 + r16.1 := Int.ediv_le_self _ (by omega)
    have hd2 : 1 + r16.1 < (1 + r19.1) * ((1 + r16.1) / (1 + r19.1) + 1) := by
      have e1 := Int.emod_add_mul_ediv (1 + r16.1) (1 + r19.1)
      have e2 := Int.emod_lt_of_pos (1 + r16.1) (b := 1 + r19.1) (by omega)
      rw [Int.mul_add, Int.mul_one]
      omega
    generalize hq : (1 + r16.1) / (1 + r19.1) = q at *
    have hn : ((r37.1.length * (q + 1).toNat : Nat) : Int) = (1 + r19.1) * (q + 1) := by
      rw [Int.natCast_mul, l37, Int.toNat_of_nonneg (by omega), Int.toNat_of_nonneg (by omega)]
      congr 1
      omega
    have hm : (1 + r19.1) * (q + 1) ≤ 4 * (q + 1) := Int.mul_le_mul_of_nonneg_right (by omega) (by omega)
    have hr : repOk r37.1 (q + 1) = .ok () := if_pos ⟨by omega, by omega, by omega⟩
    refine post_bindE hr ?_
    refine post_bindE (catOk_ok (by rw [repL_len]; omega)) ?_
    refine post_bindE rfl (post_bindE rfl ?_)
    have hl : (cut (r27.1 ++ repL r37.1 (q + 1)) none (some (1 + r16.1))).length = (1 + r16.1).toNat := by
      rw [cut_to (by omega), List.length_take, List.length_append, repL_len]
      omega
    refine post_bind (draw_ok q37.2.2 (by omega) (by omega)) fun r46 q46 => ?_
    obtain ⟨⟨a46, b46⟩, c46⟩ := q46
    refine post_bind (row_ok c46 ha) fun r47 q47 => ?_
    refine post_bind (post_setI a46 (by rw [hl]; omega)) fun r48 q48 => post_ok ?_
    refine ⟨?_, q47⟩
    show 1 ≤ r48.length ∧ r48.length ≤ 3000
    rw [q48, List.length_set, hl]
    omega
abbrev Cd := List Nat × Int × Int
def Good (c : Cd) : Prop :=
  (c.1 = [111, 110] ∧ 0 < c.2.1) ∨ (c.1 = [97, 116] ∧ 0 ≤ c.2.2) ∨ c.1 = [115, 105, 110, 99, 101] ∨ c.1 = [104, 101, 108, 100] ∨ ((c.1 = [119, 105, 116, 104, 105, 110] ∨ c.1 = [116, 104, 114, 111, 117, 103, 104]) ∧ 1 ≤ c.2.2 ∧ c.2.2 ≤ 6)
def CsQ (r : List Cd × Pot) : Prop := (∀ c ∈ r.1, Good c) ∧ PI r.2
theorem conds_ok {p : Pot} {atoms : List Int} {day : Int} (h : PI p) (ha : atoms.length = 3) : Post (m_law_conditions p atoms day) CsQ := by
  unfold m_law_conditions
  refine post_bind (post_getI (by decide) (by omega)) fun r1 _ => ?_
  refine post_bind (post_getI (by decide) (by omega)) fun r2 _ => ?_
  refine post_bindE rfl ?_
  refine post_bindE (catOk_ok (by simp only [List.length_map, rngI_len]; decide)) ?_
  refine post_bindE rfl ?_
  refine post_bindE (catOk_ok (by simp only [List.length_append, List.length_map, rngI_len]; decide)) ?_
  refine post_bindE rfl ?_
  refine post_stp (A := fun (s : List Cd) => s.length ≤ 100 ∧ ∀ c ∈ s, Good c) (post_forA (fun k (s : List Cd) => s.length ≤ 19 + 3 * k ∧ ∀ c ∈ s, Good c) (W := CsQ) ?_ (fun k s x hx hk hs => ?_) fun s hj => ⟨by have := hj.1; simp at this; omega, hj.2⟩) fun s hs => ?_
  · refine ⟨by simp only [List.length_append, List.length_map, rngI_len]; decide, ?_⟩
    intro c hc
    simp only [List.mem_append, List.mem_map, mem_rngI] at hc
    rcases hc with (⟨x, hx, rfl⟩ | ⟨x, hx, rfl⟩) | ⟨x, hx, rfl⟩
    · exact .inr (.inl ⟨rfl, hx.1⟩)
    · exact .inr (.inr (.inr (.inr ⟨.inl rfl, hx.1, by have := hx.2; show x ≤ 6; omega⟩)))
    · exact .inr (.inr (.inr (.inr ⟨.inr rfl, hx.1, by have := hx.2; show x ≤ 6; omega⟩)))
  · have hk2 : k < 2 := by simpa using hk
    refine post_if (fun _ => ?_) fun _ => post_ok ⟨by omega, hs.2⟩
    refine post_bindE (catOk_ok (by simp only [List.length_cons, List.length_nil]; omega)) (post_bindE rfl (post_ok ?_))
    refine ⟨by simp only [List.length_append, List.length_cons, List.length_nil]; omega, ?_⟩
    intro c hc
    rcases List.mem_append.mp hc with hc | hc
    · exact hs.2 c hc
    · have hg : x = [115, 105, 110, 99, 101] ∨ x = [104, 101, 108, 100] := by simpa using hx
      have hcx : c.1 = x := by
        simp only [List.mem_cons, List.not_mem_nil, or_false] at hc
        rcases hc with rfl | rfl | rfl <;> rfl
      rcases hg with e | e
      · exact .inr (.inr (.inl (by rw [hcx, e])))
      · exact .inr (.inr (.inr (.inl (by rw [hcx, e]))))
  · refine post_bind (draw_ok h (by decide) (by decide)) fun r15 q15 => ?_
    obtain ⟨⟨a15, b15⟩, c15⟩ := q15
    refine post_bindE rfl ?_
    refine post_bind (draw_ok c15 (by decide) (by decide)) fun r17 q17 => ?_
    obtain ⟨⟨a17, b17⟩, c17⟩ := q17
    refine post_bindE rfl ?_
    refine post_bind (draw_ok c17 (by omega) (by omega)) fun r19 q19 => ?_
    refine post_bindE (modP_ok (by omega)) (post_bindE (modP_ok (by omega)) ?_)
    refine post_bindE (catOk_ok (by have := hs.1; simp only [List.length_cons, List.length_nil]; omega)) (post_bindE rfl (post_ok ?_))
    refine ⟨?_, q19.2⟩
    intro c hc
    rcases List.mem_append.mp hc with hc | hc
    · exact hs.2 c hc
    · simp only [List.mem_cons, List.not_mem_nil, or_false] at hc
      rcases hc with rfl | rfl | rfl
      · exact .inl ⟨rfl, by decide⟩
      · exact .inl ⟨rfl, by show 0 < 1 + r15.1; omega⟩
      · exact .inl ⟨rfl, by show 0 < 1 + r17.1; omega⟩
/-! back through the rows -/
theorem back {rows : List (List Int)} {k : Nat} {x : List Int} (h : rows.reverse[k]? = some x) : getI rows ((rows.length : Int) - 1 - k) = .ok x := by
  have hk : k < rows.length := by
    have := (List.getElem?_eq_some_iff.mp h).1
    simpa using this
  rw [List.getElem?_reverse hk] at h
  have e : (rows.length : Int) - 1 - k = ((rows.length - 1 - k : Nat) : Int) := by omega
  rw [e]
  exact getI_nat h
def firstR {ω : Type} (o : Nat → List Int → Option ω) : Nat → List (List Int) → Option ω
  | _, [] => none
  | k, x :: t => match o k x with
    | some w => some w
    | none => firstR o (k + 1) t
def stpO {ω : Type} : Option ω → Stp Unit ω
  | some w => .out w
  | none => .go ()
theorem backL {ω : Type} {rows : List (List Int)} {o : Nat → List Int → Option ω} {g : Nat → Int} {f : Unit → Int → Mr (Stp Unit ω)} (hf : ∀ k x, rows.reverse[k]? = some x → f () (g k) = .ok (stpO (o k x))) : ∀ (t u : List (List Int)), rows.reverse = u ++ t → forL ((List.range' u.length t.length).map g) () f = .ok (stpO (firstR o u.length t))
  | [], _, _ => rfl
  | x :: t, u, e => by
    have hx : rows.reverse[u.length]? = some x := by rw [e]; simp
    show forL (g u.length :: (List.range' (u.length + 1) t.length).map g) () f = .ok (stpO (match o u.length x with | some w => some w | none => firstR o (u.length + 1) t))
    unfold forL
    rw [hf _ _ hx]
    cases o u.length x with
    | some w => rfl
    | none =>
      have := backL hf t (u ++ [x]) (by rw [e]; simp)
      rw [List.length_append] at this
      exact this
theorem backF {ω : Type} {rows : List (List Int)} {o : Nat → List Int → Option ω} {g : Nat → Int} {f : Unit → Int → Mr (Stp Unit ω)} (hf : ∀ k x, rows.reverse[k]? = some x → f () (g k) = .ok (stpO (o k x))) : forL ((List.range rows.length).map g) () f = .ok (stpO (firstR o 0 rows.reverse)) := by
  have := backL hf rows.reverse [] rfl
  rw [List.length_reverse] at this
  rw [List.range_eq_range']
  exact this
/-- the last day with the atom, the days turned round -/
def lastR (b : List Int → Bool) : List (List Int) → Int
  | [] => -1
  | x :: t => if b x = true then t.length else lastR b t
def sinceR (b l : List Int → Bool) : List (List Int) → Bool
  | [] => false
  | x :: t => if b x = true then true else if l x = true then sinceR b l t else false
theorem lastR_lt (b : List Int → Bool) : ∀ t, -1 ≤ lastR b t ∧ lastR b t < t.length
  | [] => by simp [lastR]
  | x :: t => by
    have := lastR_lt b t
    unfold lastR
    split <;> simp <;> omega
theorem last_ok {rows : List (List Int)} (hn : rows.length < 2 ^ 40) {a : Int} : m_law_last rows a = .ok (lastR (fun r => r.contains a) rows.reverse) := by
  unfold m_law_last
  rw [rngP_pos (by decide) (by decide) (by omega) (by omega), ok_bind]
  have hr : rngI 0 (rows.length : Int) = (List.range rows.length).map fun (k : Nat) => (k : Int) := by
    unfold rngI
    simp
  rw [hr, backF (o := fun k x => if x.contains a = true then some ((rows.length : Int) - 1 - k) else none) fun k x hx => ?_, ok_bind]
  · have : ∀ t k, k + t.length = rows.length → (firstR (fun k (x : List Int) => if x.contains a = true then some ((rows.length : Int) - 1 - k) else none) k t) = if lastR (fun r => r.contains a) t = -1 then none else some (lastR (fun r => r.contains a) t) := by
      intro t
      induction t with
      | nil => intro k _; rfl
      | cons x t ih =>
        intro k hk
        have hk' : k + (t.length + 1) = rows.length := hk
        unfold firstR lastR
        by_cases hx : x.contains a = true
        · simp only [hx, if_true]
          rw [if_neg (by omega)]
          congr 1
          omega
        · simp only [hx, if_false]
          exact ih (k + 1) (by omega)
    rw [this rows.reverse 0 (by simp)]
    by_cases he : lastR (fun r => r.contains a) rows.reverse = -1
    · rw [if_pos he, he]
      rfl
    · rw [if_neg he]
      rfl
  · rw [back hx, ok_bind]
    by_cases h : x.contains a = true <;> simp only [h, if_true, if_false] <;> rfl
theorem since_first {b l : List Int → Bool} : ∀ t k, firstR (fun _ x => if b x = true then some true else if l x = true then none else some false) k t = none ∧ sinceR b l t = false ∨ firstR (fun _ x => if b x = true then some true else if l x = true then none else some false) k t = some (sinceR b l t) := by
  intro t
  induction t with
  | nil => intro k; exact .inl ⟨rfl, rfl⟩
  | cons x t ih =>
    intro k
    unfold firstR sinceR
    by_cases hb : b x = true
    · simp [hb]
    · by_cases hl : l x = true
      · simp only [hb, hl, if_true, if_false]
        exact ih (k + 1)
      · simp [hb, hl]
theorem rngD_eq {rows : List (List Int)} {day : Int} (hd : (rows.length : Int) = day + 1) : rngD day (-1) = (List.range rows.length).map fun (k : Nat) => (rows.length : Int) - 1 - k := by
  unfold rngD
  have : (day - -1).toNat = rows.length := by omega
  rw [this]
  refine List.map_congr_left fun k _ => ?_
  omega
theorem since_ok {rows : List (List Int)} {day : Int} (hd : (rows.length : Int) = day + 1) (hn : rows.length < 2 ^ 40) {l b : Int} : m_since rows day l b = .ok (sinceR (fun r => r.contains b) (fun r => r.contains l) rows.reverse) := by
  unfold m_since
  rw [rngP_pos (by omega) (by omega) (by decide) (by decide), ok_bind, rngD_eq hd]
  rw [backF (o := fun _ x => if x.contains b = true then some true else if x.contains l = true then none else some false) fun k x hx => ?_, ok_bind]
  · rcases since_first (b := fun r => r.contains b) (l := fun r => r.contains l) rows.reverse 0 with ⟨e1, e2⟩ | e
    · rw [e1, e2]
      rfl
    · rw [e]
      rfl
  · rw [back hx, ok_bind]
    by_cases h : x.contains b = true
    · simp only [h, if_true]
      rfl
    · simp only [h, if_false, ok_bind]
      by_cases h2 : x.contains l = true <;> simp only [h2, if_true, if_false, Bool.not_true, Bool.not_false, Bool.false_eq_true] <;> rfl
theorem held_ok {rows : List (List Int)} {day : Int} (hd : (rows.length : Int) = day + 1) (hn : rows.length < 2 ^ 40) {b e : Int} : m_held rows day b e = .ok (sinceR (fun r => r.contains b) (fun r => !r.contains e) rows.reverse) := by
  unfold m_held
  rw [rngP_pos (by omega) (by omega) (by decide) (by decide), ok_bind, rngD_eq hd]
  rw [backF (o := fun _ x => if x.contains b = true then some true else if (!x.contains e) = true then none else some false) fun k x hx => ?_, ok_bind]
  · rcases since_first (b := fun r => r.contains b) (l := fun r => !r.contains e) rows.reverse 0 with ⟨e1, e2⟩ | e
    · rw [e1, e2]
      rfl
    · rw [e]
      rfl
  · rw [back hx, ok_bind]
    by_cases h : x.contains b = true
    · simp only [h, if_true]
      rfl
    · simp only [h, if_false, ok_bind]
      by_cases h2 : x.contains e = true <;> simp only [h2, if_true, if_false, Bool.not_true, Bool.not_false, Bool.false_eq_true] <;> rfl
theorem truthR {b l : List Int → Bool} : ∀ t : List (List Int), (decide (0 ≤ lastR b t) && ((t.reverse.drop (lastR b t + 1).toNat).map l).all id) = sinceR b l t
  | [] => by simp [lastR, sinceR]
  | x :: t => by
    have ih := truthR (b := b) (l := l) t
    have hlt := lastR_lt b t
    unfold lastR sinceR
    by_cases hb : b x = true
    · rw [if_pos hb, if_pos hb, List.reverse_cons, List.drop_eq_nil_of_le (by simp)]
      simp
    · rw [if_neg hb, if_neg hb, List.reverse_cons, List.drop_append_of_le_length (by simp; omega), List.map_append, List.all_append, ← Bool.and_assoc, ih]
      by_cases hl : l x = true <;> simp [hl]
theorem atom_ok {rows : List (List Int)} {day a : Int} (hd : day < rows.length) : m_atom_holds rows day a = .ok (decide (0 ≤ day) && (rows.getD day.toNat []).contains a) := by
  unfold m_atom_holds
  by_cases h : 0 ≤ day
  · obtain ⟨x, e, g⟩ := getI_of h hd
    simp only [decide_eq_true h, if_true, g, ok_bind, Bool.true_and]
    rw [List.getD_eq_getElem?_getD, e, Option.getD_some]
  · simp [h, ok_bind]
theorem agree {rows : List (List Int)} {day : Int} {c : Cd} (hd : (rows.length : Int) = day + 1) (hn : rows.length < 2 ^ 40) (hc : Good c) : ∃ t, m_law_truth rows day c = .ok t ∧ ∀ w, m_condition_holds rows day (c.1, c.2.1, c.2.2, w) = .ok (decide (t = w)) := by
  have val : ∀ {t}, (∀ w, m_value rows day (c.1, c.2.1, c.2.2, w) = .ok t) → ∀ w, m_condition_holds rows day (c.1, c.2.1, c.2.2, w) = .ok (decide (t = w)) := by
    intro t h w
    unfold m_condition_holds
    rw [h w, ok_bind]
  obtain ⟨k, x, y⟩ := c
  rcases hc with ⟨e, h⟩ | ⟨e, h⟩ | e | e | ⟨e, h1, h2⟩
  · have e' : k = [111, 110] := e
    subst e'
    refine ⟨decide (day % x = y), ?_, val fun w => ?_⟩
    · unfold m_law_truth
      simp only [decide_true, if_true]
      rw [modP_ok h, ok_bind]
    · unfold m_value
      simp only [decide_true, if_true]
      rw [modP_ok h, ok_bind]
  · have e' : k = [97, 116] := e
    subst e'
    have h' : 0 ≤ y := h
    refine ⟨decide (0 ≤ day - y) && (rows.getD (day - y).toNat []).contains x, ?_, val fun w => ?_⟩
    · unfold m_law_truth
      simp only [show decide (([97, 116] : List Nat) = [111, 110]) = false from rfl, Bool.false_eq_true, if_false, decide_true, if_true]
      have := atom_ok (rows := rows) (day := day - y) (a := x) (by omega)
      unfold m_atom_holds at this
      by_cases hy : y ≤ day
      · rw [decide_eq_true (show 0 ≤ day - y by omega)] at this
        simpa [hy, show 0 ≤ day - y by omega] using this
      · simp [hy, show ¬ 0 ≤ day - y by omega, ok_bind]
    · unfold m_value
      simp only [show decide (([97, 116] : List Nat) = [111, 110]) = false from rfl, Bool.false_eq_true, if_false, decide_true, if_true]
      rw [atom_ok (by show day - y < _; omega), ok_bind]
  · have e' : k = [115, 105, 110, 99, 101] := e
    subst e'
    refine ⟨sinceR (fun r => r.contains y) (fun r => r.contains x) rows.reverse, ?_, val fun w => ?_⟩
    · unfold m_law_truth
      rw [if_neg (by simp), if_neg (by simp), if_pos (by simp), last_ok hn, ok_bind]
      rw [cut_from (by have := (lastR_lt (fun r => r.contains y) rows.reverse).1; show 0 ≤ lastR (fun r => r.contains y) rows.reverse + 1; omega)]
      have := truthR (b := fun r => r.contains y) (l := fun r => r.contains x) rows.reverse
      rw [List.reverse_reverse] at this
      exact congrArg Except.ok this
    · unfold m_value
      rw [if_neg (by simp), if_neg (by simp), if_pos (by simp), since_ok hd hn, ok_bind]
  · have e' : k = [104, 101, 108, 100] := e
    subst e'
    refine ⟨sinceR (fun r => r.contains x) (fun r => !r.contains y) rows.reverse, ?_, val fun w => ?_⟩
    · unfold m_law_truth
      rw [if_neg (by simp), if_neg (by simp), if_neg (by simp), if_pos (by simp), last_ok hn, ok_bind]
      rw [cut_from (by have := (lastR_lt (fun r => r.contains x) rows.reverse).1; show 0 ≤ lastR (fun r => r.contains x) rows.reverse + 1; omega)]
      have := truthR (b := fun r => r.contains x) (l := fun r => !r.contains y) rows.reverse
      rw [List.reverse_reverse] at this
      rw [← this]
      refine congrArg Except.ok (congrArg (_ && ·) ?_)
      induction rows.drop (lastR (fun r => r.contains x) rows.reverse + 1).toNat with
      | nil => rfl
      | cons a t ih =>
        simp only [List.map_cons, List.any_cons, List.all_cons, Bool.not_or, ih, id]
    · unfold m_value
      rw [if_neg (by simp), if_neg (by simp), if_neg (by simp), if_pos (by simp), held_ok hd hn, ok_bind]
  · have hk : decide (k = [111, 110]) = false ∧ decide (k = [97, 116]) = false ∧ decide (k = [115, 105, 110, 99, 101]) = false ∧ decide (k = [104, 101, 108, 100]) = false := by
      have e' : k = _ ∨ k = _ := e
      rcases e' with e' | e' <;> subst e' <;> decide
    obtain ⟨k1, k2, k3, k4⟩ := hk
    have h1' : 1 ≤ y := h1
    have h2' : y ≤ 6 := h2
    let fs := (rngI (day - y + 1) (day + 1)).map fun d => decide (0 ≤ d) && (rows.getD d.toNat []).contains x
    have hv : ∀ w, m_value rows day (k, x, y, w) = .ok (if k = [119, 105, 116, 104, 105, 110] then fs.any id else fs.all id) := by
      intro w
      unfold m_value
      simp only [k1, k2, k3, k4, Bool.false_eq_true, if_false, ok_bind]
      rw [rngP_pos (by omega) (by omega) (by omega) (by omega), ok_bind, sizeP_ok (by rw [rngI_len]; omega), ok_bind]
      rw [mapR_ok (g := fun d => decide (0 ≤ d) && (rows.getD d.toNat []).contains x) fun d hd' => ?_, ok_bind]
      · by_cases hw : k = [119, 105, 116, 104, 105, 110] <;> simp [hw, fs]
      · have := mem_rngI.mp hd'
        rw [atom_ok (by omega), ok_bind]
    refine ⟨_, ?_, val fun w => hv w⟩
    unfold m_law_truth
    simp only [k1, k2, k3, k4, Bool.false_eq_true, if_false, ok_bind]
    have hm : ∀ d : Int, 0 ≤ d → d < day + 1 → rows[d.toNat]? = some (rows.getD d.toNat []) := by
      intro d h0 h1
      have : d.toNat < rows.length := by omega
      simp [this]
    have hc : cut rows (some (if day - y + 1 > 0 then day - y + 1 else 0)) none = rows.drop (day - y + 1).toNat := by
      rw [cut_from (by split <;> omega)]
      congr 1
      split <;> omega
    rw [hc]
    have hany : ((rows.drop (day - y + 1).toNat).map fun r => r.contains x).any id = fs.any id := by
      rw [Bool.eq_iff_iff]
      simp only [fs, List.any_map, List.any_eq_true, mem_drop, mem_rngI, Function.comp_apply, id, Bool.and_eq_true, decide_eq_true_eq]
      constructor
      · rintro ⟨r, ⟨i, hi, hr⟩, hp⟩
        have hi2 : i < rows.length := (List.getElem?_eq_some_iff.mp hr).1
        refine ⟨i, ⟨by omega, by omega⟩, by omega, ?_⟩
        rw [Int.toNat_natCast, List.getD_eq_getElem?_getD, hr]
        exact hp
      · rintro ⟨d, ⟨d1, d2⟩, d0, hp⟩
        exact ⟨_, ⟨d.toNat, by omega, hm d d0 d2⟩, hp⟩
    have hall : (decide (0 ≤ day - y + 1) && ((rows.drop (day - y + 1).toNat).map fun r => r.contains x).all id) = fs.all id := by
      rw [Bool.eq_iff_iff]
      simp only [fs, List.all_map, List.all_eq_true, mem_drop, mem_rngI, Function.comp_apply, id, Bool.and_eq_true, decide_eq_true_eq]
      constructor
      · rintro ⟨h0, hp⟩ d ⟨d1, d2⟩
        have d0 : 0 ≤ d := by omega
        exact ⟨d0, hp _ ⟨d.toNat, by omega, hm d d0 d2⟩⟩
      · intro hp
        refine ⟨(hp (day - y + 1) ⟨by omega, by omega⟩).1, ?_⟩
        rintro r ⟨i, hi, hr⟩
        have hi2 : i < rows.length := (List.getElem?_eq_some_iff.mp hr).1
        have := (hp i ⟨by omega, by omega⟩).2
        rw [Int.toNat_natCast, List.getD_eq_getElem?_getD, hr] at this
        exact this
    rw [← hany, ← hall]
    by_cases hw : k = [119, 105, 116, 104, 105, 110] <;> simp [hw]
theorem law_true (ns : List Int) (hl : ns.length ≤ 63) : m_law ns = .ok true := by
  have : Post (m_law ns) (· = true) := by
    unfold m_law
    refine post_bind (pot_ok ns) fun r1 q1 => ?_
    refine post_bind (post_mapS (I := PI) (B := fun _ => True) q1 fun s x _ hs => post_bind (draw_ok hs (by decide) (by decide)) fun r q => post_ok ⟨trivial, q.2⟩) fun r6 q6 => ?_
    have l6 : r6.1.length = 3 := by rw [q6.1]; rfl
    refine post_bind (rows_ok q6.2.2 l6) fun r10 q10 => ?_
    obtain ⟨⟨a10, b10⟩, c10⟩ := q10
    refine post_bind (draw_ok c10 (by omega) (by omega)) fun r11 q11 => ?_
    refine post_bind (draw_ok q11.2 (by omega) (by omega)) fun r12 q12 => ?_
    obtain ⟨⟨a11, b11⟩, c11⟩ := q11
    obtain ⟨⟨a12, b12⟩, c12⟩ := q12
    refine post_bindE rfl ?_
    refine post_stp (A := PI) (post_forI c12 fun s day hday hs => ?_) fun s _ => post_ok rfl
    have hd : 0 ≤ day ∧ day < r10.1.length := by
      simp only [List.mem_cons, List.not_mem_nil, or_false] at hday
      rcases hday with rfl | rfl | rfl | rfl
      · exact ⟨by decide, by omega⟩
      · exact ⟨by omega, by omega⟩
      · exact ⟨a11, b11⟩
      · exact ⟨a12, b12⟩
    refine post_bindE rfl ?_
    have hl : ((cut r10.1 none (some (day + 1))).length : Int) = day + 1 := by
      rw [cut_to (by omega), List.length_take]
      omega
    refine post_bind (conds_ok hs l6) fun r17 q17 => ?_
    refine post_stp (A := fun _ => True) (post_forI trivial fun s c hc _ => ?_) fun s _ => ?_
    · obtain ⟨t, e, g⟩ := agree hl (by omega) (q17.1 c hc)
      refine post_bindE e ?_
      refine post_stp (A := fun _ => True) (post_forI trivial fun s w hw _ => ?_) fun s _ => post_ok trivial
      refine post_bindE (g w) ?_
      simp only [decide_true, Bool.not_true, Bool.or_false, Bool.false_eq_true, if_false]
      exact post_ok trivial
    · simp only [beq_self_eq_true, Bool.not_true, Bool.false_eq_true, if_false]
      exact post_ok q17.2
  obtain ⟨a, e, rfl⟩ := this
  exact e
end K10

namespace K10
open PySem PySem.Spec PyProof.Rows L2 TL
def top (i : Nat) : Stmt := PySem.Challenge.pw_rulewheel_k10_condition_meaning.main.body.getD i (.Pass ⟨0, 0, 0, 0⟩)
abbrev mv_Pot (p : Pot) : MV := mL [tv (rSq .l rInt) p.cells, tv rInt p.at_, tv rInt p.cell, tv rInt p.left, tv rInt p.seed, tv rInt p.turns]
def d0 : He.DefD := ⟨("_law_pot", none), "_law_pot", "_law_pot", defArgs (top 7), defBody (top 7), defScope (top 7), [], []⟩
def d1 : He.DefD := ⟨("_law_draw", none), "_law_draw", "_law_draw", defArgs (top 8), defBody (top 8), defScope (top 8), [], []⟩
def d2 : He.DefD := ⟨("_law_row", none), "_law_row", "_law_row", defArgs (top 9), defBody (top 9), defScope (top 9), [], []⟩
def d3 : He.DefD := ⟨("_law_rows", none), "_law_rows", "_law_rows", defArgs (top 10), defBody (top 10), defScope (top 10), [], []⟩
def d4 : He.DefD := ⟨("_law_conditions", none), "_law_conditions", "_law_conditions", defArgs (top 11), defBody (top 11), defScope (top 11), [], []⟩
def d5 : He.DefD := ⟨("_law_last", none), "_law_last", "_law_last", defArgs (top 12), defBody (top 12), defScope (top 12), [], []⟩
def d6 : He.DefD := ⟨("_law_truth", none), "_law_truth", "_law_truth", defArgs (top 13), defBody (top 13), defScope (top 13), [], []⟩
def d7 : He.DefD := ⟨("_atom_holds", none), "_atom_holds", "_atom_holds", defArgs (top 3), defBody (top 3), defScope (top 3), [], []⟩
def d8 : He.DefD := ⟨("_since", none), "_since", "_since", defArgs (top 4), defBody (top 4), defScope (top 4), [], []⟩
def d9 : He.DefD := ⟨("_held", none), "_held", "_held", defArgs (top 5), defBody (top 5), defScope (top 5), [], []⟩
def d10 : He.DefD := ⟨("_value", none), "_value", "_value", defArgs (top 2), defBody (top 2), defScope (top 2), [], []⟩
def d11 : He.DefD := ⟨("condition_holds", none), "condition_holds", "condition_holds", defArgs (top 1), defBody (top 1), defScope (top 1), [], []⟩
def d12 : He.DefD := ⟨("law", none), "law", "law", defArgs (top 14), defBody (top 14), defScope (top 14), [], []⟩
def fa : List He.Fa := [.free "int", .free "abs", .free "range", .free "len", .free "tuple", .free "sorted", .free "list", .free "all", .free "any", .free "max", .free "bool", .free "isinstance", .glo "_law_pot", .glo "_law_draw", .glo "_law_row", .glo "_law_rows", .glo "_law_conditions", .glo "_law_last", .glo "_law_truth", .glo "_atom_holds", .glo "_since", .glo "_held", .glo "_value", .glo "condition_holds", .glo "law"]
def fn : List He.DefD := [d0, d1, d2, d3, d4, d5, d6, d7, d8, d9, d10, d11, d12]
abbrev st__law_pot : Stmt := top 7
abbrev NN__law_pot : List Str := ["script", "cells", "seed", "cell"]
theorem sc__law_pot : FnScope NN__law_pot ["script"] (defScope st__law_pot) := ⟨rfl, rfl, rfl, by decide +kernel, rfl, by decide +kernel, by decide +kernel⟩
abbrev F_law_pot : FS (List Int) (Pot) where
  ins := fun x => [.val (tv (rSq .q rInt) x)]
  cells := fun x => []
  m := fun x => m_law_pot x
  out := fun x w => .rf (mv_Pot w) []
section
variable {P : Program} {w : World} {K : PySem.W.Frag} {mg : Str → Option Value} {base : Heap}
set_option maxHeartbeats 4000000 in
theorem fn__law_pot {fd : FuncData} (T : Txt fa fn K mg) (F : FunD K d0.name d0.qual d0.params d0.body d0.scope (d0.dvs K) (d0.kws K) (He.fAd K d0.at_) fd) : FnOk P w K mg base CX0 1 (He.ga K "_law_pot") fd ["script"] (spT K F_law_pot) := by
  have sc := sc__law_pot
  refine F.ok sc (sp_len fun _ => rfl) (fun cdv A outer s H vs Q E hr h => ?_)
  refine ⟨_, PSs.nox (pss_cons (ps_setLc (i := 1) (own := [("cell", 3)]) (g := _) (tt := _) rfl sc.nd rfl rfl (sw_true rfl rfl rfl (by decide +kernel)) (kPiL (K := K) (pe_slice (kSlL (K := K)) (pv 0) po_none (po_some pe_int))) (blkOk_by (N := NN__law_pot) (sc := defScope st__law_pot) (by decide +kernel)) (fun _ _ _ _ _ => (pg_name (i := 3) sc.nd rfl (Or.inl rfl))) (fun _ _ _ _ _ => pts_nil) (fun _ _ _ _ _ => (pe_op op_mod (pe_callB call_abs (by rfl) (T.free 1) (by decide +kernel) (pa_cons (pe_callTy call_int1 (by rfl) (T.free 0) (by decide +kernel) (pa_cons (pv 3) pa_nil)) pa_nil)) (pe_op op_powW (pe_op op_powW pe_int pe_int) pe_int)))) (pss_cons (ps_set (i := 2) sc.nd rfl (Or.inl rfl) pe_int) (pss_cons (ps_for PassesOwn.never rfl (kPiL (K := K) (pv 1)) (pg_name (i := 3) sc.nd rfl (Or.inl rfl)) (pss_cons (ps_set (i := 2) sc.nd rfl (Or.inl rfl) (pe_op op_mod (pe_callTy call_int1 (by rfl) (T.free 0) (by decide +kernel) (pa_cons (pe_op op_add (pe_op op_add (pe_op op_mul (pv 2) pe_int) (pv 3)) pe_int) pa_nil)) pe_int)) pss_nil)) (pss_cons (ps_ret (pe_lst (pa_cons (pv 1) (pa_cons pe_int (pa_cons pe_int (pa_cons pe_int (pa_cons (pv 2) (pa_cons pe_int pa_nil)))))))) pss_nil)))), ?_⟩
  refine sp_body h fun script => ?_
  show EvB K 0 _ [some (.val (tv (rSq .q rInt) script)), none, none, none] [] (fun (w : Pot) => OS.rf (mv_Pot w) []) (m_law_pot script)
  unfold m_law_pot
  exact (eb_bind fun cells2 h2 => (eb_asg (ev_lstR (oeF (R := rInt) h2 (ef_map (R' := rInt) (ei_L (ev_lstR (ef_slR (ev_var rfl) eo_none (eo_some ev_int) is_seq))) (fun z => hz_map z) trivial (fun _ => ego_name) (fun x1 => (ev_op (ev_cb1 (ev_cb1 (ev_var rfl) rc_int) rc_abs) (ev_as (s' := vI (((10 : Int) ^ 60) ^ 4)) (ev_op (ev_as (s' := vI ((10 : Int) ^ 60)) (ev_op ev_int ev_int (rv_pow ⟨by decide, by decide +kernel⟩)) rfl) ev_int (rv_pow ⟨by decide, by decide +kernel⟩)) rfl) (rv_mod (by decide)))))))
(eb_bind fun seed3 h3 => (eb_asg (oeV h3 ev_int)
(eb_for (g := fun (s4 : Int) => [some (.val (tv (rSq .q rInt) script)), some (.val (tv (rSq .l rInt) cells2)), some (.val (tv rInt s4)), none]) (mu := fun (s4 : Int) => []) (ei_L (ev_var rfl)) (fun _ => trivial) (.keep (.keep (.keep (.keep .nil)))) (fun _ => rfl) (fun _ _ => eg_name)
(fun s4 x5 => (eb_bind fun seed6 h6 => (eb_asg (oeV h6 (ev_op (ev_cb1 (ev_op (ev_op (ev_op (ev_var rfl) ev_int (rv_mulC (.inr ⟨by decide, by decide⟩))) (ev_var rfl) rv_add) ev_int rv_add) rc_int) ev_int (rv_mod (by decide))))
(eb_nil rfl (.keep (.keep (.keep (.drop .nil)))) rfl (Nat.le_of_ble_eq_true rfl) rfl))))
(fun s4 => (eb_retF (ef_lst (ts := [tv (rSq .l rInt) cells2, tv rInt (0 : Int), tv rInt (0 : Int), tv rInt (0 : Int), tv rInt s4, tv rInt (0 : Int)]) (ea_cons (ev_var rfl) (ea_cons ev_int (ea_cons ev_int (ea_cons ev_int (ea_cons (ev_var rfl) (ea_cons ev_int ea_nil))))))) rfl rfl)))))))
theorem ok__law_pot (T : Txt fa fn K mg) : OkF P w K mg base "_law_pot" ["script"] 1 (spT K F_law_pot) := by
  obtain ⟨fd, F⟩ := T.c.def_ 0 rfl
  exact ⟨fd, fn__law_pot T F, FunD.bindsN F fun _ _ _ _ _ _ us hl => match us, hl with | [_], _ => rfl, F.kp, T.glob 12 rfl⟩
end
abbrev st__law_draw : Stmt := top 8
abbrev NN__law_draw : List Str := ["pot", "size", "number", "cells", "cell", "digit"]
theorem sc__law_draw : FnScope NN__law_draw ["pot", "size"] (defScope st__law_draw) := ⟨rfl, rfl, rfl, by decide +kernel, rfl, by decide +kernel, by decide +kernel⟩
abbrev F_law_draw : FS (Pot × Int) (Int × Pot) where
  ins := fun x => [.cell 0, .val (tv rInt x.2)]
  cells := fun x => [some (mv_Pot x.1)]
  m := fun x => m_law_draw x.1 x.2
  out := fun x w => .rt (tv rInt w.1) [some (mv_Pot w.2)]
section
variable {P : Program} {w : World} {K : PySem.W.Frag} {mg : Str → Option Value} {base : Heap}
set_option maxHeartbeats 4000000 in
theorem fn__law_draw {fd : FuncData} (T : Txt fa fn K mg) (F : FunD K d1.name d1.qual d1.params d1.body d1.scope (d1.dvs K) (d1.kws K) (He.fAd K d1.at_) fd) : FnOk P w K mg base CX0 1 (He.ga K "_law_draw") fd ["pot", "size"] (spT K F_law_draw) := by
  have sc := sc__law_draw
  refine F.ok sc (sp_len fun _ => rfl) (fun cdv A outer s H vs Q E hr h => ?_)
  refine ⟨_, PSs.nox (pss_cons (ps_asg (pe_op op_add (pe_ix (kIxL (K := K)) (pv 0) pe_int (fun _ _ => rfl)) pe_int) (pg_sub (pv 0) pe_int set_list)) (pss_cons (ps_if (PW.pt (pw_and (pt_cmpR op_eq (pe_ix (kIxL (K := K)) (pv 0) pe_int (fun _ _ => rfl)) pe_int (nomark _)) (pw_and1 (pt_cmpR op_lt (pe_ix (kIxL (K := K)) (pv 0) pe_int (fun _ _ => rfl)) (pe_callB (kLen (K := K)) (by rfl) (T.free 3) (by decide +kernel) (pa_cons (pe_ix (kIxL (K := K)) (pv 0) pe_int (fun _ _ => rfl)) pa_nil)) (nomark _))))) (pss_cons (ps_set (i := 3) sc.nd rfl (Or.inl rfl) (pe_ix (kIxL (K := K)) (pv 0) pe_int (fun _ _ => rfl))) (pss_cons (ps_set (i := 4) sc.nd rfl (Or.inl rfl) (pe_ix (kIxL (K := K)) (pv 3) (pe_ix (kIxL (K := K)) (pv 0) pe_int (fun _ _ => rfl)) (fun _ _ => rfl))) (pss_cons (ps_asg (pe_op op_add (pe_ix (kIxL (K := K)) (pv 0) pe_int (fun _ _ => rfl)) pe_int) (pg_sub (pv 0) pe_int set_list)) (pss_cons (ps_asg pe_int (pg_sub (pv 0) pe_int set_list)) (pss_cons (ps_asg pe_int (pg_sub (pv 0) pe_int set_list)) (pss_cons (ps_if (pt_cmpR op_ge (pv 4) (pe_op op_powW pe_int pe_int) (nomark _)) (pss_cons (ps_asg (pv 4) (pg_sub (pv 0) pe_int set_list)) (pss_cons (ps_asg pe_int (pg_sub (pv 0) pe_int set_list)) pss_nil)) (pss_cons (ps_asg (pe_op op_mod (pe_callTy call_int1 (by rfl) (T.free 0) (by decide +kernel) (pa_cons (pe_op op_add (pe_op op_mul (pe_ix (kIxL (K := K)) (pv 0) pe_int (fun _ _ => rfl)) pe_int) (pv 4)) pa_nil)) pe_int) (pg_sub (pv 0) pe_int set_list)) pss_nil)) pss_nil)))))) pss_nil) (pss_cons (ps_if (pt_cmpR op_gt (pe_ix (kIxL (K := K)) (pv 0) pe_int (fun _ _ => rfl)) pe_int (nomark _)) (pss_cons (ps_asg (pe_op op_sub (pe_ix (kIxL (K := K)) (pv 0) pe_int (fun _ _ => rfl)) pe_int) (pg_sub (pv 0) pe_int set_list)) (pss_cons (ps_if (pt_cmpR op_gt (pe_ix (kIxL (K := K)) (pv 0) pe_int (fun _ _ => rfl)) pe_int (nomark _)) (pss_cons (ps_set (i := 5) sc.nd rfl (Or.inl rfl) (pe_op op_mod (pe_callTy call_int1 (by rfl) (T.free 0) (by decide +kernel) (pa_cons (pe_ix (kIxL (K := K)) (pv 0) pe_int (fun _ _ => rfl)) pa_nil)) (pv 1))) (pss_cons (ps_asg (pe_op op_fdivW (pe_ix (kIxL (K := K)) (pv 0) pe_int (fun _ _ => rfl)) (pv 1)) (pg_sub (pv 0) pe_int set_list)) (pss_cons (ps_if (pt_cmpR op_eq (pe_ix (kIxL (K := K)) (pv 0) pe_int (fun _ _ => rfl)) pe_int (nomark _)) (pss_cons (ps_asg pe_int (pg_sub (pv 0) pe_int set_list)) pss_nil) pss_nil) (pss_cons (ps_ret (pv 5)) pss_nil)))) pss_nil) pss_nil)) pss_nil) (pss_cons (ps_set (i := 2) sc.nd rfl (Or.inl rfl) (pe_op op_mod (pe_callTy call_int1 (by rfl) (T.free 0) (by decide +kernel) (pa_cons (pe_op op_add (pe_ix (kIxL (K := K)) (pv 0) pe_int (fun _ _ => rfl)) (pe_op op_mul (pe_ix (kIxL (K := K)) (pv 0) pe_int (fun _ _ => rfl)) pe_int)) pa_nil)) pe_int)) (pss_cons (ps_set (i := 2) sc.nd rfl (Or.inl rfl) (pe_op op_mod (pe_callTy call_int1 (by rfl) (T.free 0) (by decide +kernel) (pa_cons (pe_op op_add (pe_op op_add (pe_op op_mulX (pv 2) (pv 2)) (pe_op op_mul (pv 2) pe_int)) (pe_ix (kIxL (K := K)) (pv 0) pe_int (fun _ _ => rfl))) pa_nil)) pe_int)) (pss_cons (ps_set (i := 2) sc.nd rfl (Or.inl rfl) (pe_op op_mod (pe_callTy call_int1 (by rfl) (T.free 0) (by decide +kernel) (pa_cons (pe_op op_add (pe_op op_add (pe_op op_mulX (pv 2) (pv 2)) (pe_op op_mul (pv 2) pe_int)) pe_int) pa_nil)) pe_int)) (pss_cons (ps_ret (pe_op op_mod (pe_callTy call_int1 (by rfl) (T.free 0) (by decide +kernel) (pa_cons (pe_op op_fdivW (pv 2) pe_int) pa_nil)) (pv 1))) pss_nil))))))), ?_⟩
  refine sp_body h fun x => ?_
  obtain ⟨pot, size⟩ := x
  show EvB K 1 _ [some (.cell 0), some (.val (tv rInt size)), none, none, none, none] [some (mv_Pot pot)] (fun (w : Int × Pot) => OS.rt (tv rInt w.1) [some (mv_Pot w.2)]) (m_law_draw pot size)
  unfold m_law_draw
  exact (eb_setC (j := 5) (ev_op (ev_op (ev_var rfl) ev_int (rv_ixL (is_cell rfl) rfl)) ev_int rv_add) (ev_var rfl) ev_int rfl rfl
(eb_ifj (g := fun (s2 : Pot) => [some (.cell 0), some (.val (tv rInt size)), none, none, none, none]) (mu := fun (s2 : Pot) => [some (mv_Pot s2)]) (et_and0 (et_test (ev_op (ev_op (ev_var rfl) ev_int (rv_ixL (is_cell rfl) rfl)) ev_int rv_eqI)) (et_test (ev_op (ev_op (ev_var rfl) ev_int (rv_ixL (is_cell rfl) rfl)) (ev_cb1 (ev_op (ev_var rfl) ev_int (rv_ixL (is_cell rfl) rfl)) (rc_lenL is_seq)) rv_lt))) (fun _ => (eb_asg (ev_op (ev_var rfl) ev_int (rv_ixL (is_cell rfl) rfl))
(eb_bind fun r1 h1 => (eb_asg (ev_op (ev_var rfl) (ev_op (ev_var rfl) ev_int (rv_ixL (is_cell rfl) rfl)) (rv_ixL is_seq (at_map h1)))
(eb_setC (j := 1) (ev_op (ev_op (ev_var rfl) ev_int (rv_ixL (is_cell rfl) rfl)) ev_int rv_add) (ev_var rfl) ev_int rfl rfl
(eb_setC (j := 2) ev_int (ev_var rfl) ev_int rfl rfl
(eb_setC (j := 3) ev_int (ev_var rfl) ev_int rfl rfl
(eb_ifl (et_test (ev_op (ev_var rfl) (ev_as (s' := vI ((10 : Int) ^ 18)) (ev_op ev_int ev_int (rv_pow ⟨by decide, by decide +kernel⟩)) rfl) rv_ge)) (fun _ => (eb_setC (j := 2) (ev_var rfl) (ev_var rfl) ev_int rfl rfl
(eb_setC (j := 3) ev_int (ev_var rfl) ev_int rfl rfl
(eb_nil rfl (.keep (.keep (.keep (.drop (.drop (.keep .nil)))))) rfl (Nat.le_of_ble_eq_true rfl) rfl))))
(fun _ => (eb_setC (j := 4) (ev_op (ev_cb1 (ev_op (ev_op (ev_op (ev_var rfl) ev_int (rv_ixL (is_cell rfl) rfl)) ev_int (rv_mulC (.inr ⟨by decide, by decide⟩))) (ev_var rfl) rv_add) rc_int) ev_int (rv_mod (by decide))) (ev_var rfl) ev_int rfl rfl
(eb_nil rfl (.keep (.keep (.keep (.drop (.drop (.keep .nil)))))) rfl (Nat.le_of_ble_eq_true rfl) rfl)))))))))))
(fun _ => (eb_nil rfl (.keep (.keep (.keep (.keep (.keep (.keep .nil)))))) rfl (Nat.le_of_ble_eq_true rfl) rfl)) (fun _ => Nat.le_of_ble_eq_true rfl)
(fun s2 => (eb_ifj (g := fun (s6 : Pot) => [some (.cell 0), some (.val (tv rInt size)), none, none, none, none]) (mu := fun (s6 : Pot) => [some (mv_Pot s6)]) (et_test (ev_op (ev_op (ev_var rfl) ev_int (rv_ixL (is_cell rfl) rfl)) ev_int rv_gt)) (fun _ => (eb_setC (j := 3) (ev_op (ev_op (ev_var rfl) ev_int (rv_ixL (is_cell rfl) rfl)) ev_int rv_sub) (ev_var rfl) ev_int rfl rfl
(eb_ifl (et_test (ev_op (ev_op (ev_var rfl) ev_int (rv_ixL (is_cell rfl) rfl)) ev_int rv_gt)) (fun _ => (eb_bind fun r3 h3 => (eb_asg (ev_op (ev_cb1 (ev_op (ev_var rfl) ev_int (rv_ixL (is_cell rfl) rfl)) rc_int) (ev_var rfl) (rv_modP h3))
(eb_bind fun r4 h4 => (eb_setC (j := 2) (ev_op (ev_op (ev_var rfl) ev_int (rv_ixL (is_cell rfl) rfl)) (ev_var rfl) (rv_fdivP h4)) (ev_var rfl) ev_int rfl rfl
(eb_ifj (g := fun (s5 : Pot) => [some (.cell 0), some (.val (tv rInt size)), none, none, none, some (.val (tv rInt r3))]) (mu := fun (s5 : Pot) => [some (mv_Pot s5)]) (et_test (ev_op (ev_op (ev_var rfl) ev_int (rv_ixL (is_cell rfl) rfl)) ev_int rv_eqI)) (fun _ => (eb_setC (j := 3) ev_int (ev_var rfl) ev_int rfl rfl
(eb_nil rfl (.keep (.keep (.keep (.keep (.keep (.keep .nil)))))) rfl (Nat.le_of_ble_eq_true rfl) rfl)))
(fun _ => (eb_nil rfl (.keep (.keep (.keep (.keep (.keep (.keep .nil)))))) rfl (Nat.le_of_ble_eq_true rfl) rfl)) (fun _ => Nat.le_of_ble_eq_true rfl)
(fun s5 => (eb_ret (ev_var rfl) rfl rfl))))))))
(fun _ => (eb_nil rfl (.keep (.keep (.keep (.keep (.keep (.keep .nil)))))) rfl (Nat.le_of_ble_eq_true rfl) rfl)))))
(fun _ => (eb_nil rfl (.keep (.keep (.keep (.keep (.keep (.keep .nil)))))) rfl (Nat.le_of_ble_eq_true rfl) rfl)) (fun _ => Nat.le_of_ble_eq_true rfl)
(fun s6 => (eb_bind fun number7 h7 => (eb_asg (oeV h7 (ev_op (ev_cb1 (ev_op (ev_op (ev_var rfl) ev_int (rv_ixL (is_cell rfl) rfl)) (ev_op (ev_op (ev_var rfl) ev_int (rv_ixL (is_cell rfl) rfl)) ev_int (rv_mulC (.inr ⟨by decide, by decide⟩))) rv_add) rc_int) ev_int (rv_mod (by decide))))
(eb_bind fun r8 h8 => eb_bind fun number9 h9 => (eb_asg (oeV h9 (ev_op (ev_cb1 (ev_op (ev_op (ev_op (ev_var rfl) (ev_var rfl) (rv_mulP h8)) (ev_op (ev_var rfl) ev_int (rv_mulC (.inr ⟨by decide, by decide⟩))) rv_add) (ev_op (ev_var rfl) ev_int (rv_ixL (is_cell rfl) rfl)) rv_add) rc_int) ev_int (rv_mod (by decide))))
(eb_bind fun r10 h10 => eb_bind fun number11 h11 => (eb_asg (oeV h11 (ev_op (ev_cb1 (ev_op (ev_op (ev_op (ev_var rfl) (ev_var rfl) (rv_mulP h10)) (ev_op (ev_var rfl) ev_int (rv_mulC (.inr ⟨by decide, by decide⟩))) rv_add) ev_int rv_add) rc_int) ev_int (rv_mod (by decide))))
(eb_bind fun r12 h12 => (eb_ret (ev_op (ev_cb1 (ev_op (ev_var rfl) ev_int (rv_fdiv ⟨by decide, by decide +kernel⟩)) rc_int) (ev_var rfl) (rv_modP h12)) rfl rfl)))))))))))))
theorem ok__law_draw (T : Txt fa fn K mg) : OkF P w K mg base "_law_draw" ["pot", "size"] 1 (spT K F_law_draw) := by
  obtain ⟨fd, F⟩ := T.c.def_ 1 rfl
  exact ⟨fd, fn__law_draw T F, FunD.bindsN F fun _ _ _ _ _ _ us hl => match us, hl with | [_, _], _ => rfl, F.kp, T.glob 13 rfl⟩
end
abbrev st__law_row : Stmt := top 9
abbrev NN__law_row : List Str := ["pot", "atoms", "way", "found", "k", "atom"]
theorem sc__law_row : FnScope NN__law_row ["pot", "atoms"] (defScope st__law_row) := ⟨rfl, rfl, rfl, by decide +kernel, rfl, by decide +kernel, by decide +kernel⟩
abbrev F_law_row : FS (Pot × (List Int)) ((List Int) × Pot) where
  ins := fun x => [.cell 0, .val (tv (rSq .l rInt) x.2)]
  cells := fun x => [some (mv_Pot x.1)]
  m := fun x => m_law_row x.1 x.2
  out := fun x w => .rt (tv (rSq .t rInt) w.1) [some (mv_Pot w.2)]
section
variable {P : Program} {w : World} {K : PySem.W.Frag} {mg : Str → Option Value} {base : Heap}
set_option maxHeartbeats 4000000 in
theorem fn__law_row {fd : FuncData} (T : Txt fa fn K mg) (F : FunD K d2.name d2.qual d2.params d2.body d2.scope (d2.dvs K) (d2.kws K) (He.fAd K d2.at_) fd) : FnOk P w K mg base CX0 2 (He.ga K "_law_row") fd ["pot", "atoms"] (spT K F_law_row) := by
  have sc := sc__law_row
  obtain ⟨fd0, G0, b0, k0, g0⟩ := ok__law_draw (P := P) (w := w) (base := base) T
  refine F.ok sc (sp_len fun _ => rfl) (fun cdv A outer s H vs Q E hr h => ?_)
  refine ⟨_, PSs.nox (pss_cons (ps_set (i := 2) sc.nd rfl (Or.inl rfl) (pe_call G0 (hr.mono (by decide)) rfl g0 k0 b0 .nil pass0 (pa_cons (pv 0) (pa_cons pe_int pa_nil)))) (pss_cons (ps_if (pt_cmpR op_eq (pv 2) pe_int (nomark _)) (pss_cons (ps_ret (pe_tupRg rfl rfl (T.free 4) (prg_1 rfl (T.free 2) pe_int))) pss_nil) pss_nil) (pss_cons (ps_if (pt_cmpR op_eq (pv 2) pe_int (nomark _)) (pss_cons (ps_ret (pe_callTy (kTupleOf (K := K)) (by rfl) (T.free 4) (by decide +kernel) (pa_cons (pe_lc (own := [("atom", 5)]) (g := _) (tt := _) rfl sc.nd (pi_range1 rfl (T.free 2) (pa_cons pe_int pa_nil)) (blkOk_by (N := NN__law_row) (sc := defScope st__law_row) (by decide +kernel)) (fun _ _ _ _ _ => (pg_name (i := 5) sc.nd rfl (Or.inl rfl))) (fun _ _ _ _ _ => pts_one (pt_cmpR op_ne (pv 5) (pe_ix (kIxL (K := K)) (pv 1) pe_int (fun _ _ => rfl)) (nomark _))) (fun _ _ _ _ _ => (pv 5))) pa_nil))) pss_nil) pss_nil) (pss_cons (ps_set (i := 3) sc.nd rfl (Or.inl rfl) (pe_lst pa_nil)) (pss_cons (ps_for PassesOwn.never rfl (pi_range1 rfl (T.free 2) (pa_cons pe_int pa_nil)) (pg_name (i := 4) sc.nd rfl (Or.inl rfl)) (pss_cons (ps_if (PW.pt (pw_and (pt_cmpR op_eq (pe_op op_mod (pe_callTy call_int1 (by rfl) (T.free 0) (by decide +kernel) (pa_cons (pe_op op_shr (pv 2) (pv 4)) pa_nil)) pe_int) pe_int (nomark _)) (pw_and1 (pt_cmpR (kNotIn (K := K)) (pe_ix (kIxL (K := K)) (pv 1) (pv 4) (fun _ _ => rfl)) (pv 3) (by rfl))))) (pss_cons (ps_expr (pe_bm PySem.F.plainAttrs_list PySem.F.slot_list_append PySem.F.type_list_append mt_append (pv 3) (pa_cons (pe_ix (kIxL (K := K)) (pv 1) (pv 4) (fun _ _ => rfl)) pa_nil))) pss_nil) pss_nil) pss_nil)) (pss_cons (ps_ret (pe_callTy (kTupleOf (K := K)) (by rfl) (T.free 4) (by decide +kernel) (pa_cons (pe_callB (kSorted (K := K)) (by rfl) (T.free 5) (by decide +kernel) (pa_cons (pv 3) pa_nil)) pa_nil))) pss_nil)))))), ?_⟩
  refine sp_body h fun x => ?_
  obtain ⟨pot, atoms⟩ := x
  show EvB K 1 _ [some (.cell 0), some (.val (tv (rSq .l rInt) atoms)), none, none, none, none] [some (mv_Pot pot)] (fun (w : (List Int) × Pot) => OS.rt (tv (rSq .t rInt) w.1) [some (mv_Pot w.2)]) (m_law_row pot atoms)
  unfold m_law_row
  exact (eb_bind fun r1 h1 => (eb_asg (ev_call1 (k := 0) (x := (pot, (10 : Int))) (ea_cons (ev_var rfl) (ea_cons ev_int ea_nil)) rfl (hm := h1))
(eb_ifr (et_test (ev_op (ev_var rfl) ev_int rv_eqI)) (fun _ => (eb_ret (ev_tupRg1 ev_int (RgOk.of_le (by decide) (by decide) (by decide) (by decide))) rfl rfl))
(fun _ => (eb_ifr (et_test (ev_op (ev_var rfl) ev_int rv_eqI)) (fun _ => eb_bind fun r4 h4 => (eb_ret (ev_cb1 (ev_lstR (ef_filR (R' := rInt) (ei_rng1 (ea_cons ev_int ea_nil) ⟨by decide, by decide⟩) (fun _ => hz_ble (by decide +kernel)) trivial (fun _ => ego_name) (fun x2 o6 e5 => bo e5 fun r3 h3 e5 => filIf e5 (et_test (ev_op (ev_var rfl) (ev_op (ev_var rfl) ev_int (rv_ixL is_seq (at_map h3))) rv_neI)) (fun e5 => oeO e5 (ev_var rfl))) h4)) (rc_tupLR is_seq)) rfl rfl))
(fun _ => (eb_bind fun found7 h7 => (eb_asg (ev_own (oeF (R := rInt) h7 (ef_mkL (R := rInt) (xs := ([] : List Int)) ea_nil)))
(eb_for (g := fun (s8 : List Int) => [some (.cell 0), some (.val (tv (rSq .l rInt) atoms)), some (.val (tv rInt r1.1)), some (.cell 1), none, none]) (mu := fun (s8 : List Int) => [some (mv_Pot r1.2), some (mL (s8.map (tv rInt)))]) (ei_rng1 (ea_cons ev_int ea_nil) ⟨by decide, by decide⟩) (fun _ => trivial) (.keep (.keep (.keep (.keep (.keep (.keep .nil)))))) (fun _ => rfl) (fun _ _ => eg_name)
(fun s8 x9 => (eb_bind fun r10 h10 => eb_bind fun r12 h12 => (eb_ifl (et_andM (et_test (ev_op (ev_op (ev_cb1 (ev_op (ev_var rfl) (ev_var rfl) (rv_shrP h10)) rc_int) ev_int (rv_mod (by decide))) ev_int rv_eqI)) h12 (fun _ e13 => bo e13 fun r11 h11 e13 => oeT e13 (et_test (ev_op (ev_op (ev_var rfl) (ev_var rfl) (rv_ixL is_seq (at_map h11))) (ev_var rfl) (rv_nin flat_int (is_cell rfl)))))) (fun _ => (eb_bind fun r14 h14 => eb_bind fun r15 h15 => (eb_appL (ev_var rfl) rfl (ev_op (ev_var rfl) (ev_var rfl) (rv_ixL is_seq (at_map h14))) rfl h15
(eb_nil rfl (.keep (.keep (.keep (.keep (.drop (.keep .nil)))))) rfl (Nat.le_of_ble_eq_true rfl) rfl))))
(fun _ => (eb_nil rfl (.keep (.keep (.keep (.keep (.drop (.keep .nil)))))) rfl (Nat.le_of_ble_eq_true rfl) rfl)))))
(fun s8 => (eb_ret (ev_cb1 (ev_lstR (ef_cb1 (ev_var rfl) (rcF_sorted (is_cell rfl)))) (rc_tupLR is_seq)) rfl rfl)))))))))))
theorem ok__law_row (T : Txt fa fn K mg) : OkF P w K mg base "_law_row" ["pot", "atoms"] 2 (spT K F_law_row) := by
  obtain ⟨fd, F⟩ := T.c.def_ 2 rfl
  exact ⟨fd, fn__law_row T F, FunD.bindsN F fun _ _ _ _ _ _ us hl => match us, hl with | [_, _], _ => rfl, F.kp, T.glob 14 rfl⟩
end
abbrev st__law_rows : Stmt := top 10
abbrev NN__law_rows : List Str := ["pot", "atoms", "many", "first", "size", "rows", "block", "place", "k"]
theorem sc__law_rows : FnScope NN__law_rows ["pot", "atoms"] (defScope st__law_rows) := ⟨rfl, rfl, rfl, by decide +kernel, rfl, by decide +kernel, by decide +kernel⟩
abbrev F_law_rows : FS (Pot × (List Int)) ((List (List Int)) × Pot) where
  ins := fun x => [.cell 0, .val (tv (rSq .l rInt) x.2)]
  cells := fun x => [some (mv_Pot x.1)]
  m := fun x => m_law_rows x.1 x.2
  out := fun x w => .rt (tv (rSq .l (rSq .t rInt)) w.1) [some (mv_Pot w.2)]
section
variable {P : Program} {w : World} {K : PySem.W.Frag} {mg : Str → Option Value} {base : Heap}
set_option maxHeartbeats 4000000 in
theorem fn__law_rows {fd : FuncData} (T : Txt fa fn K mg) (F : FunD K d3.name d3.qual d3.params d3.body d3.scope (d3.dvs K) (d3.kws K) (He.fAd K d3.at_) fd) : FnOk P w K mg base CX0 3 (He.ga K "_law_rows") fd ["pot", "atoms"] (spT K F_law_rows) := by
  have sc := sc__law_rows
  obtain ⟨fd0, G0, b0, k0, g0⟩ := ok__law_draw (P := P) (w := w) (base := base) T
  obtain ⟨fd1, G1, b1, k1, g1⟩ := ok__law_row (P := P) (w := w) (base := base) T
  refine F.ok sc (sp_len fun _ => rfl) (fun cdv A outer s H vs Q E hr h => ?_)
  refine ⟨_, PSs.nox (pss_cons (ps_if (pt_cmpR op_ne (pe_call G0 (hr.mono (by decide)) rfl g0 k0 b0 .nil pass0 (pa_cons (pv 0) (pa_cons pe_int pa_nil))) pe_int (nomark _)) (pss_cons (ps_set (i := 2) sc.nd rfl (Or.inl rfl) (pe_op op_add pe_int (pe_call G0 (hr.mono (by decide)) rfl g0 k0 b0 .nil pass0 (pa_cons (pv 0) (pa_cons pe_int pa_nil))))) (pss_cons (ps_ret (pe_lc (own := [("k", 8)]) (g := _) (tt := _) rfl sc.nd (pi_range1 rfl (T.free 2) (pa_cons (pv 2) pa_nil)) (blkOk_by (N := NN__law_rows) (sc := defScope st__law_rows) (by decide +kernel)) (fun _ _ _ _ _ => (pg_name (i := 8) sc.nd rfl (Or.inl rfl))) (fun _ _ _ _ _ => pts_nil) (fun _ _ _ _ _ => (pe_call G1 (hr.mono (by decide)) rfl g1 k1 b1 .nil pass0 (pa_cons (pv 0) (pa_cons (pv 1) pa_nil)))))) pss_nil)) pss_nil) (pss_cons (ps_set (i := 2) sc.nd rfl (Or.inl rfl) (pe_op op_add pe_int (pe_call G0 (hr.mono (by decide)) rfl g0 k0 b0 .nil pass0 (pa_cons (pv 0) (pa_cons (pe_ix (kIxL (K := K)) (pe_lst (pa_cons pe_int (pa_cons pe_int pa_nil))) (pe_call G0 (hr.mono (by decide)) rfl g0 k0 b0 .nil pass0 (pa_cons (pv 0) (pa_cons pe_int pa_nil))) (fun _ _ => rfl)) pa_nil))))) (pss_cons (ps_set (i := 3) sc.nd rfl (Or.inl rfl) (pe_call G0 (hr.mono (by decide)) rfl g0 k0 b0 .nil pass0 (pa_cons (pv 0) (pa_cons pe_int pa_nil)))) (pss_cons (ps_set (i := 4) sc.nd rfl (Or.inl rfl) (pe_op op_add pe_int (pe_call G0 (hr.mono (by decide)) rfl g0 k0 b0 .nil pass0 (pa_cons (pv 0) (pa_cons pe_int pa_nil))))) (pss_cons (ps_setLc (i := 5) (own := [("k", 8)]) (g := _) (tt := _) rfl sc.nd rfl rfl (sw_true rfl rfl rfl (by decide +kernel)) (pi_range1 rfl (T.free 2) (pa_cons (pv 3) pa_nil)) (blkOk_by (N := NN__law_rows) (sc := defScope st__law_rows) (by decide +kernel)) (fun _ _ _ _ _ => (pg_name (i := 8) sc.nd rfl (Or.inl rfl))) (fun _ _ _ _ _ => pts_nil) (fun _ _ _ _ _ => (pe_call G1 (hr.mono (by decide)) rfl g1 k1 b1 .nil pass0 (pa_cons (pv 0) (pa_cons (pv 1) pa_nil))))) (pss_cons (ps_setLc (i := 6) (own := [("k", 8)]) (g := _) (tt := _) rfl sc.nd rfl rfl (sw_true rfl rfl rfl (by decide +kernel)) (pi_range1 rfl (T.free 2) (pa_cons (pv 4) pa_nil)) (blkOk_by (N := NN__law_rows) (sc := defScope st__law_rows) (by decide +kernel)) (fun _ _ _ _ _ => (pg_name (i := 8) sc.nd rfl (Or.inl rfl))) (fun _ _ _ _ _ => pts_nil) (fun _ _ _ _ _ => (pe_call G1 (hr.mono (by decide)) rfl g1 k1 b1 .nil pass0 (pa_cons (pv 0) (pa_cons (pv 1) pa_nil))))) (pss_cons (ps_set (i := 5) sc.nd rfl (Or.inl rfl) (pe_op op_cat (pv 5) (pe_op op_rep (pv 6) (pe_op op_add (pe_op op_fdivW (pv 2) (pv 4)) pe_int)))) (pss_cons (ps_set (i := 5) sc.nd rfl (Or.inl rfl) (pe_slice (kSlL (K := K)) (pv 5) po_none (po_some (pv 2)))) (pss_cons (ps_set (i := 7) sc.nd rfl (Or.inl rfl) (pe_call G0 (hr.mono (by decide)) rfl g0 k0 b0 .nil pass0 (pa_cons (pv 0) (pa_cons (pv 2) pa_nil)))) (pss_cons (ps_asg (pe_call G1 (hr.mono (by decide)) rfl g1 k1 b1 .nil pass0 (pa_cons (pv 0) (pa_cons (pv 1) pa_nil))) (pg_sub (pv 5) (pv 7) set_list)) (pss_cons (ps_ret (pv 5)) pss_nil))))))))))), ?_⟩
  refine sp_body h fun x => ?_
  obtain ⟨pot, atoms⟩ := x
  show EvB K 1 _ [some (.cell 0), some (.val (tv (rSq .l rInt) atoms)), none, none, none, none, none, none, none] [some (mv_Pot pot)] (fun (w : (List (List Int)) × Pot) => OS.rt (tv (rSq .l (rSq .t rInt)) w.1) [some (mv_Pot w.2)]) (m_law_rows pot atoms)
  unfold m_law_rows
  exact (eb_bind fun r1 h1 => (eb_ifr (et_test (ev_op (ev_call1 (k := 0) (x := (pot, (8 : Int))) (ea_cons (ev_var rfl) (ea_cons ev_int ea_nil)) rfl (hm := h1)) ev_int rv_neI)) (fun _ => (eb_bind fun r2 h2 => eb_bind fun many3 h3 => (eb_asg (oeV h3 (ev_op ev_int (ev_call1 (k := 0) (x := (r1.2, (14 : Int))) (ea_cons (ev_var rfl) (ea_cons ev_int ea_nil)) rfl (hm := h2)) rv_add))
(eb_bind fun r4 h4 => eb_bind fun r5 h5 => eb_bind fun r10 h10 => (eb_ret (ev_lstR (ef_mapS (mu := fun s8 => [some (mv_Pot s8)]) (R' := (rSq .t rInt)) (ei_rng1 (ea_cons (ev_var rfl) ea_nil) (rngP_ok h4).2) (fun _ => hz_size h5) (fun _ => trivial) (fun _ => rfl) (fun _ => ego_name) (fun s8 x6 y12 s13 e11 => bo e11 fun r9 h9 e11 => oeP (mu := fun s8 => [some (mv_Pot s8)]) e11 (ev_call1 (k := 0) (x := (s8, atoms)) (ea_cons (ev_var rfl) (ea_cons (ev_var rfl) ea_nil)) rfl (hm := h9))) (pairR h10))) rfl rfl)))))
(fun _ => (eb_bind fun r14 h14 => eb_bind fun r15 h15 => eb_bind fun r16 h16 => eb_bind fun many17 h17 => (eb_asg (oeV h17 (ev_op ev_int (ev_call1 (k := 0) (x := (r14.2, r15)) (ea_cons (ev_var rfl) (ea_cons (ev_op (ev_lstR (ef_mkL (R := rInt) (xs := ([(400 : Int), (3000 : Int)] : List Int)) (ea_cons ev_int (ea_cons ev_int ea_nil)))) (ev_call1 (k := 0) (x := (r1.2, (2 : Int))) (ea_cons (ev_var rfl) (ea_cons ev_int ea_nil)) rfl (hm := h14)) (rv_ixL is_seq (at_map h15))) ea_nil)) rfl (hm := h16)) rv_add))
(eb_bind fun r18 h18 => (eb_asg (ev_call1 (k := 0) (x := (r16.2, (8 : Int))) (ea_cons (ev_var rfl) (ea_cons ev_int ea_nil)) rfl (hm := h18))
(eb_bind fun r19 h19 => eb_bind fun size20 h20 => (eb_asg (oeV h20 (ev_op ev_int (ev_call1 (k := 0) (x := (r18.2, (4 : Int))) (ea_cons (ev_var rfl) (ea_cons ev_int ea_nil)) rfl (hm := h19)) rv_add))
(eb_bind fun r21 h21 => eb_bind fun r22 h22 => eb_bind fun r27 h27 => (eb_asg (ev_own (ef_mapS (mu := fun s25 => [some (mv_Pot s25)]) (R' := (rSq .t rInt)) (ei_rng1 (ea_cons (ev_var rfl) ea_nil) (rngP_ok h21).2) (fun _ => hz_size h22) (fun _ => trivial) (fun _ => rfl) (fun _ => ego_name) (fun s25 x23 y29 s30 e28 => bo e28 fun r26 h26 e28 => oeP (mu := fun s25 => [some (mv_Pot s25)]) e28 (ev_call1 (k := 0) (x := (s25, atoms)) (ea_cons (ev_var rfl) (ea_cons (ev_var rfl) ea_nil)) rfl (hm := h26))) (pairR h27)))
(eb_bind fun r31 h31 => eb_bind fun r32 h32 => eb_bind fun r37 h37 => (eb_asg (ev_lstR (ef_mapS (mu := fun s35 => [some (mv_Pot s35), some (mL (r27.1.map (tv (rSq .t rInt))))]) (R' := (rSq .t rInt)) (ei_rng1 (ea_cons (ev_var rfl) ea_nil) (rngP_ok h31).2) (fun _ => hz_size h32) (fun _ => trivial) (fun _ => rfl) (fun _ => ego_name) (fun s35 x33 y39 s40 e38 => bo e38 fun r36 h36 e38 => oeP (mu := fun s35 => [some (mv_Pot s35), some (mL (r27.1.map (tv (rSq .t rInt))))]) e38 (ev_call1 (k := 0) (x := (s35, atoms)) (ea_cons (ev_var rfl) (ea_cons (ev_var rfl) ea_nil)) rfl (hm := h36))) (pairR h37)))
(eb_bind fun r41 h41 => eb_bind fun r42 h42 => eb_bind fun r43 h43 => eb_bind fun rows44 h44 => (eb_asg (ev_own (oeF (R := (rSq .t rInt)) h44 (ef_op (ev_var rfl) (ev_lstR (ef_op (ev_var rfl) (ev_op (ev_op (ev_var rfl) (ev_var rfl) (rv_fdivP h41)) ev_int rv_add) (rvF_rep is_seq h42))) (rvF_catL (is_cell rfl) is_seq h43))))
(eb_bind fun rows45 h45 => (eb_asg (ev_own (oeF (R := (rSq .t rInt)) h45 (ef_slR (ev_var rfl) eo_none (eo_some (ev_var rfl)) (is_cell rfl))))
(eb_bind fun r46 h46 => (eb_asg (ev_call1 (k := 0) (x := (r37.2, many17)) (ea_cons (ev_var rfl) (ea_cons (ev_var rfl) ea_nil)) rfl (hm := h46))
(eb_bind fun r47 h47 => eb_bind fun r48 h48 => (eb_setI (ev_call1 (k := 0) (x := (r46.2, atoms)) (ea_cons (ev_var rfl) (ea_cons (ev_var rfl) ea_nil)) rfl (hm := h47)) (ev_var rfl) (ev_var rfl) rfl h48
(eb_frz (j := 3) rfl frz_L ((eb_ret (ev_var rfl) rfl rfl))))))))))))))))))))))))
theorem ok__law_rows (T : Txt fa fn K mg) : OkF P w K mg base "_law_rows" ["pot", "atoms"] 3 (spT K F_law_rows) := by
  obtain ⟨fd, F⟩ := T.c.def_ 3 rfl
  exact ⟨fd, fn__law_rows T F, FunD.bindsN F fun _ _ _ _ _ _ us hl => match us, hl with | [_, _], _ => rfl, F.kp, T.glob 15 rfl⟩
end
abbrev st__law_conditions : Stmt := top 11
abbrev NN__law_conditions : List Str := ["pot", "atoms", "day", "one", "two", "made", "form", "near", "far", "shift", "back", "many"]
theorem sc__law_conditions : FnScope NN__law_conditions ["pot", "atoms", "day"] (defScope st__law_conditions) := ⟨rfl, rfl, rfl, by decide +kernel, rfl, by decide +kernel, by decide +kernel⟩
abbrev F_law_conditions : FS (Pot × (List Int) × Int) ((List ((List Nat) × Int × Int)) × Pot) where
  ins := fun x => [.cell 0, .val (tv (rSq .l rInt) x.2.1), .val (tv rInt x.2.2)]
  cells := fun x => [some (mv_Pot x.1)]
  m := fun x => m_law_conditions x.1 x.2.1 x.2.2
  out := fun x w => .rt (tv (rSq .l (rP3 rTxt rInt rInt)) w.1) [some (mv_Pot w.2)]
section
variable {P : Program} {w : World} {K : PySem.W.Frag} {mg : Str → Option Value} {base : Heap}
set_option maxHeartbeats 4000000 in
theorem fn__law_conditions {fd : FuncData} (T : Txt fa fn K mg) (F : FunD K d4.name d4.qual d4.params d4.body d4.scope (d4.dvs K) (d4.kws K) (He.fAd K d4.at_) fd) : FnOk P w K mg base CX0 2 (He.ga K "_law_conditions") fd ["pot", "atoms", "day"] (spT K F_law_conditions) := by
  have sc := sc__law_conditions
  obtain ⟨fd0, G0, b0, k0, g0⟩ := ok__law_draw (P := P) (w := w) (base := base) T
  refine F.ok sc (sp_len fun _ => rfl) (fun cdv A outer s H vs Q E hr h => ?_)
  refine ⟨_, PSs.nox (pss_cons (ps_set (i := 3) sc.nd rfl (Or.inr rfl) (pe_ix (kIxL (K := K)) (pv 1) pe_int (fun _ _ => rfl))) (pss_cons (ps_set (i := 4) sc.nd rfl (Or.inl rfl) (pe_ix (kIxL (K := K)) (pv 1) pe_int (fun _ _ => rfl))) (pss_cons (ps_setLc (i := 5) (own := [("back", 10)]) (g := _) (tt := _) rfl sc.nd rfl rfl (sw_true rfl rfl rfl (by decide +kernel)) (pi_range1 rfl (T.free 2) (pa_cons pe_int pa_nil)) (blkOk_by (N := NN__law_conditions) (sc := defScope st__law_conditions) (by decide +kernel)) (fun _ _ _ _ _ => (pg_name (i := 10) sc.nd rfl (Or.inl rfl))) (fun _ _ _ _ _ => pts_nil) (fun _ _ _ _ _ => (pe_tup (pa_cons pe_str (pa_cons (pv 3) (pa_cons (pv 10) pa_nil)))))) (pss_cons (ps_set (i := 5) sc.nd rfl (Or.inl rfl) (pe_op op_cat (pv 5) (pe_lc (own := [("many", 11)]) (g := _) (tt := _) rfl sc.nd (pi_range2 rfl (T.free 2) (pa_cons pe_int (pa_cons pe_int pa_nil))) (blkOk_by (N := NN__law_conditions) (sc := defScope st__law_conditions) (by decide +kernel)) (fun _ _ _ _ _ => (pg_name (i := 11) sc.nd rfl (Or.inl rfl))) (fun _ _ _ _ _ => pts_nil) (fun _ _ _ _ _ => (pe_tup (pa_cons pe_str (pa_cons (pv 3) (pa_cons (pv 11) pa_nil)))))))) (pss_cons (ps_set (i := 5) sc.nd rfl (Or.inl rfl) (pe_op op_cat (pv 5) (pe_lc (own := [("many", 11)]) (g := _) (tt := _) rfl sc.nd (pi_range2 rfl (T.free 2) (pa_cons pe_int (pa_cons pe_int pa_nil))) (blkOk_by (N := NN__law_conditions) (sc := defScope st__law_conditions) (by decide +kernel)) (fun _ _ _ _ _ => (pg_name (i := 11) sc.nd rfl (Or.inl rfl))) (fun _ _ _ _ _ => pts_nil) (fun _ _ _ _ _ => (pe_tup (pa_cons pe_str (pa_cons (pv 3) (pa_cons (pv 11) pa_nil)))))))) (pss_cons (ps_for PassesOwn.never rfl (kPiL (K := K) (pe_lst (pa_cons pe_str (pa_cons pe_str pa_nil)))) (pg_name (i := 6) sc.nd rfl (Or.inl rfl)) (pss_cons (ps_if (pt_cmpR op_le (pv 2) pe_int (nomark _)) (pss_cons (ps_set (i := 5) sc.nd rfl (Or.inl rfl) (pe_op op_cat (pv 5) (pe_lst (pa_cons (pe_tup (pa_cons (pv 6) (pa_cons (pv 3) (pa_cons (pv 4) pa_nil)))) (pa_cons (pe_tup (pa_cons (pv 6) (pa_cons (pv 4) (pa_cons (pv 3) pa_nil)))) (pa_cons (pe_tup (pa_cons (pv 6) (pa_cons (pv 3) (pa_cons (pv 3) pa_nil)))) pa_nil)))))) pss_nil) pss_nil) pss_nil)) (pss_cons (ps_set (i := 7) sc.nd rfl (Or.inl rfl) (pe_op op_add pe_int (pe_call G0 (hr.mono (by decide)) rfl g0 k0 b0 .nil pass0 (pa_cons (pv 0) (pa_cons pe_int pa_nil))))) (pss_cons (ps_set (i := 8) sc.nd rfl (Or.inl rfl) (pe_op op_add pe_int (pe_call G0 (hr.mono (by decide)) rfl g0 k0 b0 .nil pass0 (pa_cons (pv 0) (pa_cons pe_int pa_nil))))) (pss_cons (ps_set (i := 9) sc.nd rfl (Or.inl rfl) (pe_call G0 (hr.mono (by decide)) rfl g0 k0 b0 .nil pass0 (pa_cons (pv 0) (pa_cons (pv 8) pa_nil)))) (pss_cons (ps_set (i := 5) sc.nd rfl (Or.inl rfl) (pe_op op_cat (pv 5) (pe_lst (pa_cons (pe_tup (pa_cons pe_str (pa_cons pe_int (pa_cons pe_int pa_nil)))) (pa_cons (pe_tup (pa_cons pe_str (pa_cons (pv 7) (pa_cons (pe_op op_mod (pe_callTy call_int1 (by rfl) (T.free 0) (by decide +kernel) (pa_cons (pv 2) pa_nil)) (pv 7)) pa_nil)))) (pa_cons (pe_tup (pa_cons pe_str (pa_cons (pv 8) (pa_cons (pe_op op_mod (pe_callTy call_int1 (by rfl) (T.free 0) (by decide +kernel) (pa_cons (pe_op op_add (pv 2) (pv 9)) pa_nil)) (pv 8)) pa_nil)))) pa_nil)))))) (pss_cons (ps_ret (pv 5)) pss_nil))))))))))), ?_⟩
  refine sp_body h fun x => ?_
  obtain ⟨pot, atoms, day⟩ := x
  show EvB K 1 _ [some (.cell 0), some (.val (tv (rSq .l rInt) atoms)), some (.val (tv rInt day)), none, none, none, none, none, none, none, none, none] [some (mv_Pot pot)] (fun (w : (List ((List Nat) × Int × Int)) × Pot) => OS.rt (tv (rSq .l (rP3 rTxt rInt rInt)) w.1) [some (mv_Pot w.2)]) (m_law_conditions pot atoms day)
  unfold m_law_conditions
  exact (eb_bind fun r1 h1 => (eb_asg (ev_op (ev_var rfl) ev_int (rv_ixL is_seq (at_map h1)))
(eb_bind fun r2 h2 => (eb_asg (ev_op (ev_var rfl) ev_int (rv_ixL is_seq (at_map h2)))
(eb_bind fun made4 h4 => (eb_asg (ev_lstR (oeF (R := (rP3 rTxt rInt rInt)) h4 (ef_map (R' := (rP3 rTxt rInt rInt)) (ei_rng1 (ea_cons ev_int ea_nil) ⟨by decide, by decide⟩) (fun _ => hz_ble (by decide +kernel)) trivial (fun _ => ego_name) (fun x3 => (ev_mk3 (ea_cons (ev_txt (l := [97, 116]) (by decide +kernel)) (ea_cons (ev_var rfl) (ea_cons (ev_var rfl) ea_nil))))))))
(eb_bind fun r6 h6 => eb_bind fun made7 h7 => (eb_asg (ev_lstR (oeF (R := (rP3 rTxt rInt rInt)) h7 (ef_op (ev_var rfl) (ev_lstR (ef_map (R' := (rP3 rTxt rInt rInt)) (ei_rng2 (ea_cons ev_int (ea_cons ev_int ea_nil)) ⟨by decide, by decide⟩ ⟨by decide, by decide⟩) (fun _ => hz_ble (by decide +kernel)) trivial (fun _ => ego_name) (fun x5 => (ev_mk3 (ea_cons (ev_txt (l := [119, 105, 116, 104, 105, 110]) (by decide +kernel)) (ea_cons (ev_var rfl) (ea_cons (ev_var rfl) ea_nil))))))) (rvF_catL is_seq is_seq h6))))
(eb_bind fun r9 h9 => eb_bind fun made10 h10 => (eb_asg (ev_lstR (oeF (R := (rP3 rTxt rInt rInt)) h10 (ef_op (ev_var rfl) (ev_lstR (ef_map (R' := (rP3 rTxt rInt rInt)) (ei_rng2 (ea_cons ev_int (ea_cons ev_int ea_nil)) ⟨by decide, by decide⟩ ⟨by decide, by decide⟩) (fun _ => hz_ble (by decide +kernel)) trivial (fun _ => ego_name) (fun x8 => (ev_mk3 (ea_cons (ev_txt (l := [116, 104, 114, 111, 117, 103, 104]) (by decide +kernel)) (ea_cons (ev_var rfl) (ea_cons (ev_var rfl) ea_nil))))))) (rvF_catL is_seq is_seq h9))))
(eb_for (g := fun (s11 : List ((List Nat) × Int × Int)) => [some (.cell 0), some (.val (tv (rSq .l rInt) atoms)), some (.val (tv rInt day)), some (.val (tv rInt r1)), some (.val (tv rInt r2)), some (.val (tv (rSq .l (rP3 rTxt rInt rInt)) s11)), none, none, none, none, none, none]) (mu := fun (s11 : List ((List Nat) × Int × Int)) => [some (mv_Pot pot)]) (ei_L (ev_lstR (ef_mkL (R := rTxt) (xs := ([[115, 105, 110, 99, 101], [104, 101, 108, 100]] : List (List Nat))) (ea_cons (ev_txt (l := [115, 105, 110, 99, 101]) (by decide +kernel)) (ea_cons (ev_txt (l := [104, 101, 108, 100]) (by decide +kernel)) ea_nil))))) (fun _ => trivial) (.keep (.keep (.keep (.keep (.keep (.keep (.keep (.keep (.keep (.keep (.keep (.keep .nil)))))))))))) (fun _ => rfl) (fun _ _ => eg_name)
(fun s11 x12 => (eb_ifl (et_test (ev_op (ev_var rfl) ev_int rv_le)) (fun _ => (eb_bind fun r13 h13 => eb_bind fun made14 h14 => (eb_asg (ev_lstR (oeF (R := (rP3 rTxt rInt rInt)) h14 (ef_op (ev_var rfl) (ev_lstR (ef_mkL (R := (rP3 rTxt rInt rInt)) (xs := ([(x12, r1, r2), (x12, r2, r1), (x12, r1, r1)] : List ((List Nat) × Int × Int))) (ea_cons (ev_mk3 (ea_cons (ev_var rfl) (ea_cons (ev_var rfl) (ea_cons (ev_var rfl) ea_nil)))) (ea_cons (ev_mk3 (ea_cons (ev_var rfl) (ea_cons (ev_var rfl) (ea_cons (ev_var rfl) ea_nil)))) (ea_cons (ev_mk3 (ea_cons (ev_var rfl) (ea_cons (ev_var rfl) (ea_cons (ev_var rfl) ea_nil)))) ea_nil))))) (rvF_catL is_seq is_seq h13))))
(eb_nil rfl (.keep (.keep (.keep (.keep (.keep (.keep (.drop (.keep (.keep (.keep (.keep (.keep .nil)))))))))))) rfl (Nat.le_of_ble_eq_true rfl) rfl))))
(fun _ => (eb_nil rfl (.keep (.keep (.keep (.keep (.keep (.keep (.drop (.keep (.keep (.keep (.keep (.keep .nil)))))))))))) rfl (Nat.le_of_ble_eq_true rfl) rfl))))
(fun s11 => (eb_bind fun r15 h15 => eb_bind fun near16 h16 => (eb_asg (oeV h16 (ev_op ev_int (ev_call1 (k := 0) (x := (pot, (12 : Int))) (ea_cons (ev_var rfl) (ea_cons ev_int ea_nil)) rfl (hm := h15)) rv_add))
(eb_bind fun r17 h17 => eb_bind fun far18 h18 => (eb_asg (oeV h18 (ev_op ev_int (ev_call1 (k := 0) (x := (r15.2, (1000 : Int))) (ea_cons (ev_var rfl) (ea_cons ev_int ea_nil)) rfl (hm := h17)) rv_add))
(eb_bind fun r19 h19 => (eb_asg (ev_call1 (k := 0) (x := (r17.2, far18)) (ea_cons (ev_var rfl) (ea_cons (ev_var rfl) ea_nil)) rfl (hm := h19))
(eb_bind fun r20 h20 => eb_bind fun r21 h21 => eb_bind fun r22 h22 => eb_bind fun made23 h23 => (eb_asg (ev_lstR (oeF (R := (rP3 rTxt rInt rInt)) h23 (ef_op (ev_var rfl) (ev_lstR (ef_mkL (R := (rP3 rTxt rInt rInt)) (xs := ([([111, 110], (1 : Int), (0 : Int)), ([111, 110], near16, r20), ([111, 110], far18, r21)] : List ((List Nat) × Int × Int))) (ea_cons (ev_mk3 (ea_cons (ev_txt (l := [111, 110]) (by decide +kernel)) (ea_cons ev_int (ea_cons ev_int ea_nil)))) (ea_cons (ev_mk3 (ea_cons (ev_txt (l := [111, 110]) (by decide +kernel)) (ea_cons (ev_var rfl) (ea_cons (ev_op (ev_cb1 (ev_var rfl) rc_int) (ev_var rfl) (rv_modP h20)) ea_nil)))) (ea_cons (ev_mk3 (ea_cons (ev_txt (l := [111, 110]) (by decide +kernel)) (ea_cons (ev_var rfl) (ea_cons (ev_op (ev_cb1 (ev_op (ev_var rfl) (ev_var rfl) rv_add) rc_int) (ev_var rfl) (rv_modP h21)) ea_nil)))) ea_nil))))) (rvF_catL is_seq is_seq h22))))
(eb_ret (ev_var rfl) rfl rfl)))))))))))))))))))))
theorem ok__law_conditions (T : Txt fa fn K mg) : OkF P w K mg base "_law_conditions" ["pot", "atoms", "day"] 2 (spT K F_law_conditions) := by
  obtain ⟨fd, F⟩ := T.c.def_ 4 rfl
  exact ⟨fd, fn__law_conditions T F, FunD.bindsN F fun _ _ _ _ _ _ us hl => match us, hl with | [_, _, _], _ => rfl, F.kp, T.glob 16 rfl⟩
end
abbrev st__law_last : Stmt := top 12
abbrev NN__law_last : List Str := ["rows", "atom", "back"]
theorem sc__law_last : FnScope NN__law_last ["rows", "atom"] (defScope st__law_last) := ⟨rfl, rfl, rfl, by decide +kernel, rfl, by decide +kernel, by decide +kernel⟩
abbrev F_law_last : FS ((List (List Int)) × Int) (Int) where
  ins := fun x => [.val (tv (rSq .l (rSq .t rInt)) x.1), .val (tv rInt x.2)]
  cells := fun x => []
  m := fun x => m_law_last x.1 x.2
  out := fun x w => .rt (tv rInt w) []
section
variable {P : Program} {w : World} {K : PySem.W.Frag} {mg : Str → Option Value} {base : Heap}
set_option maxHeartbeats 4000000 in
theorem fn__law_last {fd : FuncData} (T : Txt fa fn K mg) (F : FunD K d5.name d5.qual d5.params d5.body d5.scope (d5.dvs K) (d5.kws K) (He.fAd K d5.at_) fd) : FnOk P w K mg base CX0 1 (He.ga K "_law_last") fd ["rows", "atom"] (spT K F_law_last) := by
  have sc := sc__law_last
  refine F.ok sc (sp_len fun _ => rfl) (fun cdv A outer s H vs Q E hr h => ?_)
  refine ⟨_, PSs.nox (pss_cons (ps_for PassesOwn.never rfl (pi_range1 rfl (T.free 2) (pa_cons (pe_callB (kLen (K := K)) (by rfl) (T.free 3) (by decide +kernel) (pa_cons (pv 0) pa_nil)) pa_nil)) (pg_name (i := 2) sc.nd rfl (Or.inl rfl)) (pss_cons (ps_if (pt_cmpR (kIn (K := K)) (pv 1) (pe_ix (kIxL (K := K)) (pv 0) (pe_op op_sub (pe_op op_sub (pe_callB (kLen (K := K)) (by rfl) (T.free 3) (by decide +kernel) (pa_cons (pv 0) pa_nil)) pe_int) (pv 2)) (fun _ _ => rfl)) (by rfl)) (pss_cons (ps_ret (pe_op op_sub (pe_op op_sub (pe_callB (kLen (K := K)) (by rfl) (T.free 3) (by decide +kernel) (pa_cons (pv 0) pa_nil)) pe_int) (pv 2))) pss_nil) pss_nil) pss_nil)) (pss_cons (ps_ret (pe_op op_sub pe_int pe_int)) pss_nil)), ?_⟩
  refine sp_body h fun x => ?_
  obtain ⟨rows, atom⟩ := x
  show EvB K 0 _ [some (.val (tv (rSq .l (rSq .t rInt)) rows)), some (.val (tv rInt atom)), none] [] (fun (w : Int) => OS.rt (tv rInt w) []) (m_law_last rows atom)
  unfold m_law_last
  exact (eb_bind fun r1 h1 => (eb_for (g := fun (s2 : Unit) => [some (.val (tv (rSq .l (rSq .t rInt)) rows)), some (.val (tv rInt atom)), none]) (mu := fun (s2 : Unit) => []) (ei_rng1 (ea_cons (ev_cb1 (ev_var rfl) (rc_lenL is_seq)) ea_nil) (rngP_ok h1).2) (fun _ => trivial) (.keep (.keep (.keep .nil))) (fun _ => rfl) (fun _ _ => eg_name)
(fun s2 x3 => (eb_bind fun r4 h4 => (eb_ifl (et_test (ev_op (ev_var rfl) (ev_op (ev_var rfl) (ev_op (ev_op (ev_cb1 (ev_var rfl) (rc_lenL is_seq)) ev_int rv_sub) (ev_var rfl) rv_sub) (rv_ixL is_seq (at_map h4))) (rv_in flat_int is_seq))) (fun _ => (eb_ret (ev_op (ev_op (ev_cb1 (ev_var rfl) (rc_lenL is_seq)) ev_int rv_sub) (ev_var rfl) rv_sub) rfl rfl))
(fun _ => (eb_nil rfl (.keep (.keep (.drop .nil))) rfl (Nat.le_of_ble_eq_true rfl) rfl)))))
(fun s2 => (eb_ret (ev_op ev_int ev_int rv_sub) rfl rfl))))
theorem ok__law_last (T : Txt fa fn K mg) : OkF P w K mg base "_law_last" ["rows", "atom"] 1 (spT K F_law_last) := by
  obtain ⟨fd, F⟩ := T.c.def_ 5 rfl
  exact ⟨fd, fn__law_last T F, FunD.bindsN F fun _ _ _ _ _ _ us hl => match us, hl with | [_, _], _ => rfl, F.kp, T.glob 17 rfl⟩
end
abbrev st__law_truth : Stmt := top 13
abbrev NN__law_truth : List Str := ["rows", "day", "cond", "form", "atom", "found", "last", "one"]
theorem sc__law_truth : FnScope NN__law_truth ["rows", "day", "cond"] (defScope st__law_truth) := ⟨rfl, rfl, rfl, by decide +kernel, rfl, by decide +kernel, by decide +kernel⟩
abbrev F_law_truth : FS ((List (List Int)) × Int × ((List Nat) × Int × Int)) (Bool) where
  ins := fun x => [.val (tv (rSq .l (rSq .t rInt)) x.1), .val (tv rInt x.2.1), .val (tv (rP3 rTxt rInt rInt) x.2.2)]
  cells := fun x => []
  m := fun x => m_law_truth x.1 x.2.1 x.2.2
  out := fun x w => .rt (tv rBool w) []
section
variable {P : Program} {w : World} {K : PySem.W.Frag} {mg : Str → Option Value} {base : Heap}
set_option maxHeartbeats 4000000 in
theorem fn__law_truth {fd : FuncData} (T : Txt fa fn K mg) (F : FunD K d6.name d6.qual d6.params d6.body d6.scope (d6.dvs K) (d6.kws K) (He.fAd K d6.at_) fd) : FnOk P w K mg base CX0 2 (He.ga K "_law_truth") fd ["rows", "day", "cond"] (spT K F_law_truth) := by
  have sc := sc__law_truth
  obtain ⟨fd0, G0, b0, k0, g0⟩ := ok__law_last (P := P) (w := w) (base := base) T
  refine F.ok sc (sp_len fun _ => rfl) (fun cdv A outer s H vs Q E hr h => ?_)
  refine ⟨_, PSs.nox (pss_cons (ps_set (i := 3) sc.nd rfl (Or.inl rfl) (pe_ix (kIxT (K := K)) (pv 2) pe_int (fun _ _ => rfl))) (pss_cons (ps_if (pt_cmpR op_eq (pv 3) pe_str (nomark _)) (pss_cons (ps_ret (pe_cmpR op_eq (pe_op op_mod (pe_callTy call_int1 (by rfl) (T.free 0) (by decide +kernel) (pa_cons (pv 1) pa_nil)) (pe_ix (kIxT (K := K)) (pv 2) pe_int (fun _ _ => rfl))) (pe_ix (kIxT (K := K)) (pv 2) pe_int (fun _ _ => rfl)) (nomark _))) pss_nil) pss_nil) (pss_cons (ps_set (i := 4) sc.nd rfl (Or.inr rfl) (pe_ix (kIxT (K := K)) (pv 2) pe_int (fun _ _ => rfl))) (pss_cons (ps_if (pt_cmpR op_eq (pv 3) pe_str (nomark _)) (pss_cons (ps_ret (pe_and (pe_cmpR op_ge (pv 1) (pe_ix (kIxT (K := K)) (pv 2) pe_int (fun _ _ => rfl)) (nomark _)) (pe_one (pe_cmpR (kIn (K := K)) (pv 4) (pe_ix (kIxL (K := K)) (pv 0) (pe_op op_sub (pv 1) (pe_ix (kIxT (K := K)) (pv 2) pe_int (fun _ _ => rfl))) (fun _ _ => rfl)) (by rfl))))) pss_nil) pss_nil) (pss_cons (ps_if (pt_cmpR op_eq (pv 3) pe_str (nomark _)) (pss_cons (ps_set (i := 6) sc.nd rfl (Or.inl rfl) (pe_call G0 (hr.mono (by decide)) rfl g0 k0 b0 .nil pass0 (pa_cons (pv 0) (pa_cons (pe_ix (kIxT (K := K)) (pv 2) pe_int (fun _ _ => rfl)) pa_nil)))) (pss_cons (ps_ret (pe_and (pe_cmpR op_ge (pv 6) pe_int (nomark _)) (pe_one (pe_callB (kAll (K := K) rfl) (by rfl) (T.free 7) (by decide +kernel) (pa_cons (pe_lc (own := [("one", 7)]) (g := _) (tt := _) rfl sc.nd (kPiL (K := K) (pe_slice (kSlL (K := K)) (pv 0) (po_some (pe_op op_add (pv 6) pe_int)) po_none)) (blkOk_by (N := NN__law_truth) (sc := defScope st__law_truth) (by decide +kernel)) (fun _ _ _ _ _ => (pg_name (i := 7) sc.nd rfl (Or.inl rfl))) (fun _ _ _ _ _ => pts_nil) (fun _ _ _ _ _ => (pe_cmpR (kIn (K := K)) (pv 4) (pv 7) (by rfl)))) pa_nil))))) pss_nil)) pss_nil) (pss_cons (ps_if (pt_cmpR op_eq (pv 3) pe_str (nomark _)) (pss_cons (ps_set (i := 6) sc.nd rfl (Or.inl rfl) (pe_call G0 (hr.mono (by decide)) rfl g0 k0 b0 .nil pass0 (pa_cons (pv 0) (pa_cons (pv 4) pa_nil)))) (pss_cons (ps_ret (pe_and (pe_cmpR op_ge (pv 6) pe_int (nomark _)) (pe_one (pe_not (pe_callB (kAny (K := K) rfl) (by rfl) (T.free 8) (by decide +kernel) (pa_cons (pe_lc (own := [("one", 7)]) (g := _) (tt := _) rfl sc.nd (kPiL (K := K) (pe_slice (kSlL (K := K)) (pv 0) (po_some (pe_op op_add (pv 6) pe_int)) po_none)) (blkOk_by (N := NN__law_truth) (sc := defScope st__law_truth) (by decide +kernel)) (fun _ _ _ _ _ => (pg_name (i := 7) sc.nd rfl (Or.inl rfl))) (fun _ _ _ _ _ => pts_nil) (fun _ _ _ _ _ => (pe_cmpR (kIn (K := K)) (pe_ix (kIxT (K := K)) (pv 2) pe_int (fun _ _ => rfl)) (pv 7) (by rfl)))) pa_nil)))))) pss_nil)) pss_nil) (pss_cons (ps_setLc (i := 5) (own := [("one", 7)]) (g := _) (tt := _) rfl sc.nd rfl rfl (sw_true rfl rfl rfl (by decide +kernel)) (kPiL (K := K) (pe_slice (kSlL (K := K)) (pv 0) (po_some (pe_callB (call_max2 rfl) (by rfl) (T.free 9) (by decide +kernel) (pa_cons pe_int (pa_cons (pe_op op_add (pe_op op_sub (pv 1) (pe_ix (kIxT (K := K)) (pv 2) pe_int (fun _ _ => rfl))) pe_int) pa_nil)))) po_none)) (blkOk_by (N := NN__law_truth) (sc := defScope st__law_truth) (by decide +kernel)) (fun _ _ _ _ _ => (pg_name (i := 7) sc.nd rfl (Or.inl rfl))) (fun _ _ _ _ _ => pts_nil) (fun _ _ _ _ _ => (pe_cmpR (kIn (K := K)) (pv 4) (pv 7) (by rfl)))) (pss_cons (ps_if (pt_cmpR op_eq (pv 3) pe_str (nomark _)) (pss_cons (ps_ret (pe_callB (kAny (K := K) rfl) (by rfl) (T.free 8) (by decide +kernel) (pa_cons (pv 5) pa_nil))) pss_nil) pss_nil) (pss_cons (ps_ret (pe_and (pe_cmpR op_ge (pe_op op_add (pe_op op_sub (pv 1) (pe_ix (kIxT (K := K)) (pv 2) pe_int (fun _ _ => rfl))) pe_int) pe_int (nomark _)) (pe_one (pe_callB (kAll (K := K) rfl) (by rfl) (T.free 7) (by decide +kernel) (pa_cons (pv 5) pa_nil))))) pss_nil))))))))), ?_⟩
  refine sp_body h fun x => ?_
  obtain ⟨rows, day, cond⟩ := x
  show EvB K 0 _ [some (.val (tv (rSq .l (rSq .t rInt)) rows)), some (.val (tv rInt day)), some (.val (tv (rP3 rTxt rInt rInt) cond)), none, none, none, none, none] [] (fun (w : Bool) => OS.rt (tv rBool w) []) (m_law_truth rows day cond)
  unfold m_law_truth
  exact (eb_asg (ev_op (ev_var rfl) ev_int (rv_ixT is_p3 rfl))
(eb_ifr (et_test (ev_op (ev_var rfl) (ev_txt (l := [111, 110]) (by decide +kernel)) rv_eqX)) (fun _ => eb_bind fun r1 h1 => (eb_ret (ev_op (ev_op (ev_cb1 (ev_var rfl) rc_int) (ev_op (ev_var rfl) ev_int (rv_ixT is_p3 rfl)) (rv_modP h1)) (ev_op (ev_var rfl) ev_int (rv_ixT is_p3 rfl)) rv_eqI) rfl rfl))
(fun _ => (eb_asg (ev_op (ev_var rfl) ev_int (rv_ixT is_p3 rfl))
(eb_ifr (et_test (ev_op (ev_var rfl) (ev_txt (l := [97, 116]) (by decide +kernel)) rv_eqX)) (fun _ => eb_bind fun r3 h3 => (eb_ret (ev_andM (ev_op (ev_var rfl) (ev_op (ev_var rfl) ev_int (rv_ixT is_p3 rfl)) rv_ge) h3 (fun _ e4 => bo e4 fun r2 h2 e4 => oeV e4 (ev_op (ev_var rfl) (ev_op (ev_var rfl) (ev_op (ev_var rfl) (ev_op (ev_var rfl) ev_int (rv_ixT is_p3 rfl)) rv_sub) (rv_ixL is_seq (at_map h2))) (rv_in flat_int is_seq)))) rfl rfl))
(fun _ => (eb_ifr (et_test (ev_op (ev_var rfl) (ev_txt (l := [115, 105, 110, 99, 101]) (by decide +kernel)) rv_eqX)) (fun _ => (eb_bind fun r5 h5 => (eb_asg (ev_call (ts := [tv (rSq .l (rSq .t rInt)) rows, tv rInt cond.2.2]) (x := (rows, cond.2.2)) (ea_cons (ev_var rfl) (ea_cons (ev_op (ev_var rfl) ev_int (rv_ixT is_p3 rfl)) ea_nil)) (hm := h5))
(eb_ret (ev_and0 (ev_op (ev_var rfl) ev_int rv_ge) (ev_cb1 (ev_lstR (ef_map (R' := rBool) (ei_L (ev_lstR (ef_slR (ev_var rfl) (eo_some (ev_op (ev_var rfl) ev_int rv_add)) eo_none is_seq))) (fun z => hz_map z) trivial (fun _ => ego_name) (fun x6 => (ev_op (ev_var rfl) (ev_var rfl) (rv_in flat_int is_seq))))) (rc_all is_seq))) rfl rfl))))
(fun _ => (eb_ifr (et_test (ev_op (ev_var rfl) (ev_txt (l := [104, 101, 108, 100]) (by decide +kernel)) rv_eqX)) (fun _ => (eb_bind fun r7 h7 => (eb_asg (ev_call (ts := [tv (rSq .l (rSq .t rInt)) rows, tv rInt cond.2.1]) (x := (rows, cond.2.1)) (ea_cons (ev_var rfl) (ea_cons (ev_var rfl) ea_nil)) (hm := h7))
(eb_ret (ev_and0 (ev_op (ev_var rfl) ev_int rv_ge) (ev_notV (ev_cb1 (ev_lstR (ef_map (R' := rBool) (ei_L (ev_lstR (ef_slR (ev_var rfl) (eo_some (ev_op (ev_var rfl) ev_int rv_add)) eo_none is_seq))) (fun z => hz_map z) trivial (fun _ => ego_name) (fun x8 => (ev_op (ev_op (ev_var rfl) ev_int (rv_ixT is_p3 rfl)) (ev_var rfl) (rv_in flat_int is_seq))))) (rc_any is_seq)))) rfl rfl))))
(fun _ => (eb_bind fun found10 h10 => (eb_asg (ev_lstR (oeF (R := rBool) h10 (ef_map (R' := rBool) (ei_L (ev_lstR (ef_slR (ev_var rfl) (eo_some (ev_cb2 ev_int (ev_op (ev_op (ev_var rfl) (ev_op (ev_var rfl) ev_int (rv_ixT is_p3 rfl)) rv_sub) ev_int rv_add) rc_max2)) eo_none is_seq))) (fun z => hz_map z) trivial (fun _ => ego_name) (fun x9 => (ev_op (ev_var rfl) (ev_var rfl) (rv_in flat_int is_seq))))))
(eb_ifr (et_test (ev_op (ev_var rfl) (ev_txt (l := [119, 105, 116, 104, 105, 110]) (by decide +kernel)) rv_eqX)) (fun _ => (eb_ret (ev_cb1 (ev_var rfl) (rc_any is_seq)) rfl rfl))
(fun _ => (eb_ret (ev_and0 (ev_op (ev_op (ev_op (ev_var rfl) (ev_op (ev_var rfl) ev_int (rv_ixT is_p3 rfl)) rv_sub) ev_int rv_add) ev_int rv_ge) (ev_cb1 (ev_var rfl) (rc_all is_seq))) rfl rfl)))))))))))))))
theorem ok__law_truth (T : Txt fa fn K mg) : OkF P w K mg base "_law_truth" ["rows", "day", "cond"] 2 (spT K F_law_truth) := by
  obtain ⟨fd, F⟩ := T.c.def_ 6 rfl
  exact ⟨fd, fn__law_truth T F, FunD.bindsN F fun _ _ _ _ _ _ us hl => match us, hl with | [_, _, _], _ => rfl, F.kp, T.glob 18 rfl⟩
end
abbrev st__atom_holds : Stmt := top 3
abbrev NN__atom_holds : List Str := ["rows", "day", "atom"]
theorem sc__atom_holds : FnScope NN__atom_holds ["rows", "day", "atom"] (defScope st__atom_holds) := ⟨rfl, rfl, rfl, by decide +kernel, rfl, by decide +kernel, by decide +kernel⟩
abbrev F_atom_holds : FS ((List (List Int)) × Int × Int) (Bool) where
  ins := fun x => [.val (tv (rSq .l (rSq .t rInt)) x.1), .val (tv rInt x.2.1), .val (tv rInt x.2.2)]
  cells := fun x => []
  m := fun x => m_atom_holds x.1 x.2.1 x.2.2
  out := fun x w => .rt (tv rBool w) []
section
variable {P : Program} {w : World} {K : PySem.W.Frag} {mg : Str → Option Value} {base : Heap}
set_option maxHeartbeats 4000000 in
theorem fn__atom_holds {fd : FuncData} (T : Txt fa fn K mg) (F : FunD K d7.name d7.qual d7.params d7.body d7.scope (d7.dvs K) (d7.kws K) (He.fAd K d7.at_) fd) : FnOk P w K mg base CX0 1 (He.ga K "_atom_holds") fd ["rows", "day", "atom"] (spT K F_atom_holds) := by
  have sc := sc__atom_holds
  refine F.ok sc (sp_len fun _ => rfl) (fun cdv A outer s H vs Q E hr h => ?_)
  refine ⟨_, PSs.nox (pss_cons (ps_ret (pe_and (pe_cmpR op_ge (pv 1) pe_int (nomark _)) (pe_one (pe_cmpR (kIn (K := K)) (pv 2) (pe_ix (kIxL (K := K)) (pv 0) (pv 1) (fun _ _ => rfl)) (by rfl))))) pss_nil), ?_⟩
  refine sp_body h fun x => ?_
  obtain ⟨rows, day, atom⟩ := x
  show EvB K 0 _ [some (.val (tv (rSq .l (rSq .t rInt)) rows)), some (.val (tv rInt day)), some (.val (tv rInt atom))] [] (fun (w : Bool) => OS.rt (tv rBool w) []) (m_atom_holds rows day atom)
  unfold m_atom_holds
  exact eb_bind fun r2 h2 => (eb_ret (ev_andM (ev_op (ev_var rfl) ev_int rv_ge) h2 (fun _ e3 => bo e3 fun r1 h1 e3 => oeV e3 (ev_op (ev_var rfl) (ev_op (ev_var rfl) (ev_var rfl) (rv_ixL is_seq (at_map h1))) (rv_in flat_int is_seq)))) rfl rfl)
theorem ok__atom_holds (T : Txt fa fn K mg) : OkF P w K mg base "_atom_holds" ["rows", "day", "atom"] 1 (spT K F_atom_holds) := by
  obtain ⟨fd, F⟩ := T.c.def_ 7 rfl
  exact ⟨fd, fn__atom_holds T F, FunD.bindsN F fun _ _ _ _ _ _ us hl => match us, hl with | [_, _, _], _ => rfl, F.kp, T.glob 19 rfl⟩
end
abbrev st__since : Stmt := top 4
abbrev NN__since : List Str := ["rows", "day", "lasting", "beginning", "past"]
theorem sc__since : FnScope NN__since ["rows", "day", "lasting", "beginning"] (defScope st__since) := ⟨rfl, rfl, rfl, by decide +kernel, rfl, by decide +kernel, by decide +kernel⟩
abbrev F_since : FS ((List (List Int)) × Int × Int × Int) (Bool) where
  ins := fun x => [.val (tv (rSq .l (rSq .t rInt)) x.1), .val (tv rInt x.2.1), .val (tv rInt x.2.2.1), .val (tv rInt x.2.2.2)]
  cells := fun x => []
  m := fun x => m_since x.1 x.2.1 x.2.2.1 x.2.2.2
  out := fun x w => .rt (tv rBool w) []
section
variable {P : Program} {w : World} {K : PySem.W.Frag} {mg : Str → Option Value} {base : Heap}
set_option maxHeartbeats 4000000 in
theorem fn__since {fd : FuncData} (T : Txt fa fn K mg) (F : FunD K d8.name d8.qual d8.params d8.body d8.scope (d8.dvs K) (d8.kws K) (He.fAd K d8.at_) fd) : FnOk P w K mg base CX0 1 (He.ga K "_since") fd ["rows", "day", "lasting", "beginning"] (spT K F_since) := by
  have sc := sc__since
  refine F.ok sc (sp_len fun _ => rfl) (fun cdv A outer s H vs Q E hr h => ?_)
  refine ⟨_, PSs.nox (pss_cons (ps_for PassesOwn.never rfl (pi_range3 rfl (T.free 2) (pa_cons (pv 1) (pa_cons (pe_un un_neg pe_int) (pa_cons (pe_un un_neg pe_int) pa_nil)))) (pg_name (i := 4) sc.nd rfl (Or.inl rfl)) (pss_cons (ps_if (pt_cmpR (kIn (K := K)) (pv 3) (pe_ix (kIxL (K := K)) (pv 0) (pv 4) (fun _ _ => rfl)) (by rfl)) (pss_cons (ps_ret pe_bl) pss_nil) pss_nil) (pss_cons (ps_if (pt_cmpR (kNotIn (K := K)) (pv 2) (pe_ix (kIxL (K := K)) (pv 0) (pv 4) (fun _ _ => rfl)) (by rfl)) (pss_cons (ps_ret pe_bl) pss_nil) pss_nil) pss_nil))) (pss_cons (ps_ret pe_bl) pss_nil)), ?_⟩
  refine sp_body h fun x => ?_
  obtain ⟨rows, day, lasting, beginning⟩ := x
  show EvB K 0 _ [some (.val (tv (rSq .l (rSq .t rInt)) rows)), some (.val (tv rInt day)), some (.val (tv rInt lasting)), some (.val (tv rInt beginning)), none] [] (fun (w : Bool) => OS.rt (tv rBool w) []) (m_since rows day lasting beginning)
  unfold m_since
  exact (eb_bind fun r1 h1 => (eb_for (g := fun (s2 : Unit) => [some (.val (tv (rSq .l (rSq .t rInt)) rows)), some (.val (tv rInt day)), some (.val (tv rInt lasting)), some (.val (tv rInt beginning)), none]) (mu := fun (s2 : Unit) => []) (ei_rngD (ea_cons (ev_var rfl) (ea_cons ev_neg1 (ea_cons ev_neg1 ea_nil))) (rngP_ok h1).1 (rngP_ok h1).2) (fun _ => trivial) (.keep (.keep (.keep (.keep (.keep .nil))))) (fun _ => rfl) (fun _ _ => eg_name)
(fun s2 x3 => (eb_bind fun r4 h4 => (eb_ifr (et_test (ev_op (ev_var rfl) (ev_op (ev_var rfl) (ev_var rfl) (rv_ixL is_seq (at_map h4))) (rv_in flat_int is_seq))) (fun _ => (eb_ret ev_bool rfl rfl))
(fun _ => (eb_bind fun r5 h5 => (eb_ifl (et_test (ev_op (ev_var rfl) (ev_op (ev_var rfl) (ev_var rfl) (rv_ixL is_seq (at_map h5))) (rv_nin flat_int is_seq))) (fun _ => (eb_ret ev_bool rfl rfl))
(fun _ => (eb_nil rfl (.keep (.keep (.keep (.keep (.drop .nil))))) rfl (Nat.le_of_ble_eq_true rfl) rfl))))))))
(fun s2 => (eb_ret ev_bool rfl rfl))))
theorem ok__since (T : Txt fa fn K mg) : OkF P w K mg base "_since" ["rows", "day", "lasting", "beginning"] 1 (spT K F_since) := by
  obtain ⟨fd, F⟩ := T.c.def_ 8 rfl
  exact ⟨fd, fn__since T F, FunD.bindsN F fun _ _ _ _ _ _ us hl => match us, hl with | [_, _, _, _], _ => rfl, F.kp, T.glob 20 rfl⟩
end
abbrev st__held : Stmt := top 5
abbrev NN__held : List Str := ["rows", "day", "beginning", "ending", "past"]
theorem sc__held : FnScope NN__held ["rows", "day", "beginning", "ending"] (defScope st__held) := ⟨rfl, rfl, rfl, by decide +kernel, rfl, by decide +kernel, by decide +kernel⟩
abbrev F_held : FS ((List (List Int)) × Int × Int × Int) (Bool) where
  ins := fun x => [.val (tv (rSq .l (rSq .t rInt)) x.1), .val (tv rInt x.2.1), .val (tv rInt x.2.2.1), .val (tv rInt x.2.2.2)]
  cells := fun x => []
  m := fun x => m_held x.1 x.2.1 x.2.2.1 x.2.2.2
  out := fun x w => .rt (tv rBool w) []
section
variable {P : Program} {w : World} {K : PySem.W.Frag} {mg : Str → Option Value} {base : Heap}
set_option maxHeartbeats 4000000 in
theorem fn__held {fd : FuncData} (T : Txt fa fn K mg) (F : FunD K d9.name d9.qual d9.params d9.body d9.scope (d9.dvs K) (d9.kws K) (He.fAd K d9.at_) fd) : FnOk P w K mg base CX0 1 (He.ga K "_held") fd ["rows", "day", "beginning", "ending"] (spT K F_held) := by
  have sc := sc__held
  refine F.ok sc (sp_len fun _ => rfl) (fun cdv A outer s H vs Q E hr h => ?_)
  refine ⟨_, PSs.nox (pss_cons (ps_for PassesOwn.never rfl (pi_range3 rfl (T.free 2) (pa_cons (pv 1) (pa_cons (pe_un un_neg pe_int) (pa_cons (pe_un un_neg pe_int) pa_nil)))) (pg_name (i := 4) sc.nd rfl (Or.inl rfl)) (pss_cons (ps_if (pt_cmpR (kIn (K := K)) (pv 2) (pe_ix (kIxL (K := K)) (pv 0) (pv 4) (fun _ _ => rfl)) (by rfl)) (pss_cons (ps_ret pe_bl) pss_nil) pss_nil) (pss_cons (ps_if (pt_cmpR (kIn (K := K)) (pv 3) (pe_ix (kIxL (K := K)) (pv 0) (pv 4) (fun _ _ => rfl)) (by rfl)) (pss_cons (ps_ret pe_bl) pss_nil) pss_nil) pss_nil))) (pss_cons (ps_ret pe_bl) pss_nil)), ?_⟩
  refine sp_body h fun x => ?_
  obtain ⟨rows, day, beginning, ending⟩ := x
  show EvB K 0 _ [some (.val (tv (rSq .l (rSq .t rInt)) rows)), some (.val (tv rInt day)), some (.val (tv rInt beginning)), some (.val (tv rInt ending)), none] [] (fun (w : Bool) => OS.rt (tv rBool w) []) (m_held rows day beginning ending)
  unfold m_held
  exact (eb_bind fun r1 h1 => (eb_for (g := fun (s2 : Unit) => [some (.val (tv (rSq .l (rSq .t rInt)) rows)), some (.val (tv rInt day)), some (.val (tv rInt beginning)), some (.val (tv rInt ending)), none]) (mu := fun (s2 : Unit) => []) (ei_rngD (ea_cons (ev_var rfl) (ea_cons ev_neg1 (ea_cons ev_neg1 ea_nil))) (rngP_ok h1).1 (rngP_ok h1).2) (fun _ => trivial) (.keep (.keep (.keep (.keep (.keep .nil))))) (fun _ => rfl) (fun _ _ => eg_name)
(fun s2 x3 => (eb_bind fun r4 h4 => (eb_ifr (et_test (ev_op (ev_var rfl) (ev_op (ev_var rfl) (ev_var rfl) (rv_ixL is_seq (at_map h4))) (rv_in flat_int is_seq))) (fun _ => (eb_ret ev_bool rfl rfl))
(fun _ => (eb_bind fun r5 h5 => (eb_ifl (et_test (ev_op (ev_var rfl) (ev_op (ev_var rfl) (ev_var rfl) (rv_ixL is_seq (at_map h5))) (rv_in flat_int is_seq))) (fun _ => (eb_ret ev_bool rfl rfl))
(fun _ => (eb_nil rfl (.keep (.keep (.keep (.keep (.drop .nil))))) rfl (Nat.le_of_ble_eq_true rfl) rfl))))))))
(fun s2 => (eb_ret ev_bool rfl rfl))))
theorem ok__held (T : Txt fa fn K mg) : OkF P w K mg base "_held" ["rows", "day", "beginning", "ending"] 1 (spT K F_held) := by
  obtain ⟨fd, F⟩ := T.c.def_ 9 rfl
  exact ⟨fd, fn__held T F, FunD.bindsN F fun _ _ _ _ _ _ us hl => match us, hl with | [_, _, _, _], _ => rfl, F.kp, T.glob 21 rfl⟩
end
abbrev st__value : Stmt := top 2
abbrev NN__value : List Str := ["rows", "day", "condition", "form", "first", "values", "past"]
theorem sc__value : FnScope NN__value ["rows", "day", "condition"] (defScope st__value) := ⟨rfl, rfl, rfl, by decide +kernel, rfl, by decide +kernel, by decide +kernel⟩
abbrev F_value : FS ((List (List Int)) × Int × ((List Nat) × Int × Int × Bool)) (Bool) where
  ins := fun x => [.val (tv (rSq .l (rSq .t rInt)) x.1), .val (tv rInt x.2.1), .val (tv (rP4 rTxt rInt rInt rBool) x.2.2)]
  cells := fun x => []
  m := fun x => m_value x.1 x.2.1 x.2.2
  out := fun x w => .rt (tv rBool w) []
section
variable {P : Program} {w : World} {K : PySem.W.Frag} {mg : Str → Option Value} {base : Heap}
set_option maxHeartbeats 4000000 in
theorem fn__value {fd : FuncData} (T : Txt fa fn K mg) (F : FunD K d10.name d10.qual d10.params d10.body d10.scope (d10.dvs K) (d10.kws K) (He.fAd K d10.at_) fd) : FnOk P w K mg base CX0 2 (He.ga K "_value") fd ["rows", "day", "condition"] (spT K F_value) := by
  have sc := sc__value
  obtain ⟨fd0, G0, b0, k0, g0⟩ := ok__atom_holds (P := P) (w := w) (base := base) T
  obtain ⟨fd1, G1, b1, k1, g1⟩ := ok__since (P := P) (w := w) (base := base) T
  obtain ⟨fd2, G2, b2, k2, g2⟩ := ok__held (P := P) (w := w) (base := base) T
  refine F.ok sc (sp_len fun _ => rfl) (fun cdv A outer s H vs Q E hr h => ?_)
  refine ⟨_, PSs.nox (pss_cons (ps_set (i := 3) sc.nd rfl (Or.inl rfl) (pe_ix (kIxT (K := K)) (pv 2) pe_int (fun _ _ => rfl))) (pss_cons (ps_if (pt_cmpR op_eq (pv 3) pe_str (nomark _)) (pss_cons (ps_ret (pe_cmpR op_eq (pe_op op_mod (pv 1) (pe_ix (kIxT (K := K)) (pv 2) pe_int (fun _ _ => rfl))) (pe_ix (kIxT (K := K)) (pv 2) pe_int (fun _ _ => rfl)) (nomark _))) pss_nil) pss_nil) (pss_cons (ps_if (pt_cmpR op_eq (pv 3) pe_str (nomark _)) (pss_cons (ps_ret (pe_call G0 (hr.mono (by decide)) rfl g0 k0 b0 .nil pass0 (pa_cons (pv 0) (pa_cons (pe_op op_sub (pv 1) (pe_ix (kIxT (K := K)) (pv 2) pe_int (fun _ _ => rfl))) (pa_cons (pe_ix (kIxT (K := K)) (pv 2) pe_int (fun _ _ => rfl)) pa_nil))))) pss_nil) pss_nil) (pss_cons (ps_if (pt_cmpR op_eq (pv 3) pe_str (nomark _)) (pss_cons (ps_ret (pe_call G1 (hr.mono (by decide)) rfl g1 k1 b1 .nil pass0 (pa_cons (pv 0) (pa_cons (pv 1) (pa_cons (pe_ix (kIxT (K := K)) (pv 2) pe_int (fun _ _ => rfl)) (pa_cons (pe_ix (kIxT (K := K)) (pv 2) pe_int (fun _ _ => rfl)) pa_nil)))))) pss_nil) pss_nil) (pss_cons (ps_if (pt_cmpR op_eq (pv 3) pe_str (nomark _)) (pss_cons (ps_ret (pe_call G2 (hr.mono (by decide)) rfl g2 k2 b2 .nil pass0 (pa_cons (pv 0) (pa_cons (pv 1) (pa_cons (pe_ix (kIxT (K := K)) (pv 2) pe_int (fun _ _ => rfl)) (pa_cons (pe_ix (kIxT (K := K)) (pv 2) pe_int (fun _ _ => rfl)) pa_nil)))))) pss_nil) pss_nil) (pss_cons (ps_set (i := 4) sc.nd rfl (Or.inl rfl) (pe_op op_add (pe_op op_sub (pv 1) (pe_ix (kIxT (K := K)) (pv 2) pe_int (fun _ _ => rfl))) pe_int)) (pss_cons (ps_setLc (i := 5) (own := [("past", 6)]) (g := _) (tt := _) rfl sc.nd rfl rfl (sw_true rfl rfl rfl (by decide +kernel)) (pi_range2 rfl (T.free 2) (pa_cons (pv 4) (pa_cons (pe_op op_add (pv 1) pe_int) pa_nil))) (blkOk_by (N := NN__value) (sc := defScope st__value) (by decide +kernel)) (fun _ _ _ _ _ => (pg_name (i := 6) sc.nd rfl (Or.inl rfl))) (fun _ _ _ _ _ => pts_nil) (fun _ _ _ _ _ => (pe_call G0 (hr.mono (by decide)) rfl g0 k0 b0 .nil pass0 (pa_cons (pv 0) (pa_cons (pv 6) (pa_cons (pe_ix (kIxT (K := K)) (pv 2) pe_int (fun _ _ => rfl)) pa_nil)))))) (pss_cons (ps_if (pt_cmpR op_eq (pv 3) pe_str (nomark _)) (pss_cons (ps_ret (pe_callB (kAny (K := K) rfl) (by rfl) (T.free 8) (by decide +kernel) (pa_cons (pv 5) pa_nil))) pss_nil) pss_nil) (pss_cons (ps_ret (pe_callB (kAll (K := K) rfl) (by rfl) (T.free 7) (by decide +kernel) (pa_cons (pv 5) pa_nil))) pss_nil))))))))), ?_⟩
  refine sp_body h fun x => ?_
  obtain ⟨rows, day, condition⟩ := x
  show EvB K 0 _ [some (.val (tv (rSq .l (rSq .t rInt)) rows)), some (.val (tv rInt day)), some (.val (tv (rP4 rTxt rInt rInt rBool) condition)), none, none, none, none] [] (fun (w : Bool) => OS.rt (tv rBool w) []) (m_value rows day condition)
  unfold m_value
  exact (eb_asg (ev_op (ev_var rfl) ev_int (rv_ixT is_p4 rfl))
(eb_ifr (et_test (ev_op (ev_var rfl) (ev_txt (l := [111, 110]) (by decide +kernel)) rv_eqX)) (fun _ => eb_bind fun r1 h1 => (eb_ret (ev_op (ev_op (ev_var rfl) (ev_op (ev_var rfl) ev_int (rv_ixT is_p4 rfl)) (rv_modP h1)) (ev_op (ev_var rfl) ev_int (rv_ixT is_p4 rfl)) rv_eqI) rfl rfl))
(fun _ => (eb_ifr (et_test (ev_op (ev_var rfl) (ev_txt (l := [97, 116]) (by decide +kernel)) rv_eqX)) (fun _ => eb_bind fun r2 h2 => (eb_ret (ev_call (ts := [tv (rSq .l (rSq .t rInt)) rows, tv rInt (day - condition.2.2.1), tv rInt condition.2.1]) (x := (rows, (day - condition.2.2.1), condition.2.1)) (ea_cons (ev_var rfl) (ea_cons (ev_op (ev_var rfl) (ev_op (ev_var rfl) ev_int (rv_ixT is_p4 rfl)) rv_sub) (ea_cons (ev_op (ev_var rfl) ev_int (rv_ixT is_p4 rfl)) ea_nil))) (hm := h2)) rfl rfl))
(fun _ => (eb_ifr (et_test (ev_op (ev_var rfl) (ev_txt (l := [115, 105, 110, 99, 101]) (by decide +kernel)) rv_eqX)) (fun _ => eb_bind fun r3 h3 => (eb_ret (ev_call (ts := [tv (rSq .l (rSq .t rInt)) rows, tv rInt day, tv rInt condition.2.1, tv rInt condition.2.2.1]) (x := (rows, day, condition.2.1, condition.2.2.1)) (ea_cons (ev_var rfl) (ea_cons (ev_var rfl) (ea_cons (ev_op (ev_var rfl) ev_int (rv_ixT is_p4 rfl)) (ea_cons (ev_op (ev_var rfl) ev_int (rv_ixT is_p4 rfl)) ea_nil)))) (hm := h3)) rfl rfl))
(fun _ => (eb_ifr (et_test (ev_op (ev_var rfl) (ev_txt (l := [104, 101, 108, 100]) (by decide +kernel)) rv_eqX)) (fun _ => eb_bind fun r4 h4 => (eb_ret (ev_call (ts := [tv (rSq .l (rSq .t rInt)) rows, tv rInt day, tv rInt condition.2.1, tv rInt condition.2.2.1]) (x := (rows, day, condition.2.1, condition.2.2.1)) (ea_cons (ev_var rfl) (ea_cons (ev_var rfl) (ea_cons (ev_op (ev_var rfl) ev_int (rv_ixT is_p4 rfl)) (ea_cons (ev_op (ev_var rfl) ev_int (rv_ixT is_p4 rfl)) ea_nil)))) (hm := h4)) rfl rfl))
(fun _ => (eb_bind fun first5 h5 => (eb_asg (oeV h5 (ev_op (ev_op (ev_var rfl) (ev_op (ev_var rfl) ev_int (rv_ixT is_p4 rfl)) rv_sub) ev_int rv_add))
(eb_bind fun r6 h6 => eb_bind fun r7 h7 => eb_bind fun r10 h10 => (eb_asg (ev_lstR (ef_mapR (R' := rBool) (ei_rng2 (ea_cons (ev_var rfl) (ea_cons (ev_op (ev_var rfl) ev_int rv_add) ea_nil)) (rngP_ok h6).1 (rngP_ok h6).2) (fun _ => hz_size h7) trivial (fun _ => ego_name) (fun x8 y12 e11 => bo e11 fun r9 h9 e11 => oeV e11 (ev_call (ts := [tv (rSq .l (rSq .t rInt)) rows, tv rInt x8, tv rInt condition.2.1]) (x := (rows, x8, condition.2.1)) (ea_cons (ev_var rfl) (ea_cons (ev_var rfl) (ea_cons (ev_op (ev_var rfl) ev_int (rv_ixT is_p4 rfl)) ea_nil))) (hm := h9))) h10))
(eb_ifr (et_test (ev_op (ev_var rfl) (ev_txt (l := [119, 105, 116, 104, 105, 110]) (by decide +kernel)) rv_eqX)) (fun _ => (eb_ret (ev_cb1 (ev_var rfl) (rc_any is_seq)) rfl rfl))
(fun _ => (eb_ret (ev_cb1 (ev_var rfl) (rc_all is_seq)) rfl rfl))))))))))))))))
theorem ok__value (T : Txt fa fn K mg) : OkF P w K mg base "_value" ["rows", "day", "condition"] 2 (spT K F_value) := by
  obtain ⟨fd, F⟩ := T.c.def_ 10 rfl
  exact ⟨fd, fn__value T F, FunD.bindsN F fun _ _ _ _ _ _ us hl => match us, hl with | [_, _, _], _ => rfl, F.kp, T.glob 22 rfl⟩
end
abbrev st_condition_holds : Stmt := top 1
abbrev NN_condition_holds : List Str := ["rows", "day", "condition"]
theorem sc_condition_holds : FnScope NN_condition_holds ["rows", "day", "condition"] (defScope st_condition_holds) := ⟨rfl, rfl, rfl, by decide +kernel, rfl, by decide +kernel, by decide +kernel⟩
abbrev F_condition_holds : FS ((List (List Int)) × Int × ((List Nat) × Int × Int × Bool)) (Bool) where
  ins := fun x => [.val (tv (rSq .l (rSq .t rInt)) x.1), .val (tv rInt x.2.1), .val (tv (rP4 rTxt rInt rInt rBool) x.2.2)]
  cells := fun x => []
  m := fun x => m_condition_holds x.1 x.2.1 x.2.2
  out := fun x w => .rt (tv rBool w) []
section
variable {P : Program} {w : World} {K : PySem.W.Frag} {mg : Str → Option Value} {base : Heap}
set_option maxHeartbeats 4000000 in
theorem fn_condition_holds {fd : FuncData} (T : Txt fa fn K mg) (F : FunD K d11.name d11.qual d11.params d11.body d11.scope (d11.dvs K) (d11.kws K) (He.fAd K d11.at_) fd) : FnOk P w K mg base CX0 3 (He.ga K "condition_holds") fd ["rows", "day", "condition"] (spT K F_condition_holds) := by
  have sc := sc_condition_holds
  obtain ⟨fd0, G0, b0, k0, g0⟩ := ok__value (P := P) (w := w) (base := base) T
  refine F.ok sc (sp_len fun _ => rfl) (fun cdv A outer s H vs Q E hr h => ?_)
  refine ⟨_, PSs.nox (pss_cons (ps_ret (pe_cmpR op_eq (pe_call G0 (hr.mono (by decide)) rfl g0 k0 b0 .nil pass0 (pa_cons (pv 0) (pa_cons (pv 1) (pa_cons (pv 2) pa_nil)))) (pe_ix (kIxT (K := K)) (pv 2) (pe_un un_neg pe_int) (fun _ _ => rfl)) (nomark _))) pss_nil), ?_⟩
  refine sp_body h fun x => ?_
  obtain ⟨rows, day, condition⟩ := x
  show EvB K 0 _ [some (.val (tv (rSq .l (rSq .t rInt)) rows)), some (.val (tv rInt day)), some (.val (tv (rP4 rTxt rInt rInt rBool) condition))] [] (fun (w : Bool) => OS.rt (tv rBool w) []) (m_condition_holds rows day condition)
  unfold m_condition_holds
  exact eb_bind fun r1 h1 => (eb_ret (ev_op (ev_call (ts := [tv (rSq .l (rSq .t rInt)) rows, tv rInt day, tv (rP4 rTxt rInt rInt rBool) condition]) (x := (rows, day, condition)) (ea_cons (ev_var rfl) (ea_cons (ev_var rfl) (ea_cons (ev_var rfl) ea_nil))) (hm := h1)) (ev_op (ev_var rfl) ev_neg1 (rv_ixT is_p4 rfl)) rv_eqB) rfl rfl)
theorem ok_condition_holds (T : Txt fa fn K mg) : OkF P w K mg base "condition_holds" ["rows", "day", "condition"] 3 (spT K F_condition_holds) := by
  obtain ⟨fd, F⟩ := T.c.def_ 11 rfl
  exact ⟨fd, fn_condition_holds T F, FunD.bindsN F fun _ _ _ _ _ _ us hl => match us, hl with | [_, _, _], _ => rfl, F.kp, T.glob 23 rfl⟩
end
abbrev st_law : Stmt := top 14
abbrev NN_law : List Str := ["script", "pot", "atoms", "rows", "days", "day", "due", "given", "cond", "k", "truth", "wanted", "answer"]
theorem sc_law : FnScope NN_law ["script"] (defScope st_law) := ⟨rfl, rfl, rfl, by decide +kernel, rfl, by decide +kernel, by decide +kernel⟩
abbrev F_law : FS (List Int) (Bool) where
  ins := fun x => [.val (tv (rSq .q rInt) x)]
  cells := fun x => []
  m := fun x => m_law x
  out := fun x w => .rt (tv rBool w) []
section
variable {P : Program} {w : World} {K : PySem.W.Frag} {mg : Str → Option Value} {base : Heap}
set_option maxHeartbeats 4000000 in
theorem fn_law {fd : FuncData} (T : Txt fa fn K mg) (F : FunD K d12.name d12.qual d12.params d12.body d12.scope (d12.dvs K) (d12.kws K) (He.fAd K d12.at_) fd) : FnOk P w K mg base CX0 4 (He.ga K "law") fd ["script"] (spT K F_law) := by
  have sc := sc_law
  obtain ⟨fd0, G0, b0, k0, g0⟩ := ok__law_pot (P := P) (w := w) (base := base) T
  obtain ⟨fd1, G1, b1, k1, g1⟩ := ok__law_draw (P := P) (w := w) (base := base) T
  obtain ⟨fd2, G2, b2, k2, g2⟩ := ok__law_rows (P := P) (w := w) (base := base) T
  obtain ⟨fd3, G3, b3, k3, g3⟩ := ok__law_conditions (P := P) (w := w) (base := base) T
  obtain ⟨fd4, G4, b4, k4, g4⟩ := ok__law_truth (P := P) (w := w) (base := base) T
  obtain ⟨fd5, G5, b5, k5, g5⟩ := ok_condition_holds (P := P) (w := w) (base := base) T
  refine F.ok sc (sp_len fun _ => rfl) (fun cdv A outer s H vs Q E hr h => ?_)
  refine ⟨_, PSs.nox (pss_cons (ps_set (i := 1) sc.nd rfl (Or.inr rfl) (pe_call G0 (hr.mono (by decide)) rfl g0 k0 b0 .nil pass0 (pa_cons (pv 0) pa_nil))) (pss_cons (ps_setLc (i := 2) (own := [("k", 9)]) (g := _) (tt := _) rfl sc.nd rfl rfl (sw_true rfl rfl rfl (by decide +kernel)) (pi_range1 rfl (T.free 2) (pa_cons pe_int pa_nil)) (blkOk_by (N := NN_law) (sc := defScope st_law) (by decide +kernel)) (fun _ _ _ _ _ => (pg_name (i := 9) sc.nd rfl (Or.inl rfl))) (fun _ _ _ _ _ => pts_nil) (fun _ _ _ _ _ => (pe_call G1 (hr.mono (by decide)) rfl g1 k1 b1 .nil pass0 (pa_cons (pv 1) (pa_cons pe_int pa_nil))))) (pss_cons (ps_set (i := 3) sc.nd rfl (Or.inl rfl) (pe_call G2 (hr.mono (by decide)) rfl g2 k2 b2 .nil pass0 (pa_cons (pv 1) (pa_cons (pv 2) pa_nil)))) (pss_cons (ps_set (i := 4) sc.nd rfl (Or.inl rfl) (pe_lst (pa_cons pe_int (pa_cons (pe_op op_sub (pe_callB (kLen (K := K)) (by rfl) (T.free 3) (by decide +kernel) (pa_cons (pv 3) pa_nil)) pe_int) (pa_cons (pe_call G1 (hr.mono (by decide)) rfl g1 k1 b1 .nil pass0 (pa_cons (pv 1) (pa_cons (pe_callB (kLen (K := K)) (by rfl) (T.free 3) (by decide +kernel) (pa_cons (pv 3) pa_nil)) pa_nil))) (pa_cons (pe_call G1 (hr.mono (by decide)) rfl g1 k1 b1 .nil pass0 (pa_cons (pv 1) (pa_cons (pe_callB (kLen (K := K)) (by rfl) (T.free 3) (by decide +kernel) (pa_cons (pv 3) pa_nil)) pa_nil))) pa_nil)))))) (pss_cons (ps_for PassesOwn.never rfl (kPiL (K := K) (pv 4)) (pg_name (i := 5) sc.nd rfl (Or.inl rfl)) (pss_cons (ps_set (i := 6) sc.nd rfl (Or.inl rfl) (pe_slice (kSlL (K := K)) (pv 3) po_none (po_some (pe_op op_add (pv 5) pe_int)))) (pss_cons (ps_set (i := 7) sc.nd rfl (Or.inl rfl) (pe_callTy (kListOf (K := K)) (by rfl) (T.free 6) (by decide +kernel) (pa_cons (pv 6) pa_nil))) (pss_cons (ps_for PassesOwn.never rfl (kPiL (K := K) (pe_call G3 (hr.mono (by decide)) rfl g3 k3 b3 .nil pass0 (pa_cons (pv 1) (pa_cons (pv 2) (pa_cons (pv 5) pa_nil))))) (pg_name (i := 8) sc.nd rfl (Or.inl rfl)) (pss_cons (ps_set (i := 10) sc.nd rfl (Or.inl rfl) (pe_call G4 (hr.mono (by decide)) rfl g4 k4 b4 .nil pass0 (pa_cons (pv 6) (pa_cons (pv 5) (pa_cons (pv 8) pa_nil))))) (pss_cons (ps_for PassesOwn.never rfl (kPiL (K := K) (pe_lst (pa_cons pe_bl (pa_cons pe_bl pa_nil)))) (pg_name (i := 11) sc.nd rfl (Or.inl rfl)) (pss_cons (ps_set (i := 12) sc.nd rfl (Or.inl rfl) (pe_call G5 (hr.mono (by decide)) rfl g5 k5 b5 .nil pass0 (pa_cons (pv 7) (pa_cons (pv 5) (pa_cons (pe_op (kCatA (K := K)) (pv 8) (pe_tup (pa_cons (pv 11) pa_nil))) pa_nil))))) (pss_cons (ps_if (PW.pt (pw_or (pt_not (pt_val (pe_callB (kIsi (K := K)) (by rfl) (T.free 11) (by decide +kernel) (pa_cons (pv 12) (pa_cons (pe_bltn (v := .ty "bool") (by rfl) (T.free 10) (by decide +kernel) rfl) pa_nil))))) (pw_or1 (pt_cmpR op_ne (pv 12) (pe_cmpR op_eq (pv 10) (pv 11) (nomark _)) (nomark _))))) (pss_cons (ps_ret pe_bl) pss_nil) pss_nil) pss_nil))) pss_nil))) (pss_cons (ps_if (pt_cmpR (kNeD (K := K) hr.units) (pv 7) (pv 6) (nomark _)) (pss_cons (ps_ret pe_bl) pss_nil) pss_nil) pss_nil))))) (pss_cons (ps_ret pe_bl) pss_nil)))))), ?_⟩
  refine sp_body h fun script => ?_
  show EvB K 0 _ [some (.val (tv (rSq .q rInt) script)), none, none, none, none, none, none, none, none, none, none, none, none] [] (fun (w : Bool) => OS.rt (tv rBool w) []) (m_law script)
  unfold m_law
  exact (eb_bind fun r1 h1 => (eb_asg (ev_own (ef_call (ts := [tv (rSq .q rInt) script]) (x := script) (ea_cons (ev_var rfl) ea_nil) (hm := h1)))
(eb_bind fun r6 h6 => (eb_asg (ev_lstR (ef_mapS (mu := fun s4 => [some (mv_Pot s4)]) (R' := rInt) (ei_rng1 (ea_cons ev_int ea_nil) ⟨by decide, by decide⟩) (fun _ => hz_ble (by decide +kernel)) (fun _ => trivial) (fun _ => rfl) (fun _ => ego_name) (fun s4 x2 y8 s9 e7 => bo e7 fun r5 h5 e7 => oeP (mu := fun s4 => [some (mv_Pot s4)]) e7 (ev_call1 (k := 0) (x := (s4, (64 : Int))) (ea_cons (ev_var rfl) (ea_cons ev_int ea_nil)) rfl (hm := h5))) (pairR h6)))
(eb_bind fun r10 h10 => (eb_asg (ev_call1 (k := 0) (x := (r6.2, r6.1)) (ea_cons (ev_var rfl) (ea_cons (ev_var rfl) ea_nil)) rfl (hm := h10))
(eb_bind fun r11 h11 => eb_bind fun r12 h12 => eb_bind fun days13 h13 => (eb_asg (ev_lstR (oeF (R := rInt) h13 (ef_mkL (R := rInt) (xs := ([(0 : Int), ((r10.1.length : Int) - (1 : Int)), r11.1, r12.1] : List Int)) (ea_cons ev_int (ea_cons (ev_op (ev_cb1 (ev_var rfl) (rc_lenL is_seq)) ev_int rv_sub) (ea_cons (ev_call1 (k := 0) (x := (r10.2, (r10.1.length : Int))) (ea_cons (ev_var rfl) (ea_cons (ev_cb1 (ev_var rfl) (rc_lenL is_seq)) ea_nil)) rfl (hm := h11)) (ea_cons (ev_call1 (k := 0) (x := (r11.2, (r10.1.length : Int))) (ea_cons (ev_var rfl) (ea_cons (ev_cb1 (ev_var rfl) (rc_lenL is_seq)) ea_nil)) rfl (hm := h12)) ea_nil)))))))
(eb_for (g := fun (s14 : Pot) => [some (.val (tv (rSq .q rInt) script)), some (.cell 0), some (.val (tv (rSq .l rInt) r6.1)), some (.val (tv (rSq .l (rSq .t rInt)) r10.1)), some (.val (tv (rSq .l rInt) days13)), none, none, none, none, none, none, none, none]) (mu := fun (s14 : Pot) => [some (mv_Pot s14)]) (ei_L (ev_var rfl)) (fun _ => trivial) (.keep (.keep (.keep (.keep (.keep (.keep (.keep (.keep (.keep (.keep (.keep (.keep (.keep .nil))))))))))))) (fun _ => rfl) (fun _ _ => eg_name)
(fun s14 x15 => (eb_bind fun due16 h16 => (eb_asg (ev_lstR (oeF (R := (rSq .t rInt)) h16 (ef_slR (ev_var rfl) eo_none (eo_some (ev_op (ev_var rfl) ev_int rv_add)) is_seq)))
(eb_asg (ev_lstR (ef_cb1 (ev_var rfl) (rcF_list is_seq)))
(eb_bind fun r17 h17 => (eb_for (g := fun (s18 : Unit) => [some (.val (tv (rSq .q rInt) script)), some (.cell 0), some (.val (tv (rSq .l rInt) r6.1)), some (.val (tv (rSq .l (rSq .t rInt)) r10.1)), some (.val (tv (rSq .l rInt) days13)), some (.val (tv rInt x15)), some (.val (tv (rSq .l (rSq .t rInt)) due16)), some (.val (tv (rSq .l (rSq .t rInt)) due16)), none, none, none, none, none]) (mu := fun (s18 : Unit) => [some (mv_Pot r17.2)]) (ei_L (ev_call1 (k := 0) (x := (s14, r6.1, x15)) (ea_cons (ev_var rfl) (ea_cons (ev_var rfl) (ea_cons (ev_var rfl) ea_nil))) rfl (hm := h17))) (fun _ => trivial) (.keep (.keep (.keep (.keep (.keep (.keep (.keep (.keep (.keep (.keep (.keep (.keep (.keep .nil))))))))))))) (fun _ => rfl) (fun _ _ => eg_name)
(fun s18 x19 => (eb_bind fun r20 h20 => (eb_asg (ev_call (ts := [tv (rSq .l (rSq .t rInt)) due16, tv rInt x15, tv (rP3 rTxt rInt rInt) x19]) (x := (due16, x15, x19)) (ea_cons (ev_var rfl) (ea_cons (ev_var rfl) (ea_cons (ev_var rfl) ea_nil))) (hm := h20))
(eb_for (g := fun (s21 : Unit) => [some (.val (tv (rSq .q rInt) script)), some (.cell 0), some (.val (tv (rSq .l rInt) r6.1)), some (.val (tv (rSq .l (rSq .t rInt)) r10.1)), some (.val (tv (rSq .l rInt) days13)), some (.val (tv rInt x15)), some (.val (tv (rSq .l (rSq .t rInt)) due16)), some (.val (tv (rSq .l (rSq .t rInt)) due16)), some (.val (tv (rP3 rTxt rInt rInt) x19)), none, some (.val (tv rBool r20)), none, none]) (mu := fun (s21 : Unit) => [some (mv_Pot r17.2)]) (ei_L (ev_lstR (ef_mkL (R := rBool) (xs := ([true, false] : List Bool)) (ea_cons ev_bool (ea_cons ev_bool ea_nil))))) (fun _ => trivial) (.keep (.keep (.keep (.keep (.keep (.keep (.keep (.keep (.keep (.keep (.keep (.keep (.keep .nil))))))))))))) (fun _ => rfl) (fun _ _ => eg_name)
(fun s21 x22 => (eb_bind fun r23 h23 => (eb_asg (ev_call (ts := [tv (rSq .l (rSq .t rInt)) due16, tv rInt x15, tv (rP4 rTxt rInt rInt rBool) (x19.1, x19.2.1, x19.2.2, x22)]) (x := (due16, x15, (x19.1, x19.2.1, x19.2.2, x22))) (ea_cons (ev_var rfl) (ea_cons (ev_var rfl) (ea_cons (ev_as (s' := .val (tv (rP4 rTxt rInt rInt rBool) (x19.1, x19.2.1, x19.2.2, x22))) (ev_op (ev_var rfl) (ev_mk1 (ea_cons (ev_var rfl) ea_nil)) (rv_catT (k1 := 0) is_p3 is_p1 (fun z => nomatch z) (fun z => nomatch z) (hz_ble rfl))) rfl) ea_nil))) (hm := h23))
(eb_ifl (et_or0 (et_not (et_B (ev_cb2 (s2 := .val (rTy "bool")) (ev_var rfl) (ev_c fun _ _ => rfl) (rc_isi ty_bool (by decide +kernel))))) (et_test (ev_op (ev_var rfl) (ev_op (ev_var rfl) (ev_var rfl) rv_eqB) rv_neB))) (fun _ => (eb_ret ev_bool rfl rfl))
(fun _ => (eb_nil rfl (.keep (.keep (.keep (.keep (.keep (.keep (.keep (.keep (.keep (.keep (.keep (.drop (.drop .nil))))))))))))) rfl (Nat.le_of_ble_eq_true rfl) rfl))))))
(fun s21 => (eb_nil rfl (.keep (.keep (.keep (.keep (.keep (.keep (.keep (.keep (.drop (.keep (.drop (.keep (.keep .nil))))))))))))) rfl (Nat.le_of_ble_eq_true rfl) rfl))))))
(fun s18 => (eb_ifl (et_test (ev_op (ev_var rfl) (ev_var rfl) (rv_neD (drL (drV drInt)) (by decide)))) (fun _ => (eb_ret ev_bool rfl rfl))
(fun _ => (eb_nil rfl (.keep (.keep (.keep (.keep (.keep (.drop (.drop (.drop (.keep (.keep (.keep (.keep (.keep .nil))))))))))))) rfl (Nat.le_of_ble_eq_true rfl) rfl))))))))))
(fun s14 => (eb_ret ev_bool rfl rfl)))))))))))
theorem ok_law (T : Txt fa fn K mg) : OkF P w K mg base "law" ["script"] 4 (spT K F_law) := by
  obtain ⟨fd, F⟩ := T.c.def_ 12 rfl
  exact ⟨fd, fn_law T F, FunD.bindsN F fun _ _ _ _ _ _ us hl => match us, hl with | [_], _ => rfl, F.kp, T.glob 24 rfl⟩
end
section
variable {P : Program} {w : World} {K : PySem.W.Frag} {mg : Str → Option Value}
theorem ok_all (T : Txt fa fn K mg) : ∃ fd, ∀ base, FnOk P w K mg base CX0 4 (He.ga K "law") fd ["script"] (spT K F_law) ∧ ∀ s us, us.length = 1 → BindsTo s fd ⟨us, []⟩ ((["script"] : List Str).zip us) := by
  obtain ⟨fd, F⟩ := T.c.def_ 12 rfl
  exact ⟨fd, fun base => ⟨fn_law T F, FunD.bindsA (ps := ["script"]) F fun _ _ _ _ _ _ us hl => match us, hl with | [_], _ => rfl⟩⟩
end
end K10

namespace K10
open PySem PySem.Spec PyProof.Rows L2 TL
def lo0 : List PySem.Str := ["__name__", "condition_holds", "_value", "_atom_holds", "_since", "_held", "_law_pot", "_law_draw", "_law_row", "_law_rows", "_law_conditions", "_law_last", "_law_truth"]
def loose : List PySem.Str := lo0
abbrev Rw : PySem.W.OpenRow := PySem.W.OpenLaw.row PySem.Challenge.rw_rulewheel_k10_condition_meaning
abbrev hk : PySem.W.Hook := He.hookD 5 fa fn
def ob (s : PySem.W.SharedT) : He.AlD := He.obsDG 5 fa fn (HandSHeadRun.getT s)
theorem ob_eq (s : PySem.W.SharedT) : ob s = hk.obs s.abs := He.obsDG_eq (HandSHeadRun.getT_eq s)
theorem run (w : World) : HandSHeadRun.RunEq Rw (PySem.W.view Rw.prog [14]) hk ob 4000 loose w := by
  intro os
  kernel_rfl
theorem sp_law {K : PySem.W.Frag} {H : Hp} {a : Addr} {ns : List Int} (hl : ns.length ≤ 63) (hS : SqL K H a (ns.map V.int)) : spT K F_law [.ref a] H (fun v _ => v = .bl true) (fun _ _ _ => False) := by
  refine ⟨ns, true, H, [], law_true ns hl, ⟨Same.refl _, Same.refl _, fun _ _ e => .inl e, fun _ _ e _ => e, Pre.refl _, rfl, List.nodup_nil, fun k m e => by simp at e, fun a ha => by simp at ha, fun a ha => by simp at ha⟩, .cons ⟨a, ns.map V.int, rfl, hS, ?_, ints_allT ns⟩ .nil, ?_⟩
  · rw [List.length_map]
    exact Nat.le_trans hl (by decide)
  · exact fun v S' ls' H' Mj _ h => h
end K10
open PySem PySem.W PySem.Calls PyProof.Rows
theorem PySem.Challenge.cw_rulewheel_k10_condition_meaning_holds : PySem.Challenge.rw_rulewheel_k10_condition_meaning.Holds := by
  w_on; o_law
  refine HandSHeadRun.head_any (r := OpenLaw.row PySem.Challenge.rw_rulewheel_k10_condition_meaning) (q := view (OpenLaw.row PySem.Challenge.rw_rulewheel_k10_condition_meaning).prog [14]) (H := K10.hk) (ob := K10.ob) (M := 4000) (loose := K10.loose) (d := HandSHeadRun.topDef (OpenLaw.row PySem.Challenge.rw_rulewheel_k10_condition_meaning).prog 14) (kwd := []) K10.ob_eq
    (by kernel_rfl) (fun s => by kernel_rfl) K10.run (by kernel_rfl) (by kernel_rfl) (by kernel_rfl) (by rfl) (by first | assumption | decide +kernel) (by decide +kernel) ⟨rfl, rfl, rfl, rfl, rfl, by decide +kernel⟩ ?hw ?hc
  case hw => w_witness2
  case hc =>
    refine L2.walk_ofE (l := PySem.Challenge.rw_rulewheel_k10_condition_meaning) (n := 63) (k := 4) (x := "script") (CX := L2.CX0) rfl (by decide) (by kernel_rfl) ⟨rfl, by decide, by decide⟩ ?F (fun _ _ _ _ z => z)
    intro w mg fa h Y G hmg0
    obtain ⟨K, KX, c⟩ := Y
    have hmg : mg ("law" : PySem.Str) = some (.ref fa) := by
      have e : (HandSHeadRun.topDef (OpenLaw.row PySem.Challenge.rw_rulewheel_k10_condition_meaning).prog 14).name = ("law" : PySem.Str) := by kernel_rfl
      rw [← e]
      exact hmg0
    have T := TL.Txt.mk' KX G c
    obtain ⟨fd, _, _, _, g⟩ := K10.ok_law (P := (PySem.Challenge.rw_rulewheel_k10_condition_meaning).prog) (w := w) (base := h) T
    have efa : fa = He.ga K "law" := by
      rw [hmg] at g
      cases g
      rfl
    subst efa
    obtain ⟨fd, hF⟩ := K10.ok_all (P := (PySem.Challenge.rw_rulewheel_k10_condition_meaning).prog) (w := w) T
    exact ⟨K, fd, TL.spT K K10.F_law, KX, fun s v => (hF h).2 s [v] rfl, fun H a ns hl _ hS => K10.sp_law hl hS, fun base _ _ => (hF base).1⟩
