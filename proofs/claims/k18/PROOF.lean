import PyProof.Rows.All
import Wide.All
import OpenK.AllK
import Wide.FinOn
import HandS.ForMost
import HandS.Wide
import HandS.WideBits
import HandS.Conv
import HandS.SortInts
import HandS.IsInst
import HandS.TupAny
import HandS.Defaults
import HandS.HeadHook1
import HandS.HeadHook2
import HandS.Style
import HandS.Steps
import HandS.TupLen
import HandS.WordsDict
import KE.KStateDown
import HandS.More
import HandS.WordsExc
import HandS.Head0
import HandS.Head1
import HandS.Head2
import HandS.Head3
import HandS.HeadEnd
import PySem.Challenge.RW_rulewheel_k18_known_values
set_option Elab.async false
set_option linter.all false
set_option maxRecDepth 100000
set_option maxHeartbeats 0
/-! TLm: what mirrors are written in. Plain Lean, no import. -/
namespace TL
/-- what an exception of the program bears -/
inductive XA where
  | int (i : Int) | txt (s : List Nat)
  deriving DecidableEq
inductive Er where
  | stuck | exc (cls : Nat) (args : List XA)
  deriving DecidableEq
abbrev Mr (α : Type) : Type := Except Er α
theorem bind_ok {α β : Type} {p : Mr α} {k : α → Mr β} {r : β} (h : (p >>= k) = .ok r) : ∃ a, p = .ok a ∧ k a = .ok r := by
  cases p with
  | error e => cases h
  | ok a => exact ⟨a, rfl, h⟩
theorem ok_bind {α β : Type} {a : α} {k : α → Mr β} : ((.ok a : Mr α) >>= k) = k a := rfl
theorem error_bind {α β : Type} {e : Er} {k : α → Mr β} : ((.error e : Mr α) >>= k) = .error e := rfl
/-! places -/
def ixQ (n : Nat) (i : Int) : Option Nat := if 0 ≤ i then (if i < n then some i.toNat else none) else if -(n : Int) ≤ i then some (i + n).toNat else none
def atQ {α : Type} (xs : List α) (i : Int) : Option α := (ixQ xs.length i).bind fun j => xs[j]?
def getI {α : Type} (xs : List α) (i : Int) : Mr α := match atQ xs i with
  | some x => .ok x
  | none => .error .stuck
def setI {α : Type} (xs : List α) (i : Int) (x : α) : Mr (List α) := match ixQ xs.length i with
  | some j => .ok (xs.set j x)
  | none => .error .stuck
theorem ixQ_nat {n j : Nat} (h : j < n) : ixQ n (j : Int) = some j := by
  unfold ixQ
  rw [if_pos (by omega), if_pos (by omega)]
  simp
theorem getI_nat {α : Type} {xs : List α} {j : Nat} {x : α} (h : xs[j]? = some x) : getI xs (j : Int) = .ok x := by
  have hj : j < xs.length := (List.getElem?_eq_some_iff.mp h).1
  unfold getI atQ
  rw [ixQ_nat hj]
  show (match xs[j]? with | some x => _ | none => _) = _
  rw [h]
theorem getI_of {α : Type} {xs : List α} {i : Int} (h0 : 0 ≤ i) (h : i < xs.length) : ∃ x, xs[i.toNat]? = some x ∧ getI xs i = .ok x := by
  have hj : i.toNat < xs.length := by omega
  refine ⟨xs[i.toNat], by simp [hj], ?_⟩
  have := getI_nat (xs := xs) (j := i.toNat) (x := xs[i.toNat]) (by simp [hj])
  rwa [Int.toNat_of_nonneg h0] at this
theorem getI_some {α : Type} {xs : List α} {i : Int} {x : α} (h0 : 0 ≤ i) (h : getI xs i = .ok x) : xs[i.toNat]? = some x := by
  unfold getI at h
  split at h
  · rename_i y e
    cases h
    unfold atQ ixQ at e
    rw [if_pos h0] at e
    split at e
    · exact e
    · cases e
  · cases h
theorem setI_nat {α : Type} {xs : List α} {j : Nat} {x : α} (h : j < xs.length) : setI xs (j : Int) x = .ok (xs.set j x) := by
  unfold setI
  rw [ixQ_nat h]
/-! ranges -/
def rngI (a b : Int) : List Int := (List.range (b - a).toNat).map fun (i : Nat) => a + (i : Int)
def rngD (a b : Int) : List Int := (List.range (a - b).toNat).map fun (i : Nat) => a + (i : Int) * (-1)
def rngP (a b : Int) : Mr Unit := if (-(2 ^ 62) ≤ a ∧ a < 2 ^ 62) ∧ (-(2 ^ 62) ≤ b ∧ b < 2 ^ 62) then .ok () else .error .stuck
theorem rngP_pos {a b : Int} (h1 : -(2 ^ 62) ≤ a) (h2 : a < 2 ^ 62) (h3 : -(2 ^ 62) ≤ b) (h4 : b < 2 ^ 62) : rngP a b = .ok () := if_pos ⟨⟨h1, h2⟩, h3, h4⟩
/-! blocks, loops -/
inductive Jn (τ ω : Type) where
  | go (s : τ) | out (w : ω)
def Jn.k {τ ω : Type} (k : τ → Mr ω) : Jn τ ω → Mr ω
  | .go s => k s
  | .out w => .ok w
inductive Stp (τ ω : Type) where
  | go (s : τ) | cnt (s : τ) | brk (s : τ) | out (w : ω)
def Stp.k {τ ω : Type} (k : τ → Mr ω) : Stp τ ω → Mr ω
  | .go s => k s
  | .cnt s => k s
  | .brk s => k s
  | .out w => .ok w
def forL {α τ ω : Type} : List α → τ → (τ → α → Mr (Stp τ ω)) → Mr (Stp τ ω)
  | [], s, _ => .ok (.go s)
  | x :: xs, s, f => match f s x with
    | .error e => .error e
    | .ok (.go s') => forL xs s' f
    | .ok (.cnt s') => forL xs s' f
    | .ok (.brk s') => .ok (.brk s')
    | .ok (.out w) => .ok (.out w)
def whileL {τ ω : Type} (c : τ → Mr Bool) (f : τ → Mr (Stp τ ω)) : Nat → τ → Mr (Stp τ ω)
  | 0, _ => .error .stuck
  | n + 1, s => match c s with
    | .error e => .error e
    | .ok false => .ok (.go s)
    | .ok true => match f s with
      | .error e => .error e
      | .ok (.go s') => whileL c f n s'
      | .ok (.cnt s') => whileL c f n s'
      | .ok (.brk s') => .ok (.brk s')
      | .ok (.out w) => .ok (.out w)
/-! comprehensions -/
def lcR {α β τ : Type} : List α → τ → (τ → α → Mr (Option β × τ)) → Mr (List β × τ)
  | [], s, _ => .ok ([], s)
  | x :: xs, s, f => match f s x with
    | .error e => .error e
    | .ok (o, s1) => match lcR xs s1 f with
      | .error e => .error e
      | .ok (ys, s2) => .ok (o.toList ++ ys, s2)
def mapR {α β : Type} (f : α → Mr β) : List α → Mr (List β)
  | [] => .ok []
  | x :: xs => match f x with
    | .error e => .error e
    | .ok y => match mapR f xs with
      | .error e => .error e
      | .ok ys => .ok (y :: ys)
def mapS {α β τ : Type} (f : τ → α → Mr (β × τ)) : List α → τ → Mr (List β × τ)
  | [], s => .ok ([], s)
  | x :: xs, s => match f s x with
    | .error e => .error e
    | .ok (y, s1) => match mapS f xs s1 with
      | .error e => .error e
      | .ok (ys, s2) => .ok (y :: ys, s2)
def filR {α β : Type} (f : α → Mr (Option β)) : List α → Mr (List β)
  | [] => .ok []
  | x :: xs => match f x with
    | .error e => .error e
    | .ok o => match filR f xs with
      | .error e => .error e
      | .ok ys => .ok (o.toList ++ ys)
theorem mapR_ok {α β : Type} {f : α → Mr β} {g : α → β} : ∀ {xs : List α}, (∀ x ∈ xs, f x = .ok (g x)) → mapR f xs = .ok (xs.map g)
  | [], _ => rfl
  | x :: xs, h => by
    unfold mapR
    rw [h x (List.mem_cons_self ..)]
    dsimp only
    rw [mapR_ok fun y hy => h y (List.mem_cons_of_mem _ hy)]
    rfl
theorem forL_go {α τ ω : Type} {f : τ → α → Mr (Stp τ ω)} {g : τ → α → τ} : ∀ {xs : List α} {s : τ}, (∀ s, ∀ x ∈ xs, f s x = .ok (.go (g s x))) → forL xs s f = .ok (.go (xs.foldl g s))
  | [], _, _ => rfl
  | x :: xs, s, h => by
    unfold forL
    rw [h s x (List.mem_cons_self ..)]
    exact forL_go fun s y hy => h s y (List.mem_cons_of_mem _ hy)
/-! bounds -/
def growOk {α : Type} (xs : List α) : Mr Unit := if xs.length < 16777216 then .ok () else .error .stuck
def catOk {α β : Type} (xs : List α) (ys : List β) : Mr Unit := if xs.length + ys.length ≤ 16777216 then .ok () else .error .stuck
def repL {α : Type} (xs : List α) (n : Int) : List α := (List.replicate n.toNat xs).flatten
def repOk {α : Type} (xs : List α) (n : Int) : Mr Unit := if -(2 ^ 63) ≤ n ∧ n < 2 ^ 63 ∧ xs.length * n.toNat ≤ 16777216 then .ok () else .error .stuck
def sizeP {α : Type} (xs : List α) : Mr Unit := if xs.length ≤ 16777216 then .ok () else .error .stuck
/-! slices -/
def sIxQ (n d : Nat) : Option Int → Nat
  | none => d
  | some v => if v < 0 then (v + (n : Int)).toNat else min v.toNat n
def cut {α : Type} (xs : List α) (lo hi : Option Int) : List α := (xs.drop (sIxQ xs.length 0 lo)).take (sIxQ xs.length xs.length hi - sIxQ xs.length 0 lo)
theorem cut_from {α : Type} {xs : List α} {a : Int} (h : 0 ≤ a) : cut xs (some a) none = xs.drop a.toNat := by
  unfold cut sIxQ
  simp only [if_neg (show ¬ a < 0 by omega)]
  by_cases hl : a.toNat ≤ xs.length
  · rw [Nat.min_eq_left hl, List.take_of_length_le]
    rw [List.length_drop]
    exact Nat.le_refl _
  · rw [Nat.min_eq_right (by omega), List.drop_eq_nil_of_le (Nat.le_refl _), List.drop_eq_nil_of_le (by omega)]
    simp
theorem cut_to {α : Type} {xs : List α} {b : Int} (h : 0 ≤ b) : cut xs none (some b) = xs.take b.toNat := by
  unfold cut sIxQ
  simp only [if_neg (show ¬ b < 0 by omega)]
  rw [List.drop_zero, Nat.sub_zero]
  by_cases hl : b.toNat ≤ xs.length
  · rw [Nat.min_eq_left hl]
  · rw [Nat.min_eq_right (by omega), List.take_of_length_le (Nat.le_refl _), List.take_of_length_le (by omega)]
/-! numbers -/
def absI (a : Int) : Int := if a < 0 then -a else a
/-- how many bits (as the model counts them) -/
def bitsQ (a : Int) : Nat := if a.natAbs = 0 then 0 else a.natAbs.log2 + 1
def modP (a b : Int) : Mr Int := if 0 < b then .ok (a % b) else .error .stuck
def fdivP (a b : Int) : Mr Int := if 0 < b ∧ b.natAbs.log2 < 9000 then .ok (a / b) else .error .stuck
def mulP (a b : Int) : Mr Int := if bitsQ a + bitsQ b ≤ 134217728 then .ok (a * b) else .error .stuck
def powP (a b : Int) : Mr Int := if 0 ≤ b ∧ (bitsQ a : Int) * b ≤ 2 ^ 27 then .ok (a ^ b.toNat) else .error .stuck
def shrP (a b : Int) : Mr Int := if 0 ≤ b then .ok (a / 2 ^ b.toNat) else .error .stuck
theorem modP_pos {a b : Int} (h : 0 < b) : modP a b = .ok (a % b) := if_pos h
/-! None or a value; dicts -/
def getO {α : Type} : Option α → Mr α
  | some x => .ok x
  | none => .error .stuck
def dget {κ α : Type} [DecidableEq κ] (xs : List (κ × α)) (k : κ) : Option α := (xs.find? fun kv => decide (kv.1 = k)).map (·.2)
def dput {κ α : Type} [DecidableEq κ] (xs : List (κ × α)) (k : κ) (x : α) : List (κ × α) :=
  if (xs.any fun kv => decide (kv.1 = k)) = true then xs.map (fun kv => if kv.1 = k then (kv.1, x) else kv) else xs ++ [(k, x)]
def getD {κ α : Type} [DecidableEq κ] (xs : List (κ × α)) (k : κ) : Mr α := match dget xs k with
  | some x => .ok x
  | none => .error .stuck
def popI {α : Type} (xs : List α) (i : Int) : Mr (α × List α) := match ixQ xs.length i with
  | some j => match xs[j]? with
    | some x => .ok (x, xs.eraseIdx j)
    | none => .error .stuck
  | none => .error .stuck
def maxL : List Int → Mr Int
  | [] => .error .stuck
  | n :: ns => .ok (ns.foldl (fun a b => if b > a then b else a) n)
def minL : List Int → Mr Int
  | [] => .error .stuck
  | n :: ns => .ok (ns.foldl (fun a b => if b < a then b else a) n)
def sortI (ns : List Int) : List Int := ns.mergeSort fun a b => decide (a ≤ b)
end TL

/-! TLp: rules for mirrors that come to an end well. Plain Lean. -/
namespace TL
def Post {α : Type} (m : Mr α) (Q : α → Prop) : Prop := ∃ a, m = .ok a ∧ Q a
section
variable {α β τ ω : Type}
theorem post_ok {a : α} {Q : α → Prop} (h : Q a) : Post (.ok a : Mr α) Q := ⟨a, rfl, h⟩
theorem post_eq {m : Mr α} {a : α} {Q : α → Prop} (e : m = .ok a) (h : Q a) : Post m Q := ⟨a, e, h⟩
theorem post_bind {m : Mr α} {k : α → Mr β} {Q : α → Prop} {R : β → Prop} (h : Post m Q) (g : ∀ a, Q a → Post (k a) R) : Post (m >>= k) R := by
  obtain ⟨a, e, q⟩ := h
  obtain ⟨b, e2, r⟩ := g a q
  exact ⟨b, by rw [e]; exact e2, r⟩
theorem post_bindE {m : Mr α} {k : α → Mr β} {a : α} {R : β → Prop} (e : m = .ok a) (g : Post (k a) R) : Post (m >>= k) R := by
  rw [e]
  exact g
theorem post_if {c : Prop} [Decidable c] {a b : Mr α} {Q : α → Prop} (h1 : c → Post a Q) (h2 : ¬ c → Post b Q) : Post (if c then a else b) Q := by
  by_cases h : c
  · rw [if_pos h]
    exact h1 h
  · rw [if_neg h]
    exact h2 h
theorem post_mono {m : Mr α} {Q R : α → Prop} (h : Post m Q) (g : ∀ a, Q a → R a) : Post m R := by
  obtain ⟨a, e, q⟩ := h
  exact ⟨a, e, g a q⟩
/-- what a block may come to -/
def JQ (A : τ → Prop) (B : ω → Prop) : Jn τ ω → Prop
  | .go s => A s
  | .out w => B w
def SQ (A : τ → Prop) (B : τ → Prop) (W : ω → Prop) : Stp τ ω → Prop
  | .go s => A s
  | .cnt s => A s
  | .brk s => B s
  | .out w => W w
theorem post_jn {m : Mr (Jn τ ω)} {k : τ → Mr ω} {A : τ → Prop} {Q : ω → Prop} (h : Post m (JQ A Q)) (g : ∀ s, A s → Post (k s) Q) : Post (m >>= Jn.k k) Q := by
  refine post_bind h fun j q => ?_
  cases j with
  | go s => exact g s q
  | out w => exact post_ok q
theorem post_stp {m : Mr (Stp τ ω)} {k : τ → Mr ω} {A : τ → Prop} {Q : ω → Prop} (h : Post m (SQ A A Q)) (g : ∀ s, A s → Post (k s) Q) : Post (m >>= Stp.k k) Q := by
  refine post_bind h fun j q => ?_
  cases j with
  | go s => exact g s q
  | cnt s => exact g s q
  | brk s => exact g s q
  | out w => exact post_ok q
theorem post_for {xs : List α} {s : τ} {f : τ → α → Mr (Stp τ ω)} (I : Nat → τ → Prop) {W : ω → Prop} {n : Nat} (h0 : I n s) (h : ∀ k s x, x ∈ xs → k < n + xs.length → I k s → Post (f s x) (SQ (I (k + 1)) (I (n + xs.length)) W)) : Post (forL xs s f) (SQ (I (n + xs.length)) (I (n + xs.length)) W) := by
  induction xs generalizing s n with
  | nil => exact post_ok h0
  | cons x xs ih =>
    have en : n + (x :: xs).length = n + 1 + xs.length := by simp; omega
    rw [en] at h ⊢
    obtain ⟨j, e, q⟩ := h n s x (List.mem_cons_self ..) (by omega) h0
    unfold forL
    rw [e]
    cases j with
    | go s1 => exact ih q fun k s y hy hk => h k s y (List.mem_cons_of_mem _ hy) hk
    | cnt s1 => exact ih q fun k s y hy hk => h k s y (List.mem_cons_of_mem _ hy) hk
    | brk s1 => exact post_ok q
    | out w => exact post_ok q
theorem post_forI {xs : List α} {s : τ} {f : τ → α → Mr (Stp τ ω)} {I : τ → Prop} {W : ω → Prop} (h0 : I s) (h : ∀ s x, x ∈ xs → I s → Post (f s x) (SQ I I W)) : Post (forL xs s f) (SQ I I W) :=
  post_for (n := 0) (fun _ => I) h0 fun _ s x hx _ i => h s x hx i
theorem post_forA {xs : List α} {s : τ} {f : τ → α → Mr (Stp τ ω)} (I : Nat → τ → Prop) {A : τ → Prop} {W : ω → Prop} (h0 : I 0 s) (h : ∀ k s x, x ∈ xs → k < xs.length → I k s → Post (f s x) (SQ (I (k + 1)) (I xs.length) W)) (fin : ∀ s, I xs.length s → A s) : Post (forL xs s f) (SQ A A W) := by
  refine post_mono (post_for (n := 0) (W := W) I h0 fun k s x hx hk hs => ?_) fun j hj => ?_
  · rw [Nat.zero_add] at hk ⊢
    exact h k s x hx hk hs
  · rw [Nat.zero_add] at hj
    cases j with
    | go s => exact fin s hj
    | cnt s => exact fin s hj
    | brk s => exact fin s hj
    | out w => exact hj
theorem post_mapS {f : τ → α → Mr (β × τ)} {I : τ → Prop} {B : β → Prop} : ∀ {xs : List α} {s : τ}, I s → (∀ s x, x ∈ xs → I s → Post (f s x) fun r => B r.1 ∧ I r.2) → Post (mapS f xs s) fun r => r.1.length = xs.length ∧ (∀ y ∈ r.1, B y) ∧ I r.2
  | [], s, h0, _ => post_ok (a := ([], s)) ⟨rfl, fun _ h => (by cases h), h0⟩
  | x :: xs, s, h0, h => by
    obtain ⟨⟨y, s1⟩, e, b, i⟩ := h s x (List.mem_cons_self ..) h0
    obtain ⟨⟨ys, s2⟩, e2, l, bs, i2⟩ := post_mapS (xs := xs) i fun s y hy => h s y (List.mem_cons_of_mem _ hy)
    refine ⟨(y :: ys, s2), ?_, by simpa using l, ?_, i2⟩
    · unfold mapS
      rw [e]
      show (match mapS f xs s1 with | .error e => _ | .ok (ys, s2) => _) = _
      rw [e2]
    · intro z hz
      rcases List.mem_cons.mp hz with rfl | hz
      · exact b
      · exact bs z hz
theorem post_filR {f : α → Mr (Option β)} : ∀ {xs : List α}, (∀ x ∈ xs, Post (f x) fun _ => True) → Post (filR f xs) fun r => r.length ≤ xs.length
  | [], _ => post_ok (Nat.le_refl _)
  | x :: xs, h => by
    obtain ⟨o, e, _⟩ := h x (List.mem_cons_self ..)
    obtain ⟨ys, e2, l⟩ := post_filR (xs := xs) fun y hy => h y (List.mem_cons_of_mem _ hy)
    refine ⟨o.toList ++ ys, ?_, ?_⟩
    · unfold filR
      rw [e]
      show (match filR f xs with | .error e => _ | .ok ys => _) = _
      rw [e2]
    · have : o.toList.length ≤ 1 := by cases o <;> simp
      simp only [List.length_append, List.length_cons]
      omega
end
theorem rngI_cons {a b : Int} (h : a < b) : rngI a b = a :: rngI (a + 1) b := by
  unfold rngI
  have e : (b - a).toNat = (b - (a + 1)).toNat + 1 := by omega
  rw [e, List.range_succ_eq_map, List.map_cons, List.map_map]
  congr 1
  · omega
  · refine List.map_congr_left fun i _ => ?_
    simp
    omega
theorem rngI_nil {a b : Int} (h : b ≤ a) : rngI a b = [] := by
  unfold rngI
  have e : (b - a).toNat = 0 := by omega
  rw [e]
  rfl
theorem post_rng0 {τ ω : Type} {f : τ → Int → Mr (Stp τ ω)} {b : Int} (I : Int → τ → Prop) {A : τ → Prop} {W : ω → Prop} (fin : ∀ s, I b s → A s) : ∀ (n : Nat) (a : Int) (s : τ), b - a = n → I a s → (∀ x s, a ≤ x → x < b → I x s → Post (f s x) (SQ (I (x + 1)) A W)) → Post (forL (rngI a b) s f) (SQ A A W)
  | 0, a, s, e, h0, _ => by
    rw [rngI_nil (by omega)]
    have : a = b := by omega
    subst this
    exact post_ok (fin s h0)
  | n + 1, a, s, e, h0, h => by
    rw [rngI_cons (by omega)]
    obtain ⟨j, ej, q⟩ := h a s (Int.le_refl a) (by omega) h0
    unfold forL
    rw [ej]
    cases j with
    | go s1 => exact post_rng0 I fin n (a + 1) s1 (by omega) q fun x s h1 h2 => h x s (by omega) h2
    | cnt s1 => exact post_rng0 I fin n (a + 1) s1 (by omega) q fun x s h1 h2 => h x s (by omega) h2
    | brk s1 => exact post_ok q
    | out w => exact post_ok q
/-- a loop over a range, by an invariant that tells the next item -/
theorem post_rng {τ ω : Type} {f : τ → Int → Mr (Stp τ ω)} {a b : Int} {s : τ} (I : Int → τ → Prop) {A : τ → Prop} {W : ω → Prop} (hab : a ≤ b) (h0 : I a s) (h : ∀ x s, a ≤ x → x < b → I x s → Post (f s x) (SQ (I (x + 1)) A W)) (fin : ∀ s, I b s → A s) : Post (forL (rngI a b) s f) (SQ A A W) :=
  post_rng0 I fin (b - a).toNat a s (by omega) h0 h
theorem rngI_len (a b : Int) : (rngI a b).length = (b - a).toNat := by simp [rngI]
theorem mem_rngI {a b x : Int} : x ∈ rngI a b ↔ a ≤ x ∧ x < b := by
  unfold rngI
  rw [List.mem_map]
  constructor
  · rintro ⟨i, hi, rfl⟩
    have := List.mem_range.mp hi
    omega
  · rintro ⟨h1, h2⟩
    refine ⟨(x - a).toNat, List.mem_range.mpr (by omega), by omega⟩
theorem mem_drop {α : Type} {xs : List α} {n : Nat} {x : α} : x ∈ xs.drop n ↔ ∃ i, n ≤ i ∧ xs[i]? = some x := by
  rw [List.mem_iff_getElem?]
  constructor
  · rintro ⟨i, h⟩
    rw [List.getElem?_drop] at h
    exact ⟨n + i, by omega, h⟩
  · rintro ⟨i, h1, h2⟩
    refine ⟨i - n, ?_⟩
    rw [List.getElem?_drop]
    rwa [show n + (i - n) = i by omega]
theorem modP_ok {a b : Int} (h : 0 < b) : modP a b = .ok (a % b) := if_pos h
theorem fdivP_ok {a b : Int} (h : 0 < b) (h2 : b < 2 ^ 62) : fdivP a b = .ok (a / b) := by
  have h1 : b.natAbs < 2 ^ 62 := by omega
  have h3 : b.natAbs ≠ 0 := by omega
  have h4 := (Nat.log2_lt h3).mpr h1
  exact if_pos ⟨h, by omega⟩
theorem bitsQ_le {a : Int} {k : Nat} (h : a.natAbs < 2 ^ k) : bitsQ a ≤ k := by
  unfold bitsQ
  split
  · omega
  · rename_i h0
    have := (Nat.log2_lt h0).mpr h
    omega
theorem mulP_ok {a b : Int} (h1 : 0 ≤ a) (h2 : a < 2 ^ 62) (h3 : 0 ≤ b) (h4 : b < 2 ^ 62) : mulP a b = .ok (a * b) := by
  unfold mulP
  have := bitsQ_le (a := a) (k := 62) (by omega)
  have := bitsQ_le (a := b) (k := 62) (by omega)
  rw [if_pos (by omega)]
theorem shrP_ok {a b : Int} (h : 0 ≤ b) : shrP a b = .ok (a / 2 ^ b.toNat) := if_pos h
theorem growOk_ok {α : Type} {xs : List α} (h : xs.length < 16777216) : growOk xs = .ok () := if_pos h
theorem catOk_ok {α β : Type} {xs : List α} {ys : List β} (h : xs.length + ys.length ≤ 16777216) : catOk xs ys = .ok () := if_pos h
theorem sizeP_ok {α : Type} {xs : List α} (h : xs.length ≤ 16777216) : sizeP xs = .ok () := if_pos h
theorem repL_len {α : Type} {xs : List α} {n : Int} : (repL xs n).length = xs.length * n.toNat := by
  unfold repL
  simp [List.length_flatten, Nat.mul_comm]
theorem post_getI {α : Type} {xs : List α} {i : Int} (h0 : 0 ≤ i) (h : i < xs.length) : Post (getI xs i) fun x => xs[i.toNat]? = some x := by
  obtain ⟨x, e, g⟩ := getI_of h0 h
  exact ⟨x, g, e⟩
theorem post_setI {α : Type} {xs : List α} {i : Int} {x : α} (h0 : 0 ≤ i) (h : i < xs.length) : Post (setI xs i x) fun r => r = xs.set i.toNat x := by
  have := setI_nat (xs := xs) (j := i.toNat) (x := x) (by omega)
  rw [Int.toNat_of_nonneg h0] at this
  exact ⟨_, this, rfl⟩
end TL

/-! TL: typed readings. A layer of our own over the hand layer: values by typed representations, a stable heap S beside a list of own cells. -/
namespace TL
open PySem L2

/-! ### representations -/
structure TV where
  p : PySem.W.Frag → Hp → V → Prop
  mono : ∀ {K : PySem.W.Frag} {S S' : Hp} {v : V}, Same S S' → p K S v → p K S' v
structure Rep (α : Type) where
  p : PySem.W.Frag → Hp → V → α → Prop
  mono : ∀ {K : PySem.W.Frag} {S S' : Hp} {v : V} {a : α}, Same S S' → p K S v a → p K S' v a
def tv {α : Type} (R : Rep α) (a : α) : TV := ⟨fun K S v => R.p K S v a, R.mono⟩

def Pre (ls ls' : List Addr) : Prop := ∃ more, ls' = ls ++ more
theorem Pre.refl (ls : List Addr) : Pre ls ls := ⟨[], by simp⟩
theorem Pre.trans {a b c : List Addr} (h : Pre a b) (g : Pre b c) : Pre a c := by
  obtain ⟨x, rfl⟩ := h
  obtain ⟨y, rfl⟩ := g
  exact ⟨x ++ y, by simp⟩
theorem Pre.get {ls ls' : List Addr} (h : Pre ls ls') {k : Nat} {a : Addr} (e : ls[k]? = some a) : ls'[k]? = some a := by
  obtain ⟨m, rfl⟩ := h
  rw [List.getElem?_append_left (List.getElem?_eq_some_iff.mp e).1]
  exact e
theorem Pre.mem {ls ls' : List Addr} (h : Pre ls ls') {a : Addr} (e : a ∈ ls) : a ∈ ls' := by
  obtain ⟨m, rfl⟩ := h
  exact List.mem_append_left _ e

/-- what a slot holds: a value that stands, or an own cell -/
inductive SV where
  | val (t : TV) | cell (k : Nat)
def SV.p (K : PySem.W.Frag) (S : Hp) (ls : List Addr) (v : V) : SV → Prop
  | .val t => t.p K S v
  | .cell k => ∃ a, ls[k]? = some a ∧ v = .ref a
theorem SV.mono {K : PySem.W.Frag} {S S' : Hp} {ls ls' : List Addr} {v : V} (h : Same S S') (g : Pre ls ls') : ∀ {s : SV}, s.p K S ls v → s.p K S' ls' v
  | .val t, q => t.mono h q
  | .cell k, ⟨a, e, r⟩ => ⟨a, g.get e, r⟩
def AllS (K : PySem.W.Frag) (S : Hp) (ls : List Addr) : List V → List SV → Prop := Paired fun v s => s.p K S ls v
theorem Paired.imp {α β : Type} {F G : α → β → Prop} : ∀ {l₁ : List α} {l₂ : List β}, Paired F l₁ l₂ → (∀ a b, F a b → G a b) → Paired G l₁ l₂
  | _, _, .nil, _ => .nil
  | _, _, .cons r t, f => .cons (f _ _ r) (Paired.imp t f)
theorem AllS.mono {K : PySem.W.Frag} {S S' : Hp} {ls ls' : List Addr} {vs : List V} {ss : List SV} (h : Same S S') (g : Pre ls ls') (q : AllS K S ls vs ss) : AllS K S' ls' vs ss :=
  Paired.imp q fun _ _ z => SV.mono h g z
theorem Paired.get1 {α β : Type} {F : α → β → Prop} : ∀ {l₁ : List α} {l₂ : List β} {i : Nat} {x : α}, Paired F l₁ l₂ → l₁[i]? = some x → ∃ y, l₂[i]? = some y ∧ F x y
  | _, _, _, _, .nil, e => by simp at e
  | _, _, 0, _, .cons r _, e => by
    simp at e
    subst e
    exact ⟨_, rfl, r⟩
  | _, _, i + 1, x, .cons _ t, e => by
    obtain ⟨u, h1, h2⟩ := Paired.get1 (i := i) (x := x) t (by simpa using e)
    exact ⟨u, by simpa using h1, h2⟩
theorem Paired.get2 {α β : Type} {F : α → β → Prop} : ∀ {l₁ : List α} {l₂ : List β} {i : Nat} {y : β}, Paired F l₁ l₂ → l₂[i]? = some y → ∃ x, l₁[i]? = some x ∧ F x y
  | _, _, _, _, .nil, e => by simp at e
  | _, _, 0, _, .cons r _, e => by
    simp at e
    subst e
    exact ⟨_, rfl, r⟩
  | _, _, i + 1, x, .cons _ t, e => by
    obtain ⟨u, h1, h2⟩ := Paired.get2 (i := i) (y := x) t (by simpa using e)
    exact ⟨u, by simpa using h1, h2⟩
theorem Paired.app {α β : Type} {F : α → β → Prop} : ∀ {a : List α} {b : List β} {c : List α} {d : List β}, Paired F a b → Paired F c d → Paired F (a ++ c) (b ++ d)
  | _, _, _, _, .nil, q => q
  | _, _, _, _, .cons r t, q => .cons r (Paired.app t q)
theorem Paired.set {α β : Type} {F : α → β → Prop} {x : α} {y : β} (r : F x y) : ∀ {a : List α} {b : List β} (j : Nat), Paired F a b → Paired F (a.set j x) (b.set j y)
  | _, _, _, .nil => .nil
  | _, _, 0, .cons _ t => .cons r t
  | _, _, j + 1, .cons q t => .cons q (Paired.set r j t)
theorem Paired.take {α β : Type} {F : α → β → Prop} : ∀ {a : List α} {b : List β} (n : Nat), Paired F a b → Paired F (a.take n) (b.take n)
  | _, _, 0, _ => by simp; exact .nil
  | _, _, _ + 1, .nil => .nil
  | _, _, n + 1, .cons q t => .cons q (Paired.take n t)
theorem Paired.drop {α β : Type} {F : α → β → Prop} : ∀ {a : List α} {b : List β} (n : Nat), Paired F a b → Paired F (a.drop n) (b.drop n)
  | _, _, 0, q => q
  | _, _, _ + 1, .nil => .nil
  | _, _, n + 1, .cons q t => Paired.drop n t
theorem Paired.rev {α β : Type} {F : α → β → Prop} : ∀ {a : List α} {b : List β}, Paired F a b → Paired F a.reverse b.reverse
  | _, _, .nil => .nil
  | _, _, .cons q t => by
    rw [List.reverse_cons, List.reverse_cons]
    exact Paired.app (Paired.rev t) (.cons q .nil)

/-- a cell's content -/
structure MV where
  q : PySem.W.Frag → Hp → Addr → HO → Prop
  mono : ∀ {K : PySem.W.Frag} {S S' : Hp} {a : Addr} {o : HO}, Same S S' → q K S a o → q K S' a o
def AllT (K : PySem.W.Frag) (S : Hp) : List V → List TV → Prop := Paired fun v t => t.p K S v
theorem AllT.mono {K : PySem.W.Frag} {S S' : Hp} {vs : List V} {ts : List TV} (h : Same S S') (q : AllT K S vs ts) : AllT K S' vs ts :=
  Paired.imp q fun _ t z => t.mono h z
/-- a list, changed by its def alone -/
def mL (ts : List TV) : MV where
  q := fun K S _ o => ∃ vs, o = .lst vs ∧ vs.length ≤ sizeLine ∧ AllT K S vs ts
  mono := fun h ⟨vs, e, l, r⟩ => ⟨vs, e, l, r.mono h⟩

/-! ### states -/
structure Bs where
  H0 : Hp
  S0 : Hp
  C0 : List Addr
structure HS (K : PySem.W.Frag) (B : Bs) (S : Hp) (ls : List Addr) (Mu : List (Option MV)) (H : Hp) : Prop where
  ex : Same S H
  s0 : Same B.S0 S
  new : ∀ a o, S a = some o → B.S0 a = some o ∨ B.H0 a = none ∨ a ∈ B.C0
  fr : ∀ a o, B.H0 a = some o → a ∉ B.C0 → H a = some o
  c0 : Pre B.C0 ls
  len : ls.length = Mu.length
  nd : ls.Nodup
  cell : ∀ (k : Nat) (m : MV), Mu[k]? = some (some m) → ∃ a o, ls[k]? = some a ∧ S a = none ∧ H a = some o ∧ m.q K S a o
  old : ∀ a ∈ ls, ∃ o, H a = some o
  lsn : ∀ a ∈ ls, B.H0 a = none ∨ a ∈ B.C0

section
variable {K : PySem.W.Frag} {B : Bs} {S S' H : Hp} {ls : List Addr} {Mu : List (Option MV)} {p a : Addr} {o o' : HO} {k : Nat} {m m' : MV}
theorem HS.fresh (h : HS K B S ls Mu H) (n : H p = none) : S p = none ∧ p ∉ ls ∧ B.H0 p = none := by
  have hl : p ∉ ls := fun z => by
    obtain ⟨o, e⟩ := h.old p z
    rw [n] at e
    cases e
  refine ⟨?_, hl, ?_⟩
  · cases e : S p with
    | none => rfl
    | some o =>
      rw [h.ex p o e] at n
      cases n
  · cases e : B.H0 p with
    | none => rfl
    | some o =>
      rw [h.fr p o e fun z => hl (h.c0.mem z)] at n
      cases n
theorem same_new (n : S p = none) : Same S (upd S p o) := fun b u e => by
  rw [upd_ne (ne_of_none e n)]
  exact e
/-- a new thing that stands -/
theorem HS.laid (h : HS K B S ls Mu H) (n : H p = none) : Same S (upd S p o) ∧ HS K B (upd S p o) ls Mu (upd H p o) := by
  obtain ⟨n1, n2, n3⟩ := h.fresh n
  have s1 : Same S (upd S p o) := same_new n1
  refine ⟨s1, ⟨fun b u e => ?_, h.s0.trans s1, fun b u e => ?_, fun b u e hb => ?_, h.c0, h.len, h.nd, fun k m e => ?_, fun b hb => ?_, h.lsn⟩⟩
  · by_cases hb : b = p
    · subst hb
      rw [upd_same] at e ⊢
      exact e
    · rw [upd_ne hb] at e ⊢
      exact h.ex b u e
  · by_cases hb : b = p
    · subst hb
      exact .inr (.inl n3)
    · rw [upd_ne hb] at e
      exact h.new b u e
  · have hne : b ≠ p := fun z => by
      subst z
      rw [n3] at e
      cases e
    rw [upd_ne hne]
    exact h.fr b u e hb
  · obtain ⟨a, u, e1, e2, e3, e4⟩ := h.cell k m e
    have hne : a ≠ p := fun z => n2 (z ▸ List.mem_of_getElem? e1)
    exact ⟨a, u, e1, by rw [upd_ne hne]; exact e2, by rw [upd_ne hne]; exact e3, m.mono s1 e4⟩
  · obtain ⟨u, e⟩ := h.old b hb
    have hne : b ≠ p := fun z => n2 (z ▸ hb)
    exact ⟨u, by rw [upd_ne hne]; exact e⟩
/-- a new thing that nobody holds yet -/
theorem HS.loose (h : HS K B S ls Mu H) (n : H p = none) : HS K B S ls Mu (upd H p o) := by
  obtain ⟨n1, n2, n3⟩ := h.fresh n
  refine ⟨fun b u e => ?_, h.s0, h.new, fun b u e hb => ?_, h.c0, h.len, h.nd, fun k m e => ?_, fun b hb => ?_, h.lsn⟩
  · rw [upd_ne (ne_of_none e n1)]
    exact h.ex b u e
  · rw [upd_ne (ne_of_none e n3)]
    exact h.fr b u e hb
  · obtain ⟨a, u, e1, e2, e3, e4⟩ := h.cell k m e
    have hne : a ≠ p := fun z => n2 (z ▸ List.mem_of_getElem? e1)
    exact ⟨a, u, e1, e2, by rw [upd_ne hne]; exact e3, e4⟩
  · obtain ⟨u, e⟩ := h.old b hb
    have hne : b ≠ p := fun z => n2 (z ▸ hb)
    exact ⟨u, by rw [upd_ne hne]; exact e⟩
/-- what nobody holds is written -/
theorem HS.scr (h : HS K B S ls Mu H) (n1 : S p = none) (n2 : p ∉ ls) (n3 : B.H0 p = none) : HS K B S ls Mu (upd H p o) := by
  refine ⟨fun b u e => ?_, h.s0, h.new, fun b u e hb => ?_, h.c0, h.len, h.nd, fun k m e => ?_, fun b hb => ?_, h.lsn⟩
  · rw [upd_ne (ne_of_none e n1)]
    exact h.ex b u e
  · rw [upd_ne (ne_of_none e n3)]
    exact h.fr b u e hb
  · obtain ⟨a, u, e1, e2, e3, e4⟩ := h.cell k m e
    have hne : a ≠ p := fun z => n2 (z ▸ List.mem_of_getElem? e1)
    exact ⟨a, u, e1, e2, by rw [upd_ne hne]; exact e3, e4⟩
  · obtain ⟨u, e⟩ := h.old b hb
    have hne : b ≠ p := fun z => n2 (z ▸ hb)
    exact ⟨u, by rw [upd_ne hne]; exact e⟩
/-- what nobody holds becomes standing -/
theorem HS.stand (h : HS K B S ls Mu H) (e : H p = some o) (n1 : S p = none) (n2 : p ∉ ls) (n3 : B.H0 p = none) : Same S (upd S p o) ∧ HS K B (upd S p o) ls Mu H := by
  have s1 : Same S (upd S p o) := same_new n1
  refine ⟨s1, ⟨fun b u e' => ?_, h.s0.trans s1, fun b u e' => ?_, h.fr, h.c0, h.len, h.nd, fun k m e' => ?_, h.old, h.lsn⟩⟩
  · by_cases hb : b = p
    · subst hb
      rw [upd_same] at e'
      rw [e]
      exact e'
    · rw [upd_ne hb] at e'
      exact h.ex b u e'
  · by_cases hb : b = p
    · subst hb
      exact .inr (.inl n3)
    · rw [upd_ne hb] at e'
      exact h.new b u e'
  · obtain ⟨a, u, e1, e2, e3, e4⟩ := h.cell k m e'
    have hne : a ≠ p := fun z => n2 (z ▸ List.mem_of_getElem? e1)
    exact ⟨a, u, e1, by rw [upd_ne hne]; exact e2, e3, m.mono s1 e4⟩
/-- .. or an own cell -/
theorem HS.own (h : HS K B S ls Mu H) (e : H p = some o) (n1 : S p = none) (n2 : p ∉ ls) (n3 : B.H0 p = none) (hq : m.q K S p o) : Pre ls (ls ++ [p]) ∧ HS K B S (ls ++ [p]) (Mu ++ [some m]) H := by
  have pr : Pre ls (ls ++ [p]) := ⟨[p], rfl⟩
  refine ⟨pr, ⟨h.ex, h.s0, h.new, h.fr, h.c0.trans pr, by simp [h.len], ?_, fun k m' e' => ?_, fun b hb => ?_, fun b hb => ?_⟩⟩
  · rw [List.nodup_append]
    refine ⟨h.nd, by simp, fun x hx y hy => ?_⟩
    simp at hy
    subst hy
    exact fun z => n2 (z ▸ hx)
  · by_cases hk : k < Mu.length
    · rw [List.getElem?_append_left hk] at e'
      obtain ⟨a, u, e1, e2, e3, e4⟩ := h.cell k m' e'
      exact ⟨a, u, pr.get e1, e2, e3, e4⟩
    · rw [List.getElem?_append_right (by omega)] at e'
      by_cases h0 : k - Mu.length = 0
      · rw [h0] at e'
        have : m = m' := by simpa using e'
        subst this
        have hk' : k = ls.length := by rw [h.len]; omega
        exact ⟨p, o, by rw [hk']; simp, n1, e, hq⟩
      · rw [List.getElem?_eq_none (by simp; omega)] at e'
        cases e'
  · rcases List.mem_append.mp hb with hb | hb
    · exact h.old b hb
    · simp at hb
      subst hb
      exact ⟨o, e⟩
  · rcases List.mem_append.mp hb with hb | hb
    · exact h.lsn b hb
    · simp at hb
      subst hb
      exact .inl n3
/-- an own cell is written -/
theorem HS.write (h : HS K B S ls Mu H) (ek : Mu[k]? = some (some m)) (ea : ls[k]? = some a) (hq : m'.q K S a o') : HS K B S ls (Mu.set k (some m')) (upd H a o') := by
  obtain ⟨a', u0, e1, e2, e3, e4⟩ := h.cell k m ek
  rw [ea] at e1
  cases e1
  have e5 := h.lsn a (List.mem_of_getElem? ea)
  refine ⟨fun b u e => ?_, h.s0, h.new, fun b u e hb => ?_, h.c0, by simp [h.len], h.nd, fun j m2 e => ?_, fun b hb => ?_, h.lsn⟩
  · rw [upd_ne (ne_of_none e e2)]
    exact h.ex b u e
  · have hne : b ≠ a := fun z => by
      subst z
      rcases e5 with q | q
      · rw [q] at e
        cases e
      · exact hb q
    rw [upd_ne hne]
    exact h.fr b u e hb
  · by_cases hj : k = j
    · subst hj
      rw [List.getElem?_set_self (List.getElem?_eq_some_iff.mp ek).1] at e
      have : m' = m2 := by simpa using e
      subst this
      exact ⟨a, o', ea, e2, upd_same, hq⟩
    · rw [List.getElem?_set_ne hj] at e
      obtain ⟨b, u, f1, f2, f3, f4⟩ := h.cell j m2 e
      have hne : b ≠ a := fun z => by
        subst z
        obtain ⟨l1, g1⟩ := List.getElem?_eq_some_iff.mp f1
        obtain ⟨l2, g2⟩ := List.getElem?_eq_some_iff.mp ea
        exact hj ((List.getElem_inj h.nd).mp (g2.trans g1.symm))
      exact ⟨b, u, f1, f2, by rw [upd_ne hne]; exact f3, f4⟩
  · by_cases hb' : b = a
    · subst hb'
      exact ⟨o', upd_same⟩
    · obtain ⟨u, e⟩ := h.old b hb
      exact ⟨u, by rw [upd_ne hb']; exact e⟩
/-- an own cell stands from now on -/
theorem HS.freeze (h : HS K B S ls Mu H) (ek : Mu[k]? = some (some m)) : ∃ a o, ls[k]? = some a ∧ m.q K S a o ∧ Same S (upd S a o) ∧ HS K B (upd S a o) ls (Mu.set k none) H := by
  obtain ⟨a, o, e1, e2, e3, e4⟩ := h.cell k m ek
  have e5 := h.lsn a (List.mem_of_getElem? e1)
  have s1 : Same S (upd S a o) := same_new e2
  refine ⟨a, o, e1, e4, s1, ⟨fun b u e' => ?_, h.s0.trans s1, fun b u e' => ?_, h.fr, h.c0, by simp [h.len], h.nd, fun j m2 e => ?_, h.old, h.lsn⟩⟩
  · by_cases hb : b = a
    · subst hb
      rw [upd_same] at e'
      rw [e3]
      exact e'
    · rw [upd_ne hb] at e'
      exact h.ex b u e'
  · by_cases hb : b = a
    · subst hb
      exact .inr e5
    · rw [upd_ne hb] at e'
      exact h.new b u e'
  · by_cases hj : k = j
    · subst hj
      rw [List.getElem?_set_self (List.getElem?_eq_some_iff.mp ek).1] at e
      cases e
    · rw [List.getElem?_set_ne hj] at e
      obtain ⟨b, u, f1, f2, f3, f4⟩ := h.cell j m2 e
      have hne : b ≠ a := fun z => by
        subst z
        obtain ⟨l1, g1⟩ := List.getElem?_eq_some_iff.mp f1
        obtain ⟨l2, g2⟩ := List.getElem?_eq_some_iff.mp e1
        exact hj ((List.getElem_inj h.nd).mp (g2.trans g1.symm))
      exact ⟨b, u, f1, by rw [upd_ne hne]; exact f2, f3, m2.mono s1 f4⟩
/-- what is not asked any more of cells -/
theorem HS.forget {Mu' : List (Option MV)} (h : HS K B S ls Mu H) (hl : Mu'.length = Mu.length) (w : ∀ (k : Nat) (m : MV), Mu'[k]? = some (some m) → Mu[k]? = some (some m)) : HS K B S ls Mu' H :=
  ⟨h.ex, h.s0, h.new, h.fr, h.c0, by rw [hl]; exact h.len, h.nd, fun k m e => h.cell k m (w k m e), h.old, h.lsn⟩
/-- a state as the base of what follows -/
theorem HS.start (h : HS K B S ls Mu H) : HS K ⟨H, S, ls⟩ S ls Mu H :=
  ⟨h.ex, Same.refl _, fun a o e => .inl e, fun a o e _ => e, Pre.refl _, h.len, h.nd, h.cell, h.old, fun a ha => .inr ha⟩
theorem HS.back {S2 H2 : Hp} {ls2 : List Addr} {Mu2 : List (Option MV)} (h : HS K B S ls Mu H) (g : HS K ⟨H, S, ls⟩ S2 ls2 Mu2 H2) : HS K B S2 ls2 Mu2 H2 := by
  have no : ∀ a, H a = none → B.H0 a = none := fun a e => (h.fresh e).2.2
  refine ⟨g.ex, h.s0.trans g.s0, fun a o e => ?_, fun a o e hc => ?_, h.c0.trans g.c0, g.len, g.nd, g.cell, g.old, fun a ha => ?_⟩
  · rcases g.new a o e with q | q | q
    · exact h.new a o q
    · exact .inr (.inl (no a q))
    · exact .inr (h.lsn a q)
  · refine g.fr a o (h.fr a o e hc) fun q => ?_
    rcases h.lsn a q with z | z
    · rw [z] at e
      cases e
    · exact hc z
  · rcases g.lsn a ha with q | q
    · exact .inl (no a q)
    · exact h.lsn a q
end

/-! ### slots -/
abbrev Gm := List (Option SV)
abbrev Mm := List (Option MV)
def Sl (K : PySem.W.Frag) (S : Hp) (ls : List Addr) (σ : St) (G : Gm) : Prop :=
  σ.length = G.length ∧ ∀ (i : Nat) (s : SV), G[i]? = some (some s) → ∃ v, σ[i]? = some (some v) ∧ s.p K S ls v
section
variable {K : PySem.W.Frag} {S S' H : Hp} {ls ls' : List Addr} {σ : St} {G : Gm} {i : Nat} {v : V} {s : SV}
theorem Sl.mono (h : Same S S') (g : Pre ls ls') (q : Sl K S ls σ G) : Sl K S' ls' σ G :=
  ⟨q.1, fun i s e => by
    obtain ⟨v, e1, e2⟩ := q.2 i s e
    exact ⟨v, e1, SV.mono h g e2⟩⟩
theorem Sl.set (q : Sl K S ls σ G) (r : s.p K S ls v) : Sl K S ls (σ.set i (some v)) (G.set i (some s)) :=
  ⟨by simp [q.1], fun j s' e => by
    by_cases hj : i = j
    · subst hj
      by_cases hi : i < G.length
      · rw [List.getElem?_set_self hi] at e
        cases e
        exact ⟨v, by rw [List.getElem?_set_self (by rw [q.1]; exact hi)], r⟩
      · rw [List.getElem?_eq_none (by simp; omega)] at e
        cases e
    · rw [List.getElem?_set_ne hj] at e ⊢
      exact q.2 j s' e⟩
theorem Sl.drop {G' : Gm} (q : Sl K S ls σ G) (hl : G'.length = G.length) (w : ∀ (i : Nat) (s : SV), G'[i]? = some (some s) → G[i]? = some (some s)) : Sl K S ls σ G' :=
  ⟨q.1.trans hl.symm, fun i s e => q.2 i s (w i s e)⟩
end

/-! ### plain kinds -/
def rInt : Rep Int := ⟨fun _ _ v a => v = .int a, fun _ q => q⟩
def rBool : Rep Bool := ⟨fun _ _ v a => v = .bl a, fun _ q => q⟩
def rStr : Rep Str := ⟨fun _ _ v a => v = .str a, fun _ q => q⟩
def rNone : Rep Unit := ⟨fun _ _ v _ => v = .non, fun _ q => q⟩
abbrev vI (a : Int) : SV := .val (tv rInt a)
abbrev vB (a : Bool) : SV := .val (tv rBool a)
abbrev vS (a : Str) : SV := .val (tv rStr a)
abbrev vN : SV := .val (tv rNone ())

/-! ### what an expression's reading comes to -/
/-- behind it: v as s says -/
def Aft (K : PySem.W.Frag) (B : Bs) (S : Hp) (ls : List Addr) (Mu : Mm) (s : SV) (Q : VK) : Prop :=
  ∀ v S' ls' H', Same S S' → Pre ls ls' → HS K B S' ls' Mu H' → s.p K S' ls' v → Q v H'
theorem Aft.mono {K : PySem.W.Frag} {B : Bs} {S S1 : Hp} {ls ls1 : List Addr} {Mu : Mm} {s : SV} {Q : VK} (h : Same S S1) (g : Pre ls ls1) (q : Aft K B S ls Mu s Q) : Aft K B S1 ls1 Mu s Q :=
  fun v S' ls' H' a b c d => q v S' ls' H' (h.trans a) (g.trans b) c d
def EvV (K : PySem.W.Frag) (te : TE) (G : Gm) (Mu Mu' : Mm) (s : SV) : Prop :=
  ∀ B σ S ls H Q, Sl K S ls σ G → HS K B S ls Mu H → Aft K B S ls Mu' s Q → te σ H Q
/-- a new object that nobody holds yet -/
def AftF (K : PySem.W.Frag) (B : Bs) (S : Hp) (ls : List Addr) (Mu : Mm) (m : MV) (Q : VK) : Prop :=
  ∀ p o S' ls' H', Same S S' → Pre ls ls' → HS K B S' ls' Mu H' → H' p = some o → S' p = none → p ∉ ls' → B.H0 p = none → m.q K S' p o → Q (.ref p) H'
def EvF (K : PySem.W.Frag) (te : TE) (G : Gm) (Mu Mu' : Mm) (m : MV) : Prop :=
  ∀ B σ S ls H Q, Sl K S ls σ G → HS K B S ls Mu H → AftF K B S ls Mu' m Q → te σ H Q
def AftT (K : PySem.W.Frag) (B : Bs) (S : Hp) (ls : List Addr) (Mu : Mm) (b : Bool) (Q : Bool → Hp → Prop) : Prop :=
  ∀ S' ls' H', Same S S' → Pre ls ls' → HS K B S' ls' Mu H' → Q b H'
def EvT (K : PySem.W.Frag) (tt : TT) (G : Gm) (Mu Mu' : Mm) (b : Bool) : Prop :=
  ∀ B σ S ls H Q, Sl K S ls σ G → HS K B S ls Mu H → AftT K B S ls Mu' b Q → tt σ H Q
def AftA (K : PySem.W.Frag) (B : Bs) (S : Hp) (ls : List Addr) (Mu : Mm) (ss : List SV) (Q : List V → Hp → Prop) : Prop :=
  ∀ vs S' ls' H', Same S S' → Pre ls ls' → HS K B S' ls' Mu H' → AllS K S' ls' vs ss → Q vs H'
def EvA (K : PySem.W.Frag) (ta : TA) (G : Gm) (Mu Mu' : Mm) (ss : List SV) : Prop :=
  ∀ B σ S ls H Q, Sl K S ls σ G → HS K B S ls Mu H → AftA K B S ls Mu' ss Q → ta σ H Q
theorem AftT.mono {K : PySem.W.Frag} {B : Bs} {S S1 : Hp} {ls ls1 : List Addr} {Mu : Mm} {b : Bool} {Q : Bool → Hp → Prop} (h : Same S S1) (g : Pre ls ls1) (q : AftT K B S ls Mu b Q) : AftT K B S1 ls1 Mu b Q :=
  fun S' ls' H' a b c => q S' ls' H' (h.trans a) (g.trans b) c
theorem AftA.mono {K : PySem.W.Frag} {B : Bs} {S S1 : Hp} {ls ls1 : List Addr} {Mu : Mm} {ss : List SV} {Q : List V → Hp → Prop} (h : Same S S1) (g : Pre ls ls1) (q : AftA K B S ls Mu ss Q) : AftA K B S1 ls1 Mu ss Q :=
  fun v S' ls' H' a b c d => q v S' ls' H' (h.trans a) (g.trans b) c d
theorem AftF.mono {K : PySem.W.Frag} {B : Bs} {S S1 : Hp} {ls ls1 : List Addr} {Mu : Mm} {m : MV} {Q : VK} (h : Same S S1) (g : Pre ls ls1) (q : AftF K B S ls Mu m Q) : AftF K B S1 ls1 Mu m Q :=
  fun p o S' ls' H' a b => q p o S' ls' H' (h.trans a) (g.trans b)

/-- by values: two places, one, many; a truth -/
def Rv (K : PySem.W.Frag) (r : R2) (Mu Mu' : Mm) (sa sb s : SV) : Prop :=
  ∀ B S ls H x y Q, HS K B S ls Mu H → sa.p K S ls x → sb.p K S ls y → Aft K B S ls Mu' s Q → r x y H Q
def Ru (K : PySem.W.Frag) (r : V → Hp → VK → Prop) (Mu Mu' : Mm) (sa s : SV) : Prop :=
  ∀ B S ls H x Q, HS K B S ls Mu H → sa.p K S ls x → Aft K B S ls Mu' s Q → r x H Q
def Rc (K : PySem.W.Frag) (r : List V → Hp → VK → Prop) (Mu Mu' : Mm) (ss : List SV) (s : SV) : Prop :=
  ∀ B S ls H vs Q, HS K B S ls Mu H → AllS K S ls vs ss → Aft K B S ls Mu' s Q → r vs H Q
def Rm (K : PySem.W.Frag) (r : V → List V → Hp → VK → Prop) (Mu Mu' : Mm) (so : SV) (ss : List SV) (s : SV) : Prop :=
  ∀ B S ls H x vs Q, HS K B S ls Mu H → so.p K S ls x → AllS K S ls vs ss → Aft K B S ls Mu' s Q → r x vs H Q
def RvF (K : PySem.W.Frag) (r : R2) (Mu Mu' : Mm) (sa sb : SV) (m : MV) : Prop :=
  ∀ B S ls H x y Q, HS K B S ls Mu H → sa.p K S ls x → sb.p K S ls y → AftF K B S ls Mu' m Q → r x y H Q
def RcF (K : PySem.W.Frag) (r : List V → Hp → VK → Prop) (Mu Mu' : Mm) (ss : List SV) (m : MV) : Prop :=
  ∀ B S ls H vs Q, HS K B S ls Mu H → AllS K S ls vs ss → AftF K B S ls Mu' m Q → r vs H Q
def RmF (K : PySem.W.Frag) (r : V → List V → Hp → VK → Prop) (Mu Mu' : Mm) (so : SV) (ss : List SV) (m : MV) : Prop :=
  ∀ B S ls H x vs Q, HS K B S ls Mu H → so.p K S ls x → AllS K S ls vs ss → AftF K B S ls Mu' m Q → r x vs H Q

section
variable {K : PySem.W.Frag} {G : Gm} {Mu Mu1 Mu2 Mu3 : Mm} {ta tb te : TE} {tt tu : TT} {sa sb s : SV} {v : V} {i : Nat}
theorem ev_var (h : G[i]? = some (some s)) : EvV K (tVar i) G Mu Mu s := fun B σ S ls H Q sl hs q => by
  obtain ⟨v, e, r⟩ := sl.2 i s h
  exact ⟨v, e, q v S ls H (Same.refl _) (Pre.refl _) hs r⟩
theorem ev_c (h : ∀ S ls, s.p K S ls v) : EvV K (tC v) G Mu Mu s := fun B σ S ls H Q sl hs q => q v S ls H (Same.refl _) (Pre.refl _) hs (h _ _)
theorem ev_op {r : R2} (ha : EvV K ta G Mu Mu1 sa) (hb : EvV K tb G Mu1 Mu2 sb) (hr : Rv K r Mu2 Mu3 sa sb s) : EvV K (tOp r ta tb) G Mu Mu3 s := fun B σ S ls H Q sl hs q =>
  ha B σ S ls H _ sl hs fun x S1 l1 H1 a1 b1 c1 d1 => hb B σ S1 l1 H1 _ (sl.mono a1 b1) c1 fun y S2 l2 H2 a2 b2 c2 d2 =>
    hr B S2 l2 H2 x y Q c2 (SV.mono a2 b2 d1) d2 (q.mono (a1.trans a2) (b1.trans b2))
theorem ef_op {r : R2} {m : MV} (ha : EvV K ta G Mu Mu1 sa) (hb : EvV K tb G Mu1 Mu2 sb) (hr : RvF K r Mu2 Mu3 sa sb m) : EvF K (tOp r ta tb) G Mu Mu3 m := fun B σ S ls H Q sl hs q =>
  ha B σ S ls H _ sl hs fun x S1 l1 H1 a1 b1 c1 d1 => hb B σ S1 l1 H1 _ (sl.mono a1 b1) c1 fun y S2 l2 H2 a2 b2 c2 d2 =>
    hr B S2 l2 H2 x y Q c2 (SV.mono a2 b2 d1) d2 (q.mono (a1.trans a2) (b1.trans b2))
theorem ev_un {r : V → Hp → VK → Prop} (ha : EvV K ta G Mu Mu1 sa) (hr : Ru K r Mu1 Mu2 sa s) : EvV K (tUn r ta) G Mu Mu2 s := fun B σ S ls H Q sl hs q =>
  ha B σ S ls H _ sl hs fun x S1 l1 H1 a1 b1 c1 d1 => hr B S1 l1 H1 x Q c1 d1 (q.mono a1 b1)
theorem ea_nil : EvA K tNil G Mu Mu [] := fun B σ S ls H Q sl hs q => q [] S ls H (Same.refl _) (Pre.refl _) hs .nil
theorem ea_cons {tr : TA} {ss : List SV} (h : EvV K te G Mu Mu1 s) (hr : EvA K tr G Mu1 Mu2 ss) : EvA K (tCons te tr) G Mu Mu2 (s :: ss) := fun B σ S ls H Q sl hs q =>
  h B σ S ls H _ sl hs fun x S1 l1 H1 a1 b1 c1 d1 => hr B σ S1 l1 H1 _ (sl.mono a1 b1) c1 fun vs S2 l2 H2 a2 b2 c2 d2 =>
    q (x :: vs) S2 l2 H2 (a1.trans a2) (b1.trans b2) c2 (.cons (SV.mono a2 b2 d1) d2)
theorem ev_cb {r : List V → Hp → VK → Prop} {ta : TA} {ss : List SV} (h : EvA K ta G Mu Mu1 ss) (hr : Rc K r Mu1 Mu2 ss s) : EvV K (tCB r ta) G Mu Mu2 s := fun B σ S ls H Q sl hs q =>
  h B σ S ls H _ sl hs fun vs S1 l1 H1 a1 b1 c1 d1 => hr B S1 l1 H1 vs Q c1 d1 (q.mono a1 b1)
theorem ef_cb {r : List V → Hp → VK → Prop} {ta : TA} {ss : List SV} {m : MV} (h : EvA K ta G Mu Mu1 ss) (hr : RcF K r Mu1 Mu2 ss m) : EvF K (tCB r ta) G Mu Mu2 m := fun B σ S ls H Q sl hs q =>
  h B σ S ls H _ sl hs fun vs S1 l1 H1 a1 b1 c1 d1 => hr B S1 l1 H1 vs Q c1 d1 (q.mono a1 b1)
/-- tests -/
theorem et_test {t : TE} {b : Bool} (h : EvV K t G Mu Mu1 (vB b)) : EvT K (tTest t) G Mu Mu1 b := fun B σ S ls H Q sl hs q =>
  h B σ S ls H _ sl hs fun x S1 l1 H1 a1 b1 c1 d1 => ⟨b, d1, q S1 l1 H1 a1 b1 c1⟩
theorem et_B {t : TE} {b : Bool} (h : EvV K t G Mu Mu1 (vB b)) : EvT K (tB t) G Mu Mu1 b := fun B σ S ls H Q sl hs q =>
  h B σ S ls H _ sl hs fun x S1 l1 H1 a1 b1 c1 d1 => ⟨b, d1, q S1 l1 H1 a1 b1 c1⟩
theorem et_not {b : Bool} (h : EvT K tt G Mu Mu1 b) : EvT K (tNot tt) G Mu Mu1 (!b) := fun B σ S ls H Q sl hs q =>
  h B σ S ls H _ sl hs fun S1 l1 H1 a1 b1 c1 => q S1 l1 H1 a1 b1 c1
/-- and, or: the second one is asked only then -/
theorem et_and {a b : Bool} {Mu3 : Mm} (h1 : EvT K tt G Mu Mu1 a) (h2 : a = true → EvT K tu G Mu1 Mu2 b) (e2 : a = true → Mu2 = Mu3) (e1 : a = false → Mu1 = Mu3) : EvT K (tAnd tt tu) G Mu Mu3 (a && b) := fun B σ S ls H Q sl hs q =>
  h1 B σ S ls H _ sl hs fun S1 l1 H1 a1 b1 c1 => by
    cases a with
    | true =>
      show tu σ H1 Q
      have e := e2 rfl
      subst e
      exact h2 rfl B σ S1 l1 H1 Q (sl.mono a1 b1) c1 (q.mono a1 b1)
    | false =>
      show Q false H1
      have e := e1 rfl
      subst e
      exact q S1 l1 H1 a1 b1 c1
theorem et_or {a b : Bool} {Mu3 : Mm} (h1 : EvT K tt G Mu Mu1 a) (h2 : a = false → EvT K tu G Mu1 Mu2 b) (e2 : a = false → Mu2 = Mu3) (e1 : a = true → Mu1 = Mu3) : EvT K (tOr tt tu) G Mu Mu3 (a || b) := fun B σ S ls H Q sl hs q =>
  h1 B σ S ls H _ sl hs fun S1 l1 H1 a1 b1 c1 => by
    cases a with
    | false =>
      show tu σ H1 Q
      have e := e2 rfl
      subst e
      exact h2 rfl B σ S1 l1 H1 Q (sl.mono a1 b1) c1 (q.mono a1 b1)
    | true =>
      show Q true H1
      have e := e1 rfl
      subst e
      exact q S1 l1 H1 a1 b1 c1
theorem ev_ifM {a : Bool} (h : EvT K tt G Mu Mu1 a) (h1 : a = true → EvV K ta G Mu1 Mu2 s) (h2 : a = false → EvV K tb G Mu1 Mu2 s) : EvV K (tIf tt ta tb) G Mu Mu2 s := fun B σ S ls H Q sl hs q =>
  h B σ S ls H _ sl hs fun S1 l1 H1 a1 b1 c1 => by
    cases a with
    | true => exact h1 rfl B σ S1 l1 H1 Q (sl.mono a1 b1) c1 (q.mono a1 b1)
    | false => exact h2 rfl B σ S1 l1 H1 Q (sl.mono a1 b1) c1 (q.mono a1 b1)
end
end TL

/-! TL, second part: sequences, numbers, blocks, loops, promises. -/
namespace TL
open PySem L2

/-! ### sequences -/
theorem same_seqT {K : PySem.W.Frag} {H H' : Hp} {a : Addr} {xs : List V} (e : Same H H') (h : SqT K H a xs) : SqT K H' a xs := by
  rcases h with (h | ⟨o, h⟩) | h
  · exact .inl (.inl (e _ _ h))
  · exact .inl (.inr ⟨o, e _ _ h⟩)
  · exact .inr h
/-- l: a list that is tracked; q: a list that may be read; t: a tuple -/
inductive Knd where
  | l | q | t | c
def SqK (K : PySem.W.Frag) (H : Hp) (p : Addr) (vs : List V) (k : Knd) : Prop := match k with
  | .l => H p = some (.lst vs)
  | .q => SqL K H p vs
  | .t => H p = some (.tup vs)
  | .c => SqT K H p vs
theorem SqK.same {K : PySem.W.Frag} {H H' : Hp} {p : Addr} {vs : List V} {k : Knd} (e : Same H H') (h : SqK K H p vs k) : SqK K H' p vs k := by
  cases k with
  | l => exact e p _ (show H p = some (.lst vs) from h)
  | q => exact Same.seq e (show SqL K H p vs from h)
  | t => exact e p _ (show H p = some (.tup vs) from h)
  | c => exact same_seqT e (show SqT K H p vs from h)
def Knd.isL (k : Knd) : Bool := match k with
  | .t => false
  | .c => false
  | _ => true
theorem SqK.seq {K : PySem.W.Frag} {H : Hp} {p : Addr} {vs : List V} {k : Knd} (h : SqK K H p vs k) (e : k.isL = true) : SqL K H p vs := by
  cases k with
  | l => exact SqL.of (show H p = some (.lst vs) from h)
  | q => exact h
  | t => cases e
  | c => cases e
theorem SqK.both {K : PySem.W.Frag} {H : Hp} {p : Addr} {vs : List V} {k : Knd} (h : SqK K H p vs k) : SqL K H p vs ∨ SqT K H p vs := by
  cases k with
  | l => exact .inl (SqL.of (show H p = some (.lst vs) from h))
  | q => exact .inl h
  | t => exact .inr (SqT.of (show H p = some (.tup vs) from h))
  | c => exact .inr h
theorem SqK.tup {K : PySem.W.Frag} {H : Hp} {p : Addr} {vs : List V} {k : Knd} (h : SqK K H p vs k) (e : k.isL = false) : SqT K H p vs := by
  cases k with
  | l => cases e
  | q => cases e
  | t => exact SqT.of (show H p = some (.tup vs) from h)
  | c => exact h
def sqT (k : Knd) (ts : List TV) : TV := ⟨fun K S v => ∃ p vs, v = .ref p ∧ SqK K S p vs k ∧ vs.length ≤ sizeLine ∧ AllT K S vs ts,
  fun h ⟨p, vs, e, q, l, r⟩ => ⟨p, vs, e, SqK.same h q, l, r.mono h⟩⟩
abbrev lstT : List TV → TV := sqT .l
abbrev tupT : List TV → TV := sqT .t
def rSq {α : Type} (k : Knd) (R : Rep α) : Rep (List α) := ⟨fun K S v xs => (sqT k (xs.map (tv R))).p K S v, fun h q => (sqT k _).mono h q⟩
abbrev rList {α : Type} (R : Rep α) : Rep (List α) := rSq .l R
abbrev rTup {α : Type} (R : Rep α) : Rep (List α) := rSq .t R
def rP1 {α : Type} (A : Rep α) : Rep α := ⟨fun K S v x => (tupT [tv A x]).p K S v, fun h q => (sqT .t _).mono h q⟩
def rP2 {α β : Type} (A : Rep α) (B : Rep β) : Rep (α × β) := ⟨fun K S v x => (tupT [tv A x.1, tv B x.2]).p K S v, fun h q => (sqT .t _).mono h q⟩
def rP3 {α β γ : Type} (A : Rep α) (B : Rep β) (C : Rep γ) : Rep (α × β × γ) := ⟨fun K S v x => (tupT [tv A x.1, tv B x.2.1, tv C x.2.2]).p K S v, fun h q => (sqT .t _).mono h q⟩
def rP4 {α β γ δ : Type} (A : Rep α) (B : Rep β) (C : Rep γ) (D : Rep δ) : Rep (α × β × γ × δ) := ⟨fun K S v x => (tupT [tv A x.1, tv B x.2.1, tv C x.2.2.1, tv D x.2.2.2]).p K S v, fun h q => (sqT .t _).mono h q⟩
def IsSq (K : PySem.W.Frag) (Mu : Mm) (s : SV) (k : Knd) (ts : List TV) : Prop :=
  ∀ B S ls H v, HS K B S ls Mu H → s.p K S ls v → ∃ p vs, v = .ref p ∧ SqK K H p vs k ∧ vs.length ≤ sizeLine ∧ AllT K S vs ts
section
variable {K : PySem.W.Frag} {Mu : Mm} {ts us : List TV} {k : Knd} {α β γ δ : Type} {R : Rep α} {j : Nat}
theorem is_sq : IsSq K Mu (.val (sqT k ts)) k ts := fun B S ls H v hs ⟨p, vs, e, q, l, r⟩ => ⟨p, vs, e, SqK.same hs.ex q, l, r⟩
theorem is_seq {xs : List α} : IsSq K Mu (.val (tv (rSq k R) xs)) k (xs.map (tv R)) := is_sq
theorem is_cell (h : Mu[j]? = some (some (mL ts))) : IsSq K Mu (.cell j) .l ts := fun B S ls H v hs ⟨a, e, ev⟩ => by
  obtain ⟨a', o, e1, e2, e3, ⟨vs, eo, l, r⟩⟩ := hs.cell j _ h
  rw [e] at e1
  cases e1
  subst eo
  exact ⟨a, vs, ev, e3, l, r⟩
theorem is_p1 {A : Rep α} {x : α} : IsSq K Mu (.val (tv (rP1 A) x)) .t [tv A x] := is_sq
theorem is_p2 {A : Rep α} {B : Rep β} {x : α × β} : IsSq K Mu (.val (tv (rP2 A B) x)) .t [tv A x.1, tv B x.2] := is_sq
theorem is_p3 {A : Rep α} {B : Rep β} {C : Rep γ} {x : α × β × γ} : IsSq K Mu (.val (tv (rP3 A B C) x)) .t [tv A x.1, tv B x.2.1, tv C x.2.2] := is_sq
theorem is_p4 {A : Rep α} {B : Rep β} {C : Rep γ} {D : Rep δ} {x : α × β × γ × δ} : IsSq K Mu (.val (tv (rP4 A B C D) x)) .t [tv A x.1, tv B x.2.1, tv C x.2.2.1, tv D x.2.2.2] := is_sq
end
/-- x[i] -/
theorem atQ_eq {α : Type} {xs : List α} {i : Int} : atQ xs i = atI xs i := rfl
theorem getI_ok {α : Type} {xs : List α} {i : Int} {x : α} (h : getI xs i = .ok x) : atI xs i = some x := by
  unfold getI at h
  split at h
  · rename_i y e
    cases h
    exact e
  · cases h
theorem at_map {α : Type} {R : Rep α} {xs : List α} {i : Int} {x : α} (h : getI xs i = .ok x) : atI (xs.map (tv R)) i = some (tv R x) := by
  have e := getI_ok h
  unfold atI at e ⊢
  rw [List.length_map]
  cases q : ixN xs.length i with
  | none =>
    rw [q] at e
    cases e
  | some j =>
    rw [q] at e
    have e : xs[j]? = some x := e
    show (xs.map (tv R))[j]? = _
    rw [List.getElem?_map, e]
    rfl
theorem atI_len {α β : Type} {xs : List α} {ys : List β} (h : xs.length = ys.length) {i : Int} {y : β} (e : atI ys i = some y) : ∃ j : Nat, ys[j]? = some y ∧ ∀ x, xs[j]? = some x → atI xs i = some x := by
  unfold atI at e ⊢
  rw [h]
  cases q : ixN ys.length i with
  | none =>
    rw [q] at e
    cases e
  | some j =>
    rw [q] at e
    exact ⟨j, e, fun x hx => hx⟩

/-! ### operators on values -/
section
variable {K : PySem.W.Frag} {Mu : Mm} {a b : Int} {s : SV} {ts : List TV} {t : TV}
theorem rv_same {r : R2} {sa sb s : SV} (h : ∀ B S ls H x y Q, HS K B S ls Mu H → sa.p K S ls x → sb.p K S ls y → (∀ v, s.p K S ls v → Q v H) → r x y H Q) : Rv K r Mu Mu sa sb s :=
  fun B S ls H x y Q hs ha hb q => h B S ls H x y Q hs ha hb fun v hv => q v S ls H (Same.refl _) (Pre.refl _) hs hv
theorem rc_same {r : List V → Hp → VK → Prop} {ss : List SV} {s : SV} (h : ∀ B S ls H vs Q, HS K B S ls Mu H → AllS K S ls vs ss → (∀ v, s.p K S ls v → Q v H) → r vs H Q) : Rc K r Mu Mu ss s :=
  fun B S ls H vs Q hs ha q => h B S ls H vs Q hs ha fun v hv => q v S ls H (Same.refl _) (Pre.refl _) hs hv
theorem ru_same {r : V → Hp → VK → Prop} {sa s : SV} (h : ∀ B S ls H x Q, HS K B S ls Mu H → sa.p K S ls x → (∀ v, s.p K S ls v → Q v H) → r x H Q) : Ru K r Mu Mu sa s :=
  fun B S ls H x Q hs ha q => h B S ls H x Q hs ha fun v hv => q v S ls H (Same.refl _) (Pre.refl _) hs hv
theorem rv_I0 {g : Int → Int → V} (h : ∀ S ls, s.p K S ls (g a b)) : Rv K (rI0 g) Mu Mu (vI a) (vI b) s := rv_same fun B S ls H x y Q hs ha hb q => ⟨a, b, ha, hb, q _ (h S ls)⟩
theorem rv_IC {C : Int → Int → Prop} {g : Int → Int → V} (hc : C a b) (h : ∀ S ls, s.p K S ls (g a b)) : Rv K (rI C g) Mu Mu (vI a) (vI b) s := rv_same fun B S ls H x y Q hs ha hb q => ⟨a, b, ha, hb, hc, q _ (h S ls)⟩
theorem rv_add : Rv K (rI0 fun i j => .int (i + j)) Mu Mu (vI a) (vI b) (vI (a + b)) := rv_I0 fun _ _ => rfl
theorem rv_sub : Rv K (rI0 fun i j => .int (i - j)) Mu Mu (vI a) (vI b) (vI (a - b)) := rv_I0 fun _ _ => rfl
theorem rv_lt : Rv K (rI0 fun i j => .bl (decide (i < j))) Mu Mu (vI a) (vI b) (vB (decide (a < b))) := rv_I0 fun _ _ => rfl
theorem rv_le : Rv K (rI0 fun i j => .bl (decide (i ≤ j))) Mu Mu (vI a) (vI b) (vB (decide (a ≤ b))) := rv_I0 fun _ _ => rfl
theorem rv_gt : Rv K (rI0 fun i j => .bl (decide (j < i))) Mu Mu (vI a) (vI b) (vB (decide (b < a))) := rv_I0 fun _ _ => rfl
theorem rv_ge : Rv K (rI0 fun i j => .bl (decide (j ≤ i))) Mu Mu (vI a) (vI b) (vB (decide (b ≤ a))) := rv_I0 fun _ _ => rfl
theorem rv_mod (h : 0 < b) : Rv K (rI (fun _ j => 0 < j) fun i j => .int (i % j)) Mu Mu (vI a) (vI b) (vI (a % b)) := rv_IC h fun _ _ => rfl
theorem rv_fdiv (h : CDivW a b) : Rv K (rI CDivW fun i j => .int (i / j)) Mu Mu (vI a) (vI b) (vI (a / b)) := rv_IC h fun _ _ => rfl
theorem rv_mul (h : CMulX a b) : Rv K (rI CMulX fun i j => .int (i * j)) Mu Mu (vI a) (vI b) (vI (a * b)) := rv_IC h fun _ _ => rfl
theorem rv_shr (h : 0 ≤ b) : Rv K (rI (fun _ j => 0 ≤ j) fun i j => .int (i / 2 ^ j.toNat)) Mu Mu (vI a) (vI b) (vI (a / 2 ^ b.toNat)) := rv_IC h fun _ _ => rfl
/-- powers -/
def CPowW (i j : Int) : Prop := 0 ≤ j ∧ (Builtin.Int.intBits i : Int) * j ≤ 2 ^ 27
theorem op_powW {X : Cx} : OpR X (binaryOp .Pow) (rI CPowW fun i j => .int (i ^ j.toNat)) := opI fun _ _ _ _ _ _ _ hc q => PyProof.Rows.pow_int hc.1 hc.2 q
theorem rv_pow (h : CPowW a b) : Rv K (rI CPowW fun i j => .int (i ^ j.toNat)) Mu Mu (vI a) (vI b) (vI (a ^ b.toNat)) := rv_IC h fun _ _ => rfl
/-- == of flat things -/
theorem rv_eqI : Rv K rEq Mu Mu (vI a) (vI b) (vB (decide (a = b))) := rv_same fun B S ls H x y Q hs ha hb q => by
  cases ha
  cases hb
  refine ⟨rfl, q _ ?_⟩
  show V.bl _ = V.bl _
  rw [dec_int, Bool.beq_eq_decide_eq]
theorem rv_neI : Rv K rNe Mu Mu (vI a) (vI b) (vB (!decide (a = b))) := rv_same fun B S ls H x y Q hs ha hb q => by
  cases ha
  cases hb
  refine ⟨rfl, q _ ?_⟩
  show V.bl _ = V.bl _
  rw [dec_int, Bool.beq_eq_decide_eq]
theorem rv_eqS {x y : Str} : Rv K rEq Mu Mu (vS x) (vS y) (vB (decide (x = y))) := rv_same fun B S ls H x y Q hs ha hb q => by
  cases ha
  cases hb
  refine ⟨rfl, q _ ?_⟩
  show V.bl _ = V.bl _
  congr 1
  exact Bool.eq_iff_iff.mpr (by simp)
theorem rv_neS {x y : Str} : Rv K rNe Mu Mu (vS x) (vS y) (vB (!decide (x = y))) := rv_same fun B S ls H x y Q hs ha hb q => by
  cases ha
  cases hb
  refine ⟨rfl, q _ ?_⟩
  show V.bl _ = V.bl _
  congr 2
  exact Bool.eq_iff_iff.mpr (by simp)
theorem rv_eqB {x y : Bool} : Rv K rEq Mu Mu (vB x) (vB y) (vB (decide (x = y))) := rv_same fun B S ls H x y Q hs ha hb q => by
  cases ha
  cases hb
  refine ⟨rfl, q _ ?_⟩
  show V.bl _ = V.bl _
  congr 1
  exact Bool.eq_iff_iff.mpr (by simp)
theorem rv_neB {x y : Bool} : Rv K rNe Mu Mu (vB x) (vB y) (vB (!decide (x = y))) := rv_same fun B S ls H x y Q hs ha hb q => by
  cases ha
  cases hb
  refine ⟨rfl, q _ ?_⟩
  show V.bl _ = V.bl _
  congr 2
  exact Bool.eq_iff_iff.mpr (by simp)
/-- subscripts -/
theorem all_at {vs : List V} {S : Hp} (r : AllT K S vs ts) {i : Int} (h : atI ts i = some t) : ∃ v, atI vs i = some v ∧ t.p K S v := by
  obtain ⟨j, e, f⟩ := atI_len (xs := vs) (ys := ts) (Paired.length r) h
  obtain ⟨v, e1, e2⟩ := Paired.get2 r e
  exact ⟨v, f v e1, e2⟩
theorem rv_ixL {i : Int} {k : Knd} (h : IsSq K Mu s k ts) (hi : atI ts i = some t) (hk : k.isL = true := by rfl) : Rv K (rIxL K) Mu Mu s (vI i) (.val t) := rv_same fun B S ls H x y Q hs ha hb q => by
  obtain ⟨p, vs, e, sq, l, r⟩ := h B S ls H x hs ha
  obtain ⟨v, e1, e2⟩ := all_at r hi
  exact ⟨p, vs, i, v, e, hb, SqK.seq sq hk, e1, q v e2⟩
theorem rv_ixT {i : Int} {k : Knd} (h : IsSq K Mu s k ts) (hi : atI ts i = some t) (hk : k.isL = false := by rfl) : Rv K (rIxT K) Mu Mu s (vI i) (.val t) := rv_same fun B S ls H x y Q hs ha hb q => by
  obtain ⟨p, vs, e, sq, l, r⟩ := h B S ls H x hs ha
  obtain ⟨v, e1, e2⟩ := all_at r hi
  exact ⟨p, vs, i, v, e, hb, SqK.tup sq hk, e1, q v e2⟩
/-- len -/
theorem rc_len {k : Knd} {n : Nat} (h : IsSq K Mu s k ts) (hn : ts.length = n) : Rc K (fun xs H Q => ∃ p ys, xs = [.ref p] ∧ (SqL K H p ys ∨ SqT K H p ys) ∧ Q (.int ys.length) H) Mu Mu [s] (vI (n : Int)) := rc_same fun B S ls H vs Q hs ha q => by
  cases ha with
  | cons r0 r1 =>
    cases r1
    obtain ⟨p, xs, e, sq, l, r⟩ := h B S ls H _ hs r0
    subst e
    refine ⟨p, xs, rfl, SqK.both sq, q _ ?_⟩
    · show V.int _ = V.int _
      rw [Paired.length r, hn]
/-- in, not in: flat things -/
structure Flat {α : Type} [BEq α] (R : Rep α) : Prop where
  fl : ∀ {K S v a}, R.p K S v a → flatV v = true
  eq : ∀ {K S v a w b}, R.p K S v a → R.p K S w b → eqV w v = (b == a)
theorem flat_int : Flat rInt := ⟨fun h => by cases h; rfl, fun h h2 => by cases h; cases h2; rfl⟩
theorem flat_str : Flat rStr := ⟨fun h => by cases h; rfl, fun h h2 => by cases h; cases h2; rfl⟩
theorem flat_bool : Flat rBool := ⟨fun h => by cases h; rfl, fun h h2 => by cases h; cases h2; rfl⟩
theorem all_flat {α : Type} [BEq α] {R : Rep α} (F : Flat R) {S : Hp} : ∀ {vs : List V} {xs : List α}, AllT K S vs (xs.map (tv R)) → vs.all flatV = true
  | [], [], _ => rfl
  | [], _ :: _, h => nomatch h
  | _ :: _, [], h => nomatch h
  | v :: vs, x :: xs, .cons r t => by
    rw [List.all_cons, F.fl r, all_flat F t]
    rfl
theorem inV_flat {α : Type} [BEq α] [LawfulBEq α] {R : Rep α} (F : Flat R) {S : Hp} {v : V} {a : α} (ra : R.p K S v a) : ∀ {vs : List V} {xs : List α}, AllT K S vs (xs.map (tv R)) → inV v vs = xs.contains a
  | [], [], _ => rfl
  | [], _ :: _, h => nomatch h
  | _ :: _, [], h => nomatch h
  | w :: vs, x :: xs, .cons r t => by
    have e1 : inV v (w :: vs) = (eqV w v || inV v vs) := rfl
    rw [e1, F.eq ra r, inV_flat F ra t, List.contains_cons]
    have e2 : (x == a) = (a == x) := Bool.eq_iff_iff.mpr (by rw [beq_iff_eq, beq_iff_eq]; exact eq_comm)
    rw [e2]
theorem rv_in {α : Type} [BEq α] [LawfulBEq α] {R : Rep α} (F : Flat R) {s : SV} {k : Knd} {xs : List α} {a : α} (h : IsSq K Mu s k (xs.map (tv R))) : Rv K (rIn K false) Mu Mu (.val (tv R a)) s (vB (xs.contains a)) := rv_same fun B S ls H x y Q hs ha hb q => by
  obtain ⟨p, vs, e, sq, l, r⟩ := h B S ls H y hs hb
  refine ⟨p, vs, e, SqK.both sq, F.fl ha, all_flat F r, q _ ?_⟩
  · show V.bl _ = V.bl _
    rw [inV_flat F ha r]
    rfl
theorem rv_nin {α : Type} [BEq α] [LawfulBEq α] {R : Rep α} (F : Flat R) {s : SV} {k : Knd} {xs : List α} {a : α} (h : IsSq K Mu s k (xs.map (tv R))) : Rv K (rIn K true) Mu Mu (.val (tv R a)) s (vB (!xs.contains a)) := rv_same fun B S ls H x y Q hs ha hb q => by
  obtain ⟨p, vs, e, sq, l, r⟩ := h B S ls H y hs hb
  refine ⟨p, vs, e, SqK.both sq, F.fl ha, all_flat F r, q _ ?_⟩
  · show V.bl _ = V.bl _
    rw [inV_flat F ha r]
    rfl
end

/-! ### displays, fresh things -/
section
variable {K : PySem.W.Frag} {G : Gm} {Mu Mu1 Mu2 : Mm} {ta : TA} {te : TE} {ts : List TV} {m : MV} {t : TV}
theorem allS_vals {S : Hp} {ls : List Addr} : ∀ {vs : List V} {ts : List TV}, AllS K S ls vs (ts.map .val) → AllT K S vs ts
  | [], [], _ => .nil
  | [], _ :: _, h => nomatch h
  | _ :: _, [], h => nomatch h
  | _ :: _, _ :: _, .cons r t => .cons r (allS_vals t)
theorem allT_vals {S : Hp} {ls : List Addr} : ∀ {vs : List V} {ts : List TV}, AllT K S vs ts → AllS K S ls vs (ts.map .val)
  | _, _, .nil => .nil
  | _, _, .cons r t => .cons r (allT_vals t)
/-- (a, b, ..) -/
theorem ev_tup {ss : List SV} (h : EvA K ta G Mu Mu1 ss) (e : ss = ts.map .val := by rfl) (hl : Nat.ble ts.length 64 = true := by rfl) : EvV K (tTup ta) G Mu Mu1 (.val (tupT ts)) := fun B σ S ls H Q sl hs q =>
  h B σ S ls H _ sl hs fun vs S1 l1 H1 a1 b1 c1 d1 => by
    subst e
    have r := allS_vals d1
    have hz : vs.length ≤ sizeLine := by
      have hl := Nat.le_of_ble_eq_true hl
      rw [Paired.length r, sizeLine_eq]
      omega
    refine ⟨hz, fun p hp => ?_⟩
    obtain ⟨s2, h2⟩ := c1.laid (o := .tup vs) hp
    exact q _ _ _ _ (a1.trans s2) b1 h2 ⟨p, vs, rfl, upd_same, hz, r.mono s2⟩
/-- [a, b, ..] -/
theorem ef_lst {ss : List SV} (h : EvA K ta G Mu Mu1 ss) (e : ss = ts.map .val := by rfl) (hl : Nat.ble ts.length 64 = true := by rfl) : EvF K (tLst ta) G Mu Mu1 (mL ts) := fun B σ S ls H Q sl hs q =>
  h B σ S ls H _ sl hs fun vs S1 l1 H1 a1 b1 c1 d1 => by
    subst e
    have r := allS_vals d1
    have hz : vs.length ≤ sizeLine := by
      have hl := Nat.le_of_ble_eq_true hl
      rw [Paired.length r, sizeLine_eq]
      omega
    refine ⟨hz, fun p hp => ?_⟩
    obtain ⟨n1, n2, n3⟩ := c1.fresh hp
    exact q p _ _ _ _ a1 b1 (c1.loose hp) upd_same n1 n2 n3 ⟨vs, rfl, hz, r⟩
/-- a fresh object stands from now on -/
def Frz (m : MV) (t : TV) : Prop := ∀ {K S p o}, m.q K S p o → S p = some o → t.p K S (.ref p)
theorem frz_l {ts : List TV} : Frz (mL ts) (lstT ts) := fun ⟨vs, e, l, r⟩ h => by
  subst e
  exact ⟨_, vs, rfl, h, l, r⟩
theorem ev_frz (h : EvF K te G Mu Mu1 m) (f : Frz m t) : EvV K te G Mu Mu1 (.val t) := fun B σ S ls H Q sl hs q =>
  h B σ S ls H _ sl hs fun p o S1 l1 H1 a1 b1 c1 e1 n1 n2 n3 d1 => by
    obtain ⟨s2, h2⟩ := c1.stand e1 n1 n2 n3
    exact q _ _ _ _ (a1.trans s2) b1 h2 (f (m.mono s2 d1) upd_same)
theorem ev_lst (h : EvF K te G Mu Mu1 (mL ts)) : EvV K te G Mu Mu1 (.val (lstT ts)) := ev_frz h frz_l
/-- .. or is an own cell -/
theorem ev_own (h : EvF K te G Mu Mu1 m) : EvV K te G Mu (Mu1 ++ [some m]) (.cell Mu1.length) := fun B σ S ls H Q sl hs q =>
  h B σ S ls H _ sl hs fun p o S1 l1 H1 a1 b1 c1 e1 n1 n2 n3 d1 => by
    obtain ⟨p2, h2⟩ := c1.own e1 n1 n2 n3 d1
    exact q _ _ _ _ a1 (b1.trans p2) h2 ⟨p, by rw [← c1.len]; simp, rfl⟩
end

/-! ### blocks -/
inductive OS where
  | nx (G : Gm) (Mu : Mm) | bk (G : Gm) (Mu : Mm) | ct (G : Gm) (Mu : Mm)
  | rt (t : TV) (Mp : Mm) | rf (m : MV) (Mp : Mm) | vd (Mp : Mm) | rn (Mp : Mm) | never
/-- the same cells, as far as both tell -/
def Cmp (ls ls' : List Addr) : Prop := ∀ (k : Nat) (a : Addr), ls[k]? = some a → k < ls'.length → ls'[k]? = some a
theorem Cmp.refl (ls : List Addr) : Cmp ls ls := fun _ _ e _ => e
theorem Cmp.pre {a b c : List Addr} (h : Pre a b) (g : Cmp b c) : Cmp a c := fun k x e l => g k x (h.get e) l
theorem Cmp.take {a b : List Addr} (h : Pre a b) (n : Nat) : Cmp a (b.take n) := fun k x e l => by
  rw [List.getElem?_take_of_lt (by rw [List.length_take] at l; omega)]
  exact h.get e
theorem Cmp.to_pre {a b : List Addr} (h : Cmp a b) (l : a.length ≤ b.length) : Pre a b := by
  refine ⟨b.drop a.length, ?_⟩
  apply List.ext_getElem?
  intro k
  by_cases hk : k < a.length
  · rw [List.getElem?_append_left hk, List.getElem?_eq_getElem hk]
    exact h k _ (List.getElem?_eq_getElem hk) (by omega)
  · rw [List.getElem?_append_right (by omega), List.getElem?_drop]
    congr 1
    omega
def Acc (K : PySem.W.Frag) (B : Bs) (S : Hp) (ls : List Addr) (D : Ends) : OS → Prop
  | .nx G Mu => ∀ σ' S' ls' H', Same S S' → Cmp ls ls' → Sl K S' ls' σ' G → HS K B S' ls' Mu H' → D.nx σ' H'
  | .bk G Mu => ∀ σ' S' ls' H', Same S S' → Cmp ls ls' → Sl K S' ls' σ' G → HS K B S' ls' Mu H' → D.bk σ' H'
  | .ct G Mu => ∀ σ' S' ls' H', Same S S' → Cmp ls ls' → Sl K S' ls' σ' G → HS K B S' ls' Mu H' → D.ct σ' H'
  | .rt t Mp => ∀ v S' ls' H' Mj, HS K B S' ls' (Mp ++ Mj) H' → t.p K S' v → D.rt v H'
  | .rf m Mp => ∀ p o S' ls' H' Mj, HS K B S' ls' (Mp ++ Mj) H' → H' p = some o → S' p = none → p ∉ ls'.take Mp.length → B.H0 p = none → m.q K S' p o → D.rt (.ref p) H'
  | .vd Mp => ∀ σ' S' ls' H' Mj, HS K B S' ls' (Mp ++ Mj) H' → D.nx σ' H' ∧ D.rt .non H'
  | .rn Mp => ∀ S' ls' H' Mj, HS K B S' ls' (Mp ++ Mj) H' → D.rt .non H'
  | .never => True
theorem Acc.mono {K : PySem.W.Frag} {B : Bs} {S S1 : Hp} {ls ls1 : List Addr} {D : Ends} (h : Same S S1) (g : Pre ls ls1) : ∀ {o : OS}, Acc K B S ls D o → Acc K B S1 ls1 D o
  | .nx _ _, q => fun σ' S' ls' H' z a => q σ' S' ls' H' (h.trans z) (a.pre g)
  | .bk _ _, q => fun σ' S' ls' H' z a => q σ' S' ls' H' (h.trans z) (a.pre g)
  | .ct _ _, q => fun σ' S' ls' H' z a => q σ' S' ls' H' (h.trans z) (a.pre g)
  | .rt _ _, q => q
  | .rf _ _, q => q
  | .vd _, q => q
  | .rn _, q => q
  | .never, _ => trivial
theorem HS.trunc {K : PySem.W.Frag} {B : Bs} {S H : Hp} {ls : List Addr} {Mu Mj : Mm} (h : HS K B S ls (Mu ++ Mj) H) (hc : B.C0.length ≤ Mu.length) : HS K B S (ls.take Mu.length) Mu H := by
  have hl : Mu.length ≤ ls.length := by
    rw [h.len, List.length_append]
    omega
  refine ⟨h.ex, h.s0, h.new, h.fr, ?_, by rw [List.length_take]; omega, h.nd.sublist (List.take_sublist _ _), fun k m e => ?_, fun a ha => h.old a (List.mem_of_mem_take ha), fun a ha => h.lsn a (List.mem_of_mem_take ha)⟩
  · obtain ⟨m, e⟩ := h.c0
    exact ⟨m.take (Mu.length - B.C0.length), by rw [e, List.take_append, List.take_of_length_le hc]⟩
  · have hk : k < Mu.length := (List.getElem?_eq_some_iff.mp e).1
    obtain ⟨a, o, e1, r⟩ := h.cell k m (by rw [List.getElem?_append_left hk]; exact e)
    exact ⟨a, o, by rw [List.getElem?_take_of_lt hk]; exact e1, r⟩
def EvB {ω : Type} (K : PySem.W.Frag) (np : Nat) (t : TS) (G : Gm) (Mu : Mm) (κ : ω → OS) (m : Mr ω) : Prop :=
  ∀ B σ S ls H D w, B.C0.length = np → Sl K S ls σ G → HS K B S ls Mu H → m = .ok w → Acc K B S ls D (κ w) → t D σ H
/-- slots forgotten, slot by slot -/
inductive GSub : Gm → Gm → Prop where
  | nil : GSub [] []
  | keep {s : Option SV} {G' G : Gm} (h : GSub G' G) : GSub (s :: G') (s :: G)
  | drop {s : Option SV} {G' G : Gm} (h : GSub G' G) : GSub (none :: G') (s :: G)
theorem GSub.len : ∀ {G' G : Gm}, GSub G' G → G'.length = G.length
  | _, _, .nil => rfl
  | _, _, .keep h => congrArg (· + 1) h.len
  | _, _, .drop h => congrArg (· + 1) h.len
theorem GSub.get : ∀ {G' G : Gm}, GSub G' G → ∀ (i : Nat) (s : SV), G'[i]? = some (some s) → G[i]? = some (some s)
  | _, _, .nil, _, _, e => by simp at e
  | _, _, .keep h, 0, _, e => e
  | _, _, .keep h, i + 1, s, e => h.get i s e
  | _, _, .drop h, 0, _, e => by simp at e
  | _, _, .drop h, i + 1, s, e => h.get i s e
theorem GSub.refl : ∀ G : Gm, GSub G G
  | [] => .nil
  | _ :: G => .keep (GSub.refl G)
theorem Sl.sub {K : PySem.W.Frag} {S : Hp} {ls : List Addr} {σ : St} {G G' : Gm} (q : Sl K S ls σ G) (h : GSub G' G) : Sl K S ls σ G' := q.drop h.len h.get
def cellsOk (n : Nat) : Gm → Bool
  | [] => true
  | some (.cell k) :: r => decide (k < n) && cellsOk n r
  | _ :: r => cellsOk n r
theorem cellsOk_get {n : Nat} : ∀ {G : Gm}, cellsOk n G = true → ∀ (i k : Nat), G[i]? = some (some (.cell k)) → k < n
  | [], _, i, k, e => by simp at e
  | some (.cell j) :: r, h, 0, k, e => by
    have e : some (SV.cell j) = some (SV.cell k) := by simpa using e
    cases e
    have := (Bool.and_eq_true_iff.mp (show (decide (j < n) && cellsOk n r) = true from h)).1
    exact of_decide_eq_true this
  | some (.cell j) :: r, h, i + 1, k, e => cellsOk_get ((Bool.and_eq_true_iff.mp (show (decide (j < n) && cellsOk n r) = true from h)).2) i k (by simpa using e)
  | some (.val t) :: r, h, 0, k, e => by simp at e
  | some (.val t) :: r, h, i + 1, k, e => cellsOk_get (show cellsOk n r = true from h) i k (by simpa using e)
  | none :: r, h, 0, k, e => by simp at e
  | none :: r, h, i + 1, k, e => cellsOk_get (show cellsOk n r = true from h) i k (by simpa using e)
theorem Sl.trunc {K : PySem.W.Frag} {S : Hp} {ls : List Addr} {σ : St} {G : Gm} {n : Nat} (q : Sl K S ls σ G) (h : cellsOk n G = true) : Sl K S (ls.take n) σ G :=
  ⟨q.1, fun i s e => by
    obtain ⟨v, e1, e2⟩ := q.2 i s e
    refine ⟨v, e1, ?_⟩
    cases s with
    | val t => exact e2
    | cell k =>
      obtain ⟨a, f1, f2⟩ := e2
      exact ⟨a, by rw [List.getElem?_take_of_lt (cellsOk_get h i k e)]; exact f1, f2⟩⟩
section
variable {ω τ : Type} {K : PySem.W.Frag} {np : Nat} {G G' : Gm} {Mu Mu1 Mu2 : Mm} {κ : ω → OS} {m : Mr ω} {w : ω} {t u : TS} {te : TE} {s : SV} {i : Nat}
theorem eb_bind {α : Type} {p : Mr α} {k : α → Mr ω} (h : ∀ r, p = .ok r → EvB K np t G Mu κ (k r)) : EvB K np t G Mu κ (p >>= k) := fun B σ S ls H D w hn sl hs e q => by
  obtain ⟨a, e1, e2⟩ := bind_ok e
  exact h a e1 B σ S ls H D w hn sl hs e2 q
theorem eb_if {c : Prop} [Decidable c] {m1 m2 : Mr ω} (h1 : c → EvB K np t G Mu κ m1) (h2 : ¬ c → EvB K np t G Mu κ m2) : EvB K np t G Mu κ (if c then m1 else m2) := by
  by_cases h : c
  · rw [if_pos h]
    exact h1 h
  · rw [if_neg h]
    exact h2 h
theorem eb_eq {m' : Mr ω} (h : EvB K np t G Mu κ m') (e : m = m') : EvB K np t G Mu κ m := e ▸ h
/-- the end of a block; what came to be in it is dropped -/
theorem eb_nil {G0 : Gm} {Mu0 Mj : Mm} (hκ : κ w = .nx G0 Mu0) (hG : GSub G0 G) (hM : Mu = Mu0 ++ Mj) (hn : np ≤ Mu0.length) (hc : cellsOk Mu0.length G0 = true) : EvB K np tNext G Mu κ (.ok w) := fun B σ S ls H D w' e0 sl hs e q => by
  cases e
  rw [hκ] at q
  subst hM
  have hp : B.C0.length ≤ Mu0.length := by rw [e0]; exact hn
  exact q σ S _ H (Same.refl _) (Cmp.take (Pre.refl _) _) ((sl.sub hG).trunc hc) (hs.trunc hp)
theorem eb_pass (h : EvB K np u G Mu κ m) : EvB K np (tSeq tNext u) G Mu κ m := fun B σ S ls H D w hn sl hs e q => h B σ S ls H D w hn sl hs e q
theorem eb_brk {G0 : Gm} {Mu0 Mj : Mm} (hκ : κ w = .bk G0 Mu0) (hG : GSub G0 G) (hM : Mu = Mu0 ++ Mj) (hn : np ≤ Mu0.length) (hc : cellsOk Mu0.length G0 = true) : EvB K np (tSeq tBreak u) G Mu κ (.ok w) := fun B σ S ls H D w' e0 sl hs e q => by
  cases e
  rw [hκ] at q
  subst hM
  have hp : B.C0.length ≤ Mu0.length := by rw [e0]; exact hn
  exact q σ S _ H (Same.refl _) (Cmp.take (Pre.refl _) _) ((sl.sub hG).trunc hc) (hs.trunc hp)
theorem eb_cnt {G0 : Gm} {Mu0 Mj : Mm} (hκ : κ w = .ct G0 Mu0) (hG : GSub G0 G) (hM : Mu = Mu0 ++ Mj) (hn : np ≤ Mu0.length) (hc : cellsOk Mu0.length G0 = true) : EvB K np (tSeq tCont u) G Mu κ (.ok w) := fun B σ S ls H D w' e0 sl hs e q => by
  cases e
  rw [hκ] at q
  subst hM
  have hp : B.C0.length ≤ Mu0.length := by rw [e0]; exact hn
  exact q σ S _ H (Same.refl _) (Cmp.take (Pre.refl _) _) ((sl.sub hG).trunc hc) (hs.trunc hp)
/-- x = e -/
theorem eb_asg (h : EvV K te G Mu Mu1 s) (r : EvB K np u (G.set i (some s)) Mu1 κ m) : EvB K np (tSeq (tAsg te (gName i)) u) G Mu κ m := fun B σ S ls H D w hn sl hs e q =>
  h B σ S ls H _ sl hs fun v S1 l1 H1 a1 b1 c1 d1 => r B (σ.set i (some v)) S1 l1 H1 D w hn ((sl.mono a1 b1).set d1) c1 e (q.mono a1 b1)
/-- e; alone -/
theorem eb_drop (h : EvV K te G Mu Mu1 s) (r : EvB K np u G Mu1 κ m) : EvB K np (tSeq (tDrop te) u) G Mu κ m := fun B σ S ls H D w hn sl hs e q =>
  h B σ S ls H _ sl hs fun v S1 l1 H1 a1 b1 c1 d1 => r B σ S1 l1 H1 D w hn (sl.mono a1 b1) c1 e (q.mono a1 b1)
/-- return e -/
theorem eb_ret {tt : TV} {Mp Mj : Mm} (h : EvV K te G Mu Mu1 (.val tt)) (hκ : κ w = .rt tt Mp) (hM : Mu1 = Mp ++ Mj) : EvB K np (tSeq (tRet te) u) G Mu κ (.ok w) := fun B σ S ls H D w' hn sl hs e q => by
  cases e
  rw [hκ] at q
  subst hM
  exact h B σ S ls H _ sl hs fun v S1 l1 H1 a1 b1 c1 d1 => q v S1 l1 H1 Mj c1 d1
theorem eb_retF {mv : MV} {Mp Mj : Mm} (h : EvF K te G Mu Mu1 mv) (hκ : κ w = .rf mv Mp) (hM : Mu1 = Mp ++ Mj) : EvB K np (tSeq (tRet te) u) G Mu κ (.ok w) := fun B σ S ls H D w' hn sl hs e q => by
  cases e
  rw [hκ] at q
  subst hM
  exact h B σ S ls H _ sl hs fun p o S1 l1 H1 a1 b1 c1 e1 n1 n2 n3 d1 => q p o S1 l1 H1 Mj c1 e1 n1 (fun z => n2 (List.mem_of_mem_take z)) n3 d1
/-- return of an own cell -/
theorem eb_retC {mv : MV} {Mp Mj : Mm} {k : Nat} (h : EvV K te G Mu Mu1 (.cell k)) (hκ : κ w = .rf mv Mp) (hM : Mu1 = Mp ++ Mj) (hk : Mu1[k]? = some (some mv)) (hp : Mp.length ≤ k) (hnp : np ≤ Mp.length) : EvB K np (tSeq (tRet te) u) G Mu κ (.ok w) := fun B σ S ls H D w' hn sl hs e q => by
  cases e
  rw [hκ] at q
  refine h B σ S ls H _ sl hs fun v S1 l1 H1 a1 b1 c1 d1 => ?_
  obtain ⟨a, e1, e2⟩ := d1
  subst e2
  obtain ⟨a', o, f1, f2, f3, f4⟩ := c1.cell k mv hk
  rw [e1] at f1
  cases f1
  have f5 := c1.lsn a (List.mem_of_getElem? e1)
  subst hM
  refine q a o S1 l1 H1 Mj c1 f3 f2 (fun z => ?_) ?_ f4
  · obtain ⟨j, hj, ej⟩ := List.mem_iff_getElem.mp z
    rw [List.getElem_take] at ej
    rw [List.length_take] at hj
    obtain ⟨l2, g2⟩ := List.getElem?_eq_some_iff.mp e1
    have := (List.getElem_inj c1.nd).mp (ej.trans g2.symm)
    omega
  · rcases f5 with z | z
    · exact z
    · exfalso
      obtain ⟨j, hj, ej⟩ := List.mem_iff_getElem.mp z
      obtain ⟨more, em⟩ := c1.c0
      have hj2 : j < l1.length := by rw [em, List.length_append]; omega
      have ej2 : l1[j] = a := by
        rw [← ej]
        simp only [em]
        exact List.getElem_append_left hj
      obtain ⟨l2, g2⟩ := List.getElem?_eq_some_iff.mp e1
      have := (List.getElem_inj c1.nd).mp (ej2.trans g2.symm)
      omega
theorem eb_retN {Mp Mj : Mm} (hκ : κ w = .vd Mp ∨ κ w = .rn Mp) (hM : Mu = Mp ++ Mj) : EvB K np (tSeq tRetN u) G Mu κ (.ok w) := fun B σ S ls H D w' hn sl hs e q => by
  cases e
  subst hM
  rcases hκ with hκ | hκ
  · rw [hκ] at q
    exact (q σ S ls H Mj hs).2
  · rw [hκ] at q
    exact q S ls H Mj hs
/-- the end of a def without a value -/
theorem eb_end {Mp Mj : Mm} (hκ : κ w = .vd Mp) (hM : Mu = Mp ++ Mj) : EvB K np tNext G Mu κ (.ok w) := fun B σ S ls H D w' hn sl hs e q => by
  cases e
  rw [hκ] at q
  subst hM
  exact (q σ S ls H Mj hs).1
/-- outcomes of a part, beside going on -/
def inn : OS → OS
  | .nx _ _ => .never
  | .vd Mp => .rn Mp
  | o => o
def innL : OS → OS
  | .rt t Mp => .rt t Mp
  | .rf m Mp => .rf m Mp
  | .vd Mp => .rn Mp
  | .rn Mp => .rn Mp
  | _ => .never
abbrev inner (κ : ω → OS) (w : ω) : OS := inn (κ w)
abbrev innerL (κ : ω → OS) (w : ω) : OS := innL (κ w)
theorem acc_inn {B : Bs} {S : Hp} {ls : List Addr} {D D' : Ends} (hr : D'.rt = D.rt) (hb : D'.bk = D.bk) (hc : D'.ct = D.ct) : ∀ {o : OS}, Acc K B S ls D o → Acc K B S ls D' (inn o)
  | .nx _ _, _ => trivial
  | .bk _ _, q => fun σ' S' ls' H' a b c d => by rw [hb]; exact q σ' S' ls' H' a b c d
  | .ct _ _, q => fun σ' S' ls' H' a b c d => by rw [hc]; exact q σ' S' ls' H' a b c d
  | .rt _ _, q => fun v S' ls' H' Mj a b => by rw [hr]; exact q v S' ls' H' Mj a b
  | .rf _ _, q => fun p o S' ls' H' Mj a b c d e f => by rw [hr]; exact q p o S' ls' H' Mj a b c d e f
  | .vd _, q => fun S' ls' H' Mj a => by rw [hr]; exact (q [] S' ls' H' Mj a).2
  | .rn _, q => fun S' ls' H' Mj a => by rw [hr]; exact q S' ls' H' Mj a
  | .never, _ => trivial
theorem acc_innL {B : Bs} {S S' : Hp} {ls ls' : List Addr} {D D' : Ends} (hr : D'.rt = D.rt) : ∀ {o : OS}, Acc K B S ls D o → Acc K B S' ls' D' (innL o)
  | .nx _ _, _ => trivial
  | .bk _ _, q => trivial
  | .ct _ _, q => trivial
  | .rt _ _, q => fun v S' ls' H' Mj a b => by rw [hr]; exact q v S' ls' H' Mj a b
  | .rf _ _, q => fun p o S' ls' H' Mj a b c d e f => by rw [hr]; exact q p o S' ls' H' Mj a b c d e f
  | .vd _, q => fun S' ls' H' Mj a => by rw [hr]; exact (q [] S' ls' H' Mj a).2
  | .rn _, q => fun S' ls' H' Mj a => by rw [hr]; exact q S' ls' H' Mj a
  | .never, _ => trivial
def jnK (g : τ → Gm) (mu : τ → Mm) (κ : ω → OS) : Jn τ ω → OS
  | .go s => .nx (g s) (mu s)
  | .out w => inner κ w
/-- if c: a (that does not go on); and what follows -/
theorem eb_ifr {tc : TT} {ta : TS} {b : Bool} {mA mR : Mr ω} (h : EvT K tc G Mu Mu1 b) (hA : b = true → EvB K np ta G Mu1 (inner κ) mA) (hR : b = false → EvB K np u G Mu1 κ mR) :
    EvB K np (tSeq (tIfS tc ta tNext) u) G Mu κ (if b = true then mA else mR) := fun B σ S ls H D w hn sl hs e q =>
  h B σ S ls H _ sl hs fun S1 l1 H1 a1 b1 c1 => by
    cases b with
    | true =>
      rw [if_pos rfl] at e
      rw [if_pos rfl]
      exact hA rfl B σ S1 l1 H1 _ w hn (sl.mono a1 b1) c1 e (acc_inn (D := D) (D' := { D with nx := u D }) rfl rfl rfl (q.mono a1 b1))
    | false =>
      rw [if_neg Bool.false_ne_true] at e
      rw [if_neg Bool.false_ne_true]
      exact hR rfl B σ S1 l1 H1 D w hn (sl.mono a1 b1) c1 e (q.mono a1 b1)
/-- if c: a else: b, and what follows both -/
theorem eb_ifj {tc : TT} {ta tb : TS} {b : Bool} {mA mB : Mr (Jn τ ω)} {g : τ → Gm} {mu : τ → Mm} {k : τ → Mr ω} (h : EvT K tc G Mu Mu1 b) (hA : b = true → EvB K np ta G Mu1 (jnK g mu κ) mA) (hB : b = false → EvB K np tb G Mu1 (jnK g mu κ) mB)
    (hl : ∀ s, Mu1.length ≤ (mu s).length) (hR : ∀ s, EvB K np u (g s) (mu s) κ (k s)) : EvB K np (tSeq (tIfS tc ta tb) u) G Mu κ ((if b = true then mA else mB) >>= Jn.k k) := fun B σ S ls H D w hn sl hs e q =>
  h B σ S ls H _ sl hs fun S1 l1 H1 a1 b1 c1 => by
    obtain ⟨j, e1, e2⟩ := bind_ok e
    have acc : Acc K B S1 l1 { D with nx := u D } (jnK g mu κ j) := by
      cases j with
      | go s =>
        intro σ' S' ls' H' sa cm sl' hs'
        have pr : Pre l1 ls' := cm.to_pre (by rw [c1.len, hs'.len]; exact hl s)
        exact hR s B σ' S' ls' H' D w hn sl' hs' e2 (q.mono (a1.trans sa) (b1.trans pr))
      | out w' =>
        cases e2
        refine acc_inn (D := D) ?_ ?_ ?_ (q.mono a1 b1) <;> rfl
    cases b with
    | true =>
      rw [if_pos rfl] at e1
      rw [if_pos rfl]
      exact hA rfl B σ S1 l1 H1 _ j hn (sl.mono a1 b1) c1 e1 acc
    | false =>
      rw [if_neg Bool.false_ne_true] at e1
      rw [if_neg Bool.false_ne_true]
      exact hB rfl B σ S1 l1 H1 _ j hn (sl.mono a1 b1) c1 e1 acc
/-- the last statement of a block -/
theorem eb_ifl {tc : TT} {ta tb : TS} {b : Bool} {mA mB : Mr ω} (h : EvT K tc G Mu Mu1 b) (hA : b = true → EvB K np ta G Mu1 κ mA) (hB : b = false → EvB K np tb G Mu1 κ mB) :
    EvB K np (tSeq (tIfS tc ta tb) tNext) G Mu κ (if b = true then mA else mB) := fun B σ S ls H D w hn sl hs e q =>
  h B σ S ls H _ sl hs fun S1 l1 H1 a1 b1 c1 => by
    cases b with
    | true =>
      rw [if_pos rfl] at e
      rw [if_pos rfl]
      exact hA rfl B σ S1 l1 H1 D w hn (sl.mono a1 b1) c1 e (q.mono a1 b1)
    | false =>
      rw [if_neg Bool.false_ne_true] at e
      rw [if_neg Bool.false_ne_true]
      exact hB rfl B σ S1 l1 H1 D w hn (sl.mono a1 b1) c1 e (q.mono a1 b1)

/-! ### loops -/
def stpK (g : τ → Gm) (mu : τ → Mm) (κ : ω → OS) : Stp τ ω → OS
  | .go s => .nx (g s) (mu s)
  | .cnt s => .ct (g s) (mu s)
  | .brk s => .bk (g s) (mu s)
  | .out w => innerL κ w
/-- what a loop or a comprehension walks: ts, while the cells are as P says -/
def ItOk (K : PySem.W.Frag) (J : It) (B : Bs) (S0 : Hp) (ls0 : List Addr) (ts : List TV) (P : Mm → Prop) : Prop :=
  ∀ i S ls Mu H, Same S0 S → Pre ls0 ls → P Mu → HS K B S ls Mu H →
    (∀ t, ts[i]? = some t → J.go i H ∧ ∀ x H', J.yld i H x H' → ∃ S', Same S S' ∧ HS K B S' ls Mu H' ∧ t.p K S' x ∧ Same H H' ∧ ∀ a o, S' a = some o → S a = some o ∨ H a = none) ∧ (ts.length ≤ i → J.stop i H)
def AftI (K : PySem.W.Frag) (B : Bs) (S : Hp) (ls : List Addr) (Mu : Mm) (ts : List TV) (P : Mm → Prop) (Z : Prop) (R : It → Hp → Prop) : Prop :=
  ∀ J S' ls' H', Same S S' → Pre ls ls' → HS K B S' ls' Mu H' → ItOk K J B S' ls' ts P → Z → R J H'
def EvI (K : PySem.W.Frag) (wi : TI) (G : Gm) (Mu Mu' : Mm) (ts : List TV) (P : Mm → Prop) (Z : Prop) : Prop :=
  ∀ B σ S ls H R, Sl K S ls σ G → HS K B S ls Mu H → AftI K B S ls Mu' ts P Z R → wi σ H R
/-- an item goes to its target -/
def EvG (K : PySem.W.Frag) (tg : TG) (s : SV) (G G' : Gm) : Prop :=
  ∀ B v σ S ls Mu H Q, s.p K S ls v → Sl K S ls σ G → HS K B S ls Mu H → (∀ σ', Sl K S ls σ' G' → Q σ' H) → tg v σ H Q
theorem eg_name : EvG K (gName i) s G (G.set i (some s)) := fun B v σ S ls Mu H Q r sl hs q => q _ (sl.set r)
theorem eb_for {α : Type} {R : Rep α} {wi : TI} {tg : TG} {tb : TS} {xs : List α} {P : Mm → Prop} {Z : Prop} {g : τ → Gm} {mu : τ → Mm} {s0 : τ} {f : τ → α → Mr (Stp τ ω)} {k : τ → Mr ω} {Gi : τ → α → Gm}
    (hi : EvI K wi G Mu (mu s0) (xs.map (tv R)) P Z) (hP : ∀ s, P (mu s)) (h0 : GSub (g s0) G) (hl : ∀ s, (mu s).length = (mu s0).length)
    (hg : ∀ s x, EvG K tg (.val (tv R x)) (g s) (Gi s x)) (hb : ∀ s x, EvB K np tb (Gi s x) (mu s) (stpK g mu κ) (f s x)) (hR : ∀ s, EvB K np u (g s) (mu s) κ (k s)) :
    EvB K np (tSeq (tFor wi tg tb) u) G Mu κ (forL xs s0 f >>= Stp.k k) := fun B σ S ls H D w hn sl hs e q =>
  hi B σ S ls H _ sl hs fun J S1 l1 H1 a1 b1 c1 it _ => by
    obtain ⟨r, e1, e2⟩ := bind_ok e
    refine ⟨fun i m σ' H' => m = xs.length - i ∧ i ≤ xs.length ∧ ∃ s S' ls', Same S1 S' ∧ Pre l1 ls' ∧ Sl K S' ls' σ' (g s) ∧ HS K B S' ls' (mu s) H' ∧ forL (xs.drop i) s f = .ok r, ⟨xs.length, by simp, Nat.zero_le _, s0, S1, l1, Same.refl _, Pre.refl _, (sl.mono a1 b1).sub h0, c1, e1⟩, ?_⟩
    rintro i m σ' H' ⟨rfl, hi, s, S', ls', sa, pr, sl', hs', er⟩
    obtain ⟨it1, it2⟩ := it i S' ls' (mu s) H' sa pr (hP s) hs'
    by_cases hlt : i < xs.length
    · have ei : (xs.map (tv R))[i]? = some (tv R xs[i]) := by simp [hlt]
      obtain ⟨go, yl⟩ := it1 _ ei
      rw [List.drop_eq_getElem_cons hlt] at er
      refine .inr ⟨go, fun σ3 H3 => ∃ s3 S3 ls3, Same S1 S3 ∧ Pre l1 ls3 ∧ Sl K S3 ls3 σ3 (g s3) ∧ HS K B S3 ls3 (mu s3) H3 ∧ forL (xs.drop (i + 1)) s3 f = .ok r, fun σ3 H3 n3 => ⟨xs.length - (i + 1), by omega, rfl, hlt, n3⟩, fun x H2 y => ?_⟩
      obtain ⟨S2, sa2, hs2, rx, _, _⟩ := yl x H2 y
      refine hg s xs[i] B x σ' S2 ls' (mu s) H2 _ rx (sl'.mono sa2 (Pre.refl _)) hs2 fun σ4 sl4 => ?_
      cases ef : f s xs[i] with
      | error z =>
        unfold forL at er
        rw [ef] at er
        cases er
      | ok st =>
        refine hb s xs[i] B σ4 S2 ls' H2 _ st hn sl4 hs2 ef ?_
        have nxt : ∀ s3 σ3 S3 ls3 H3, forL (xs.drop (i + 1)) s3 f = .ok r → Same S2 S3 → Cmp ls' ls3 → Sl K S3 ls3 σ3 (g s3) → HS K B S3 ls3 (mu s3) H3 → ∃ s3 S3 ls3, Same S1 S3 ∧ Pre l1 ls3 ∧ Sl K S3 ls3 σ3 (g s3) ∧ HS K B S3 ls3 (mu s3) H3 ∧ forL (xs.drop (i + 1)) s3 f = .ok r :=
          fun s3 σ3 S3 ls3 H3 er3 sa3 cm sl3 hs3 => by
            have hle : ls'.length ≤ ls3.length := by rw [hs'.len, hs3.len, hl s, hl s3]; exact Nat.le_refl _
            exact ⟨s3, S3, ls3, (sa.trans sa2).trans sa3, pr.trans (cm.to_pre hle), sl3, hs3, er3⟩
        cases st with
        | go s3 =>
          unfold forL at er
          rw [ef] at er
          exact fun σ3 S3 ls3 H3 sa3 cm sl3 hs3 => nxt s3 σ3 S3 ls3 H3 er sa3 cm sl3 hs3
        | cnt s3 =>
          unfold forL at er
          rw [ef] at er
          exact fun σ3 S3 ls3 H3 sa3 cm sl3 hs3 => nxt s3 σ3 S3 ls3 H3 er sa3 cm sl3 hs3
        | brk s3 =>
          unfold forL at er
          rw [ef] at er
          cases er
          refine fun σ3 S3 ls3 H3 sa3 cm sl3 hs3 => ?_
          have hle : ls'.length ≤ ls3.length := by rw [hs'.len, hs3.len, hl s, hl s3]; exact Nat.le_refl _
          exact hR s3 B σ3 S3 ls3 H3 D w hn sl3 hs3 e2 (q.mono (((a1.trans sa).trans sa2).trans sa3) ((b1.trans pr).trans (cm.to_pre hle)))
        | out w' =>
          unfold forL at er
          rw [ef] at er
          cases er
          cases e2
          refine acc_innL (D := D) ?_ q; rfl
    · have e0 : i = xs.length := by omega
      subst e0
      rw [List.drop_length] at er
      unfold forL at er
      cases er
      exact .inl ⟨it2 (by simp), hR s B σ' S' ls' H' D w hn sl' hs' e2 (q.mono (a1.trans sa) (b1.trans pr))⟩
end
end TL

/-! TL, third part: what is walked, comprehensions, while, promises and calls, built-ins, methods. -/
namespace TL
open PySem L2
def AnyM : Mm → Prop := fun _ => True
def Sm62 (a : Int) : Prop := -(2 ^ 62) ≤ a ∧ a < 2 ^ 62
section
variable {K : PySem.W.Frag} {G : Gm} {Mu Mu1 Mu2 : Mm} {ta : TA} {te tl : TE} {s : SV} {ts : List TV} {k : Knd} {a b : Int} {j : Nat}
/-- a value that is a sequence -/
theorem ei_list (h : EvV K tl G Mu Mu1 (.val (sqT k ts))) (hk : k.isL = true := by rfl) : EvI K (iList K tl) G Mu Mu1 ts AnyM (ts.length ≤ sizeLine) := fun B σ S ls H R sl hs q =>
  h B σ S ls H _ sl hs fun x S1 l1 H1 a1 b1 c1 d1 => by
    obtain ⟨p, vs, e, sq, hz, r⟩ := d1
    subst e
    have sql : SqL K S1 p vs := SqK.seq sq hk
    refine ⟨p, rfl, ⟨vs, Same.seq c1.ex sql⟩, q _ S1 l1 H1 a1 b1 c1 (fun i S2 l2 M2 H2 sa pr _ hs2 => ?_) (by rw [← Paired.length r]; exact hz)⟩
    have sq2 : SqL K H2 p vs := Same.seq (sa.trans hs2.ex) sql
    refine ⟨fun t et => ?_, fun hl => ⟨vs, sq2, by rw [Paired.length r]; exact hl⟩⟩
    obtain ⟨v, e1, e2⟩ := Paired.get2 r et
    refine ⟨⟨vs, v, sq2, e1⟩, fun x H3 y => ?_⟩
    obtain ⟨e3, y⟩ := y
    subst e3
    have ex : x = v := Option.some.inj ((y vs sq2).symm.trans e1)
    subst ex
    exact ⟨S2, Same.refl _, hs2, t.mono sa e2, Same.refl _, fun a o e => .inl e⟩
theorem ei_tup {k : Knd} (h : EvV K tl G Mu Mu1 (.val (sqT k ts))) (hk : k.isL = false := by rfl) : EvI K (iTup K tl) G Mu Mu1 ts AnyM (ts.length ≤ sizeLine) := fun B σ S ls H R sl hs q =>
  h B σ S ls H _ sl hs fun x S1 l1 H1 a1 b1 c1 d1 => by
    obtain ⟨p, vs, e, sq, hz, r⟩ := d1
    subst e
    have sql : SqT K S1 p vs := SqK.tup sq hk
    refine ⟨p, rfl, ⟨vs, same_seqT c1.ex sql⟩, q _ S1 l1 H1 a1 b1 c1 (fun i S2 l2 M2 H2 sa pr _ hs2 => ?_) (by rw [← Paired.length r]; exact hz)⟩
    have sq2 : SqT K H2 p vs := same_seqT (sa.trans hs2.ex) sql
    refine ⟨fun t et => ?_, fun hl => ⟨vs, sq2, by rw [Paired.length r]; exact hl⟩⟩
    obtain ⟨v, e1, e2⟩ := Paired.get2 r et
    refine ⟨⟨vs, v, sq2, e1⟩, fun x H3 y => ?_⟩
    obtain ⟨e3, y⟩ := y
    subst e3
    have ex : x = v := Option.some.inj ((y vs sq2).symm.trans e1)
    subst ex
    exact ⟨S2, Same.refl _, hs2, t.mono sa e2, Same.refl _, fun a o e => .inl e⟩
/-- an own cell that the loop leaves as it is -/
theorem ei_cell (h : EvV K tl G Mu Mu1 (.cell j)) (hm : Mu1[j]? = some (some (mL ts))) : EvI K (iList K tl) G Mu Mu1 ts (fun M => M[j]? = some (some (mL ts))) (ts.length ≤ sizeLine) := fun B σ S ls H R sl hs q =>
  h B σ S ls H _ sl hs fun x S1 l1 H1 a1 b1 c1 d1 => by
    obtain ⟨p, ep, e⟩ := d1
    subst e
    obtain ⟨p', o, e1, _, e3, ⟨vs, eo, hz, r⟩⟩ := c1.cell j _ hm
    rw [ep] at e1
    cases e1
    subst eo
    refine ⟨p, rfl, ⟨vs, SqL.of e3⟩, q _ S1 l1 H1 a1 b1 c1 (fun i S2 l2 M2 H2 sa pr hP hs2 => ?_) (by rw [← Paired.length r]; exact hz)⟩
    obtain ⟨p2, o2, f1, _, f3, ⟨vs2, fo, hz2, r2⟩⟩ := hs2.cell j _ hP
    rw [pr.get ep] at f1
    cases f1
    subst fo
    have sq2 : SqL K H2 p vs2 := SqL.of f3
    refine ⟨fun t et => ?_, fun hl => ⟨vs2, sq2, by rw [Paired.length r2]; exact hl⟩⟩
    obtain ⟨v, g1, g2⟩ := Paired.get2 r2 et
    refine ⟨⟨vs2, v, sq2, g1⟩, fun x H3 y => ?_⟩
    obtain ⟨e3', y⟩ := y
    subst e3'
    have ex : x = v := Option.some.inj ((y vs2 sq2).symm.trans g1)
    subst ex
    exact ⟨S2, Same.refl _, hs2, g2, Same.refl _, fun a o e => .inl e⟩
theorem rngI_at {i : Nat} {x : Int} (h : (rngI a b)[i]? = some x) : i < (b - a).toNat ∧ x = a + (i : Int) := by
  unfold rngI at h
  rw [List.getElem?_map] at h
  by_cases hi : i < (b - a).toNat
  · rw [List.getElem?_range hi] at h
    exact ⟨hi, (Option.some.inj h).symm⟩
  · rw [List.getElem?_eq_none (by simpa using hi)] at h
    cases h
theorem rngI_lenC : (rngI a b).length = (b - a).toNat := by
  unfold rngI
  rw [List.length_map, List.length_range]
theorem rngD_at {i : Nat} {x : Int} (h : (rngD a b)[i]? = some x) : i < (a - b).toNat ∧ x = a + (i : Int) * (-1) := by
  unfold rngD at h
  rw [List.getElem?_map] at h
  by_cases hi : i < (a - b).toNat
  · rw [List.getElem?_range hi] at h
    exact ⟨hi, (Option.some.inj h).symm⟩
  · rw [List.getElem?_eq_none (by simpa using hi)] at h
    cases h
theorem rngD_len : (rngD a b).length = (a - b).toNat := by
  unfold rngD
  rw [List.length_map, List.length_range]
theorem ok_rng {B : Bs} {S : Hp} {ls : List Addr} : ItOk K (Itr a (b - a).toNat) B S ls ((rngI a b).map (tv rInt)) AnyM := fun i S2 l2 M2 H2 sa pr _ hs2 => by
  refine ⟨fun t et => ?_, fun hl => ?_⟩
  · rw [List.getElem?_map] at et
    obtain ⟨x, ex, et⟩ := Option.map_eq_some_iff.mp et
    obtain ⟨hi, hx⟩ := rngI_at ex
    subst et hx
    refine ⟨hi, fun x H3 y => ?_⟩
    obtain ⟨e, y⟩ := y
    subst e y
    exact ⟨S2, Same.refl _, hs2, rfl, Same.refl _, fun a o e => .inl e⟩
  · rw [List.length_map, rngI_lenC] at hl
    exact hl
theorem ei_rng1 (h : EvA K ta G Mu Mu1 [vI b]) (hb : Sm62 b) : EvI K (iRng1 ta) G Mu Mu1 ((rngI 0 b).map (tv rInt)) AnyM True := fun B σ S ls H R sl hs q =>
  h B σ S ls H _ sl hs fun vs S1 l1 H1 a1 b1 c1 d1 => by
    cases d1 with
    | cons r0 r1 =>
      cases r1
      cases r0
      refine ⟨b, rfl, hb.1, hb.2, ?_⟩
      have e : b.toNat = (b - 0).toNat := by rw [Int.sub_zero]
      rw [e]
      exact q _ S1 l1 H1 a1 b1 c1 ok_rng trivial
theorem ei_rng2 (h : EvA K ta G Mu Mu1 [vI a, vI b]) (ha : Sm62 a) (hb : Sm62 b) : EvI K (iRng2 ta) G Mu Mu1 ((rngI a b).map (tv rInt)) AnyM True := fun B σ S ls H R sl hs q =>
  h B σ S ls H _ sl hs fun vs S1 l1 H1 a1 b1 c1 d1 => by
    cases d1 with
    | cons r0 r1 =>
      cases r1 with
      | cons r1 r2 =>
        cases r2
        cases r0
        cases r1
        exact ⟨a, b, rfl, ⟨ha.1, ha.2, hb.1, hb.2⟩, q _ S1 l1 H1 a1 b1 c1 ok_rng trivial⟩
theorem ei_rngD (h : EvA K ta G Mu Mu1 [vI a, vI b, vI (-1)]) (ha : Sm62 a) (hb : Sm62 b) : EvI K (iRng3 ta) G Mu Mu1 ((rngD a b).map (tv rInt)) AnyM True := fun B σ S ls H R sl hs q =>
  h B σ S ls H _ sl hs fun vs S1 l1 H1 a1 b1 c1 d1 => by
    cases d1 with
    | cons r0 r1 =>
      cases r1 with
      | cons r1 r2 =>
        cases r2 with
        | cons r2 r3 =>
          cases r3
          cases r0
          cases r1
          cases r2
          refine ⟨a, b, -1, (a - b).toNat, rfl, RgC.neg ha.1 ha.2 hb.1 hb.2, q _ S1 l1 H1 a1 b1 c1 (fun i S2 l2 M2 H2 sa pr _ hs2 => ?_) trivial⟩
          refine ⟨fun t et => ?_, fun hl => ?_⟩
          · rw [List.getElem?_map] at et
            obtain ⟨x, ex, et⟩ := Option.map_eq_some_iff.mp et
            obtain ⟨hi, hx⟩ := rngD_at ex
            subst et hx
            refine ⟨hi, fun x H3 y => ?_⟩
            obtain ⟨e, y⟩ := y
            subst e y
            exact ⟨S2, Same.refl _, hs2, rfl, Same.refl _, fun a o e => .inl e⟩
          · rw [List.length_map, rngD_len] at hl
            exact hl
end

/-! ### comprehensions -/
theorem lcR_acc {α β τ : Type} {f : τ → α → Mr (Option β × τ)} : ∀ {xs : List α} {s : τ} {ys : List β} {s2 : τ}, lcR xs s f = .ok (ys, s2) → ys.length ≤ xs.length
  | [], s, ys, s2, h => by
    cases h
    exact Nat.le_refl _
  | x :: xs, s, ys, s2, h => by
    unfold lcR at h
    cases e : f s x with
    | error z =>
      rw [e] at h
      cases h
    | ok r =>
      obtain ⟨o, s1⟩ := r
      rw [e] at h
      dsimp only at h
      cases e2 : lcR xs s1 f with
      | error z =>
        rw [e2] at h
        cases h
      | ok r2 =>
        obtain ⟨zs, s3⟩ := r2
        rw [e2] at h
        cases h
        have := lcR_acc e2
        rw [List.length_append, List.length_cons]
        cases o <;> simp <;> omega
def wipeG (G : Gm) : List Nat → Gm
  | [] => G
  | v :: vs => (wipeG G vs).set v none
theorem slWipe {K : PySem.W.Frag} {S : Hp} {ls : List Addr} {σ : St} {G : Gm} (q : Sl K S ls σ G) : ∀ vs : List Nat, Sl K S ls (wipe σ vs) (wipeG G vs)
  | [] => q
  | v :: vs => by
    have h := slWipe q vs
    refine ⟨by show ((wipe σ vs).set v none).length = ((wipeG G vs).set v none).length; simp [h.1], fun i s e => ?_⟩
    have e : ((wipeG G vs).set v none)[i]? = some (some s) := e
    by_cases hi : v = i
    · subst hi
      by_cases hv : v < (wipeG G vs).length
      · rw [List.getElem?_set_self hv] at e
        cases e
      · rw [List.getElem?_eq_none (by simpa using hv)] at e
        cases e
    · rw [List.getElem?_set_ne hi] at e
      obtain ⟨u, e1, e2⟩ := h.2 i s e
      exact ⟨u, by show ((wipe σ vs).set v none)[i]? = _; rw [List.getElem?_set_ne hi]; exact e1, e2⟩
/-- an item goes to a target whose names are the comprehension's own -/
def EvGo (K : PySem.W.Frag) (tg : TG) (vs : List Nat) (s : SV) (G G' : Gm) : Prop :=
  ∀ B v σ S ls Mu H Q, s.p K S ls v → Sl K S ls (wipe σ vs) G → HS K B S ls Mu H → (∀ σ', wipe σ' vs = wipe σ vs → Sl K S ls σ' G' → Q σ' H) → tg v (wipe σ vs) H Q
theorem wipe_set {σ : St} {i : Nat} {v : Option V} : wipe ((wipe σ [i]).set i v) [i] = wipe σ [i] := by
  show (List.set (List.set (List.set σ i none) i v) i none) = List.set σ i none
  rw [List.set_set, List.set_set]
theorem ego_name {K : PySem.W.Frag} {i : Nat} {s : SV} {G : Gm} : EvGo K (gName i) [i] s G (G.set i (some s)) := fun B v σ S ls Mu H Q r sl hs q => q _ wipe_set (sl.set r)
section
variable {K : PySem.W.Frag} {G : Gm} {Mu Mu1 Mu2 : Mm} {te : TE} {tt : TT} {α β τ : Type} {R : Rep α} {R' : Rep β} {wi : TI} {tg : TG} {xs : List α} {P : Mm → Prop} {Z : Prop} {vs : List Nat}
theorem ef_lc {mu : τ → Mm} {s0 s2 : τ} {ys : List β} {f : τ → α → Mr (Option β × τ)} {Gi : α → Gm} (hi : EvI K wi G Mu (mu s0) (xs.map (tv R)) P Z) (hz : Z → xs.length ≤ sizeLine) (hP : ∀ s, P (mu s)) (hl : ∀ s, (mu s).length = (mu s0).length)
    (hg : ∀ x, EvGo K tg vs (.val (tv R x)) (wipeG G vs) (Gi x))
    (hb : ∀ s x o s', f s x = .ok (o, s') → ∃ b M1, EvT K tt (Gi x) (mu s) M1 b ∧ (b = true → ∃ y, o = some y ∧ EvV K te (Gi x) M1 (mu s') (.val (tv R' y))) ∧ (b = false → o = none ∧ M1 = mu s'))
    (hr : lcR xs s0 f = .ok (ys, s2)) : EvF K (tLc wi tg tt te vs) G Mu (mu s2) (mL (ys.map (tv R'))) := fun B σ S ls H Q sl hs q =>
  hi B σ S ls H _ sl hs fun J S1 l1 H1 a1 b1 c1 it hZ D hD => by
    have hz := hz hZ
    obtain ⟨nD1, nD2, nD3⟩ := c1.fresh hD
    have slw : Sl K S1 l1 (wipe σ vs) (wipeG G vs) := slWipe (sl.mono a1 b1) vs
    refine ⟨fun i m H' => m = xs.length - i ∧ i ≤ xs.length ∧ ∃ (s : τ) (S' : Hp) (acc : List V) (zs : List β), Same S1 S' ∧ S' D = none ∧ HS K B S' l1 (mu s) H' ∧ H' D = some (.lst acc) ∧ acc.length ≤ i ∧ AllT K S' acc (zs.map (tv R')) ∧ ∃ ws, lcR (xs.drop i) s f = Except.ok (ws, s2) ∧ ys = zs ++ ws,
      ⟨xs.length, by simp, Nat.zero_le _, s0, S1, [], [], Same.refl _, nD1, c1.loose hD, upd_same, Nat.le_refl _, .nil, ys, hr, rfl⟩, ?_⟩
    rintro i m H' ⟨rfl, hi, s, S', acc, zs, sa, nd, hs', hD', hacc, r, ws, er, ey⟩
    obtain ⟨it1, it2⟩ := it i S' l1 (mu s) H' sa (Pre.refl _) (hP s) hs'
    by_cases hlt : i < xs.length
    · have ei : (xs.map (tv R))[i]? = some (tv R xs[i]) := by simp [hlt]
      obtain ⟨go, yl⟩ := it1 _ ei
      rw [List.drop_eq_getElem_cons hlt] at er
      unfold lcR at er
      cases ef : f s xs[i] with
      | error z =>
        rw [ef] at er
        cases er
      | ok rr =>
        obtain ⟨o, s1⟩ := rr
        rw [ef] at er
        dsimp only at er
        cases e2 : lcR (xs.drop (i + 1)) s1 f with
        | error z =>
          rw [e2] at er
          cases er
        | ok r2 =>
          obtain ⟨ws2, s3⟩ := r2
          rw [e2] at er
          cases er
          refine .inr ⟨go, fun H3 => ∃ (s : τ) (S' : Hp) (acc : List V) (zs : List β), Same S1 S' ∧ S' D = none ∧ HS K B S' l1 (mu s) H3 ∧ H3 D = some (.lst acc) ∧ acc.length ≤ i + 1 ∧ AllT K S' acc (zs.map (tv R')) ∧ ∃ ws, lcR (xs.drop (i + 1)) s f = .ok (ws, s2) ∧ ys = zs ++ ws, fun H3 n3 => ⟨xs.length - (i + 1), by omega, rfl, hlt, n3⟩, fun x H2 y => ?_⟩
          obtain ⟨S2, sa2, hs2, rx, sH, nw⟩ := yl x H2 y
          have hD2 : H2 D = some (.lst acc) := sH D _ hD'
          have nd2 : S2 D = none := by
            cases q : S2 D with
            | none => rfl
            | some u =>
              rcases nw D u q with z | z
              · rw [nd] at z
                cases z
              · rw [hD'] at z
                cases z
          have hzz : acc.length < sizeLine := by omega
          have same_l : ∀ {l4 : List Addr} {s' : τ} {S4 H4 : Hp}, HS K ⟨H2, S2, l1⟩ S4 l4 (mu s') H4 → l4 = l1 := fun {l4 s' S4 H4} c4 => by
            obtain ⟨more, e4⟩ := c4.c0
            have h1 := c4.len
            have h2 := hs2.len
            have h3 := hl s
            have h4 := hl s'
            have e4 : l4 = l1 ++ more := e4
            rw [e4, List.length_append] at h1
            have : more = [] := List.eq_nil_of_length_eq_zero (by omega)
            rw [e4, this, List.append_nil]
          have nd4 : ∀ {l4 : List Addr} {M4 : Mm} {S4 H4 : Hp}, HS K ⟨H2, S2, l1⟩ S4 l4 M4 H4 → S4 D = none ∧ H4 D = some (.lst acc) := fun {l4 M4 S4 H4} c4 => by
            refine ⟨?_, c4.fr D _ hD2 nD2⟩
            cases q : S4 D with
            | none => rfl
            | some u =>
              rcases c4.new D u q with z | z | z
              · have z : S2 D = some u := z
                rw [nd2] at z
                cases z
              · have z : H2 D = none := z
                rw [hD2] at z
                cases z
              · exact absurd z nD2
          refine hg xs[i] B x σ S2 l1 (mu s) H2 _ rx (slw.mono (sa.trans sa2) (Pre.refl _)) hs2 fun σ4 ew sl4 => ⟨ew, ?_⟩
          obtain ⟨b, M1, ht, hy, hn⟩ := hb s xs[i] o s1 ef
          refine ht ⟨H2, S2, l1⟩ σ4 S2 l1 H2 _ sl4 hs2.start fun S3 l3 H3 a3 b3 c3 => ?_
          cases b with
          | true =>
            rw [if_pos rfl]
            obtain ⟨y', eo, hv⟩ := hy rfl
            subst eo
            refine hv ⟨H2, S2, l1⟩ σ4 S3 l3 H3 _ (sl4.mono a3 b3) c3 fun v S4 l4 H4 a4 b4 c4 d4 => ?_
            obtain ⟨n4, h4⟩ := nd4 c4
            have e4 := same_l c4
            subst e4
            have sa4 : Same S' S4 := (sa2.trans a3).trans a4
            refine ⟨acc, h4, hzz, s1, S4, acc ++ [v], zs ++ [y'], sa.trans sa4, n4, (hs2.back c4).scr n4 nD2 nD3, upd_same, by simp; omega, ?_, ws2, e2, by rw [ey]; simp⟩
            rw [List.map_append]
            exact Paired.app (r.mono sa4) (.cons d4 .nil)
          | false =>
            rw [if_neg Bool.false_ne_true]
            obtain ⟨eo, eM⟩ := hn rfl
            subst eo eM
            obtain ⟨n4, h4⟩ := nd4 c3
            have e4 := same_l c3
            subst e4
            have sa4 : Same S' S3 := sa2.trans a3
            exact ⟨s1, S3, acc, zs, sa.trans sa4, n4, hs2.back c3, h4, by omega, r.mono sa4, ws2, e2, by rw [ey]; simp⟩
    · have e0 : i = xs.length := by omega
      subst e0
      rw [List.drop_length] at er
      unfold lcR at er
      cases er
      rw [List.append_nil] at ey
      subst ey
      refine .inl ⟨it2 (by simp), q D _ S' l1 H' (a1.trans sa) b1 hs' hD' nd nD2 nD3 ⟨acc, rfl, Nat.le_trans hacc hz, r⟩⟩
end
end TL

/-! TL, fourth part: comprehensions in short, while, promises and calls, built-ins, methods. -/
namespace TL
open PySem L2
/-! ### comprehensions in short -/
theorem et_yes {K : PySem.W.Frag} {G : Gm} {Mu : Mm} : EvT K tYes G Mu Mu true := fun B σ S ls H Q sl hs q => q S ls H (Same.refl _) (Pre.refl _) hs
section
variable {K : PySem.W.Frag} {G : Gm} {Mu Mu1 Mu2 : Mm} {te : TE} {tt : TT} {α β τ : Type} {R : Rep α} {R' : Rep β} {wi : TI} {tg : TG} {xs : List α} {P : Mm → Prop} {Z : Prop} {vs : List Nat} {Gi : α → Gm}
theorem lcR_map {h : α → β} : ∀ xs : List α, lcR xs () (fun _ x => .ok (some (h x), ())) = .ok (xs.map h, ())
  | [] => rfl
  | x :: xs => by
    unfold lcR
    dsimp only
    rw [lcR_map xs]
    rfl
theorem ef_map {h : α → β} (hi : EvI K wi G Mu Mu1 (xs.map (tv R)) P Z) (hz : Z → xs.length ≤ sizeLine) (hP : P Mu1) (hg : ∀ x, EvGo K tg vs (.val (tv R x)) (wipeG G vs) (Gi x))
    (hb : ∀ x, EvV K te (Gi x) Mu1 Mu1 (.val (tv R' (h x)))) : EvF K (tLc wi tg tYes te vs) G Mu Mu1 (mL ((xs.map h).map (tv R'))) :=
  ef_lc (mu := fun _ : Unit => Mu1) (s0 := ()) (s2 := ()) (f := fun _ x => .ok (some (h x), ())) hi hz (fun _ => hP) (fun _ => rfl) hg (fun s x o s' e => by
    cases e
    exact ⟨true, Mu1, et_yes, fun _ => ⟨_, rfl, hb x⟩, fun z => nomatch z⟩) (lcR_map xs)
theorem lcR_mapR {h : α → Mr β} : ∀ {xs : List α} {ys : List β}, mapR h xs = .ok ys → lcR xs () (fun _ x => match h x with | .error e => .error e | .ok y => .ok (some y, ())) = .ok (ys, ())
  | [], ys, e => by
    cases e
    rfl
  | x :: xs, ys, e => by
    unfold mapR at e
    cases q : h x with
    | error z => rw [q] at e; cases e
    | ok y =>
      rw [q] at e
      dsimp only at e
      cases q2 : mapR h xs with
      | error z => rw [q2] at e; cases e
      | ok zs =>
        rw [q2] at e
        cases e
        unfold lcR
        dsimp only
        rw [q]
        dsimp only
        rw [lcR_mapR q2]
        rfl
theorem ef_mapR {h : α → Mr β} {ys : List β} (hi : EvI K wi G Mu Mu1 (xs.map (tv R)) P Z) (hz : Z → xs.length ≤ sizeLine) (hP : P Mu1) (hg : ∀ x, EvGo K tg vs (.val (tv R x)) (wipeG G vs) (Gi x))
    (hb : ∀ x y, h x = .ok y → EvV K te (Gi x) Mu1 Mu1 (.val (tv R' y))) (hr : mapR h xs = .ok ys) : EvF K (tLc wi tg tYes te vs) G Mu Mu1 (mL (ys.map (tv R'))) :=
  ef_lc (mu := fun _ : Unit => Mu1) (s0 := ()) (s2 := ()) (f := fun _ x => match h x with | .error e => .error e | .ok y => .ok (some y, ())) hi hz (fun _ => hP) (fun _ => rfl) hg (fun s x o s' e => by
    cases q : h x with
    | error z => rw [q] at e; cases e
    | ok y =>
      rw [q] at e
      cases e
      exact ⟨true, Mu1, et_yes, fun _ => ⟨_, rfl, hb x y q⟩, fun z => nomatch z⟩) (lcR_mapR hr)
theorem lcR_mapS {f : τ → α → Mr (β × τ)} : ∀ {xs : List α} {s s2 : τ} {ys : List β}, mapS f xs s = .ok (ys, s2) → lcR xs s (fun s x => match f s x with | .error e => .error e | .ok (y, s1) => .ok (some y, s1)) = .ok (ys, s2)
  | [], s, s2, ys, e => by
    cases e
    rfl
  | x :: xs, s, s2, ys, e => by
    unfold mapS at e
    cases q : f s x with
    | error z => rw [q] at e; cases e
    | ok r =>
      obtain ⟨y, s1⟩ := r
      rw [q] at e
      dsimp only at e
      cases q2 : mapS f xs s1 with
      | error z => rw [q2] at e; cases e
      | ok r2 =>
        obtain ⟨zs, s3⟩ := r2
        rw [q2] at e
        cases e
        unfold lcR
        dsimp only
        rw [q]
        dsimp only
        rw [lcR_mapS q2]
        rfl
theorem ef_mapS {mu : τ → Mm} {s0 s2 : τ} {ys : List β} {f : τ → α → Mr (β × τ)} (hi : EvI K wi G Mu (mu s0) (xs.map (tv R)) P Z) (hz : Z → xs.length ≤ sizeLine) (hP : ∀ s, P (mu s)) (hl : ∀ s, (mu s).length = (mu s0).length)
    (hg : ∀ x, EvGo K tg vs (.val (tv R x)) (wipeG G vs) (Gi x)) (hb : ∀ s x y s', f s x = .ok (y, s') → EvV K te (Gi x) (mu s) (mu s') (.val (tv R' y)))
    (hr : mapS f xs s0 = .ok (ys, s2)) : EvF K (tLc wi tg tYes te vs) G Mu (mu s2) (mL (ys.map (tv R'))) :=
  ef_lc (mu := mu) (s0 := s0) (s2 := s2) (f := fun s x => match f s x with | .error e => .error e | .ok (y, s1) => .ok (some y, s1)) hi hz hP hl hg (fun s x o s' e => by
    cases q : f s x with
    | error z => rw [q] at e; cases e
    | ok r =>
      obtain ⟨y, s1⟩ := r
      rw [q] at e
      cases e
      exact ⟨true, mu s, et_yes, fun _ => ⟨_, rfl, hb s x y _ q⟩, fun z => nomatch z⟩) (lcR_mapS hr)
theorem lcR_fil {b : α → Bool} {h : α → β} : ∀ xs : List α, lcR xs () (fun _ x => .ok (if b x = true then some (h x) else none, ())) = .ok ((xs.filter b).map h, ())
  | [] => rfl
  | x :: xs => by
    unfold lcR
    dsimp only
    rw [lcR_fil xs, List.filter_cons]
    by_cases e : b x = true
    · rw [if_pos e, if_pos e]
      rfl
    · rw [if_neg e, if_neg e]
      rfl
theorem ef_fil {b : α → Bool} {h : α → β} (hi : EvI K wi G Mu Mu1 (xs.map (tv R)) P Z) (hz : Z → xs.length ≤ sizeLine) (hP : P Mu1) (hg : ∀ x, EvGo K tg vs (.val (tv R x)) (wipeG G vs) (Gi x))
    (ht : ∀ x, EvT K tt (Gi x) Mu1 Mu1 (b x)) (hb : ∀ x, b x = true → EvV K te (Gi x) Mu1 Mu1 (.val (tv R' (h x)))) : EvF K (tLc wi tg tt te vs) G Mu Mu1 (mL (((xs.filter b).map h).map (tv R'))) :=
  ef_lc (mu := fun _ : Unit => Mu1) (s0 := ()) (s2 := ()) (f := fun _ x => .ok (if b x = true then some (h x) else none, ())) hi hz (fun _ => hP) (fun _ => rfl) hg (fun s x o s' e => by
    cases e
    refine ⟨b x, Mu1, ht x, fun z => ⟨h x, by rw [if_pos z], hb x z⟩, fun z => ⟨by rw [if_neg (by rw [z]; exact Bool.false_ne_true)], rfl⟩⟩) (lcR_fil xs)
theorem lcR_filR {f : α → Mr (Option β)} : ∀ {xs : List α} {ys : List β}, filR f xs = .ok ys → lcR xs () (fun _ x => match f x with | .error e => .error e | .ok o => .ok (o, ())) = .ok (ys, ())
  | [], ys, e => by
    cases e
    rfl
  | x :: xs, ys, e => by
    unfold filR at e
    cases q : f x with
    | error z => rw [q] at e; cases e
    | ok y =>
      rw [q] at e
      dsimp only at e
      cases q2 : filR f xs with
      | error z => rw [q2] at e; cases e
      | ok zs =>
        rw [q2] at e
        cases e
        unfold lcR
        dsimp only
        rw [q]
        dsimp only
        rw [lcR_filR q2]
/-- test and element may stop short -/
theorem ef_filR {f : α → Mr (Option β)} {ys : List β} (hi : EvI K wi G Mu Mu1 (xs.map (tv R)) P Z) (hz : Z → xs.length ≤ sizeLine) (hP : P Mu1) (hg : ∀ x, EvGo K tg vs (.val (tv R x)) (wipeG G vs) (Gi x))
    (hb : ∀ x o, f x = .ok o → ∃ b, EvT K tt (Gi x) Mu1 Mu1 b ∧ (b = true → ∃ y, o = some y ∧ EvV K te (Gi x) Mu1 Mu1 (.val (tv R' y))) ∧ (b = false → o = none)) (hr : filR f xs = .ok ys) : EvF K (tLc wi tg tt te vs) G Mu Mu1 (mL (ys.map (tv R'))) :=
  ef_lc (mu := fun _ : Unit => Mu1) (s0 := ()) (s2 := ()) (f := fun _ x => match f x with | .error e => .error e | .ok o => .ok (o, ())) hi hz (fun _ => hP) (fun _ => rfl) hg (fun s x o s' e => by
    cases q : f x with
    | error z => rw [q] at e; cases e
    | ok y =>
      rw [q] at e
      cases e
      obtain ⟨b, h1, h2, h3⟩ := hb x o q
      exact ⟨b, Mu1, h1, h2, fun z => ⟨h3 z, rfl⟩⟩) (lcR_filR hr)
end

/-! ### while -/
section
variable {ω τ : Type} {K : PySem.W.Frag} {np : Nat} {G : Gm} {Mu : Mm} {κ : ω → OS} {u tb : TS} {tc : TT}
theorem eb_while {g : τ → Gm} {mu : τ → Mm} {s0 : τ} {n : Nat} {c : τ → Mr Bool} {f : τ → Mr (Stp τ ω)} {k : τ → Mr ω} (hM : Mu = mu s0) (h0 : GSub (g s0) G) (hl : ∀ s, (mu s).length = (mu s0).length)
    (hc : ∀ s b, c s = .ok b → EvT K tc (g s) (mu s) (mu s) b) (hb : ∀ s, c s = .ok true → EvB K np tb (g s) (mu s) (stpK g mu κ) (f s)) (hR : ∀ s, EvB K np u (g s) (mu s) κ (k s)) :
    EvB K np (tSeq (tWhile tc tb) u) G Mu κ (whileL c f n s0 >>= Stp.k k) := fun B σ S ls H D w hn sl hs e q => by
  obtain ⟨r, e1, e2⟩ := bind_ok e
  subst hM
  refine ⟨fun m σ' H' => ∃ (s : τ) (S' : Hp) (ls' : List Addr), Same S S' ∧ Pre ls ls' ∧ Sl K S' ls' σ' (g s) ∧ HS K B S' ls' (mu s) H' ∧ whileL c f m s = Except.ok r, ⟨n, s0, S, ls, Same.refl _, Pre.refl _, sl.sub h0, hs, e1⟩, ?_⟩
  rintro m σ' H' ⟨s, S', ls', sa, pr, sl', hs', er⟩
  cases m with
  | zero => cases er
  | succ m =>
    unfold whileL at er
    cases ec : c s with
    | error z => rw [ec] at er; cases er
    | ok b =>
      rw [ec] at er
      refine hc s b ec B σ' S' ls' H' _ sl' hs' fun S2 l2 H2 a2 b2 c2 => ?_
      cases b with
      | false =>
        cases er
        rw [if_neg Bool.false_ne_true]
        exact hR s B σ' S2 l2 H2 D w hn (sl'.mono a2 b2) c2 e2 (q.mono (sa.trans a2) (pr.trans b2))
      | true =>
        rw [if_pos rfl]
        dsimp only at er
        refine ⟨fun σ3 H3 => ∃ (s3 : τ) (S3 : Hp) (ls3 : List Addr), Same S S3 ∧ Pre ls ls3 ∧ Sl K S3 ls3 σ3 (g s3) ∧ HS K B S3 ls3 (mu s3) H3 ∧ whileL c f m s3 = Except.ok r, fun σ3 H3 n3 => ⟨m, by omega, n3⟩, ?_⟩
        cases ef : f s with
        | error z => rw [ef] at er; cases er
        | ok st =>
          rw [ef] at er
          refine hb s ec B σ' S2 l2 H2 _ st hn (sl'.mono a2 b2) c2 ef ?_
          have prf : ∀ {s3 : τ} {ls3 : List Addr} {S3 H3 : Hp}, Cmp l2 ls3 → HS K B S3 ls3 (mu s3) H3 → Pre ls ls3 := fun {s3 ls3 S3 H3} cm hs3 =>
            (pr.trans b2).trans (cm.to_pre (by rw [c2.len, hs3.len, hl s, hl s3]; exact Nat.le_refl _))
          cases st with
          | go s3 => exact fun σ3 S3 ls3 H3 sa3 cm sl3 hs3 => ⟨s3, S3, ls3, (sa.trans a2).trans sa3, prf cm hs3, sl3, hs3, er⟩
          | cnt s3 => exact fun σ3 S3 ls3 H3 sa3 cm sl3 hs3 => ⟨s3, S3, ls3, (sa.trans a2).trans sa3, prf cm hs3, sl3, hs3, er⟩
          | brk s3 =>
            cases er
            exact fun σ3 S3 ls3 H3 sa3 cm sl3 hs3 => hR s3 B σ3 S3 ls3 H3 D w hn sl3 hs3 e2 (q.mono ((sa.trans a2).trans sa3) (prf cm hs3))
          | out w' =>
            cases er
            cases e2
            refine acc_innL (D := D) ?_ q
            rfl
end

/-! ### promises -/
/-- what a def does: its arguments, its callers' cells that it is given, its mirror, its outcome -/
structure FS (ι ω : Type) where
  ins : ι → List SV
  cells : ι → Mm
  m : ι → Mr ω
  out : ι → ω → OS
def spT {ι ω : Type} (K : PySem.W.Frag) (F : FS ι ω) : Sp := fun vs H Q _ => ∃ (x : ι) (w : ω) (S : Hp) (ls : List Addr), F.m x = .ok w ∧ HS K ⟨H, S, ls⟩ S ls (F.cells x) H ∧ AllS K S ls vs (F.ins x) ∧
  Acc K ⟨H, S, ls⟩ S ls { nx := fun _ H' => Q .non H', rt := Q } (F.out x w)
theorem sp_len {ι ω : Type} {K : PySem.W.Frag} {F : FS ι ω} {n : Nat} (h : ∀ x, (F.ins x).length = n) (vs : List V) (H : Hp) (Q : VK) (E : XK) (q : spT K F vs H Q E) : vs.length = n := by
  obtain ⟨x, w, S, ls, _, _, r, _⟩ := q
  rw [Paired.length r, h x]
/-- the slots at a def's entry -/
def startG (N : Nat) (ss : List SV) : Gm := ss.map some ++ List.replicate (N - ss.length) none
theorem sl_start {K : PySem.W.Frag} {S : Hp} {ls : List Addr} {N : List Str} {vs : List V} {ss : List SV} (r : AllS K S ls vs ss) : Sl K S ls (L2.start N vs) (startG N.length ss) := by
  have hl := Paired.length r
  refine ⟨by unfold L2.start startG; simp [hl], fun i s e => ?_⟩
  unfold startG at e
  by_cases hi : i < ss.length
  · rw [List.getElem?_append_left (by simpa using hi), List.getElem?_map] at e
    obtain ⟨s', e1, e2⟩ := Option.map_eq_some_iff.mp e
    cases e2
    obtain ⟨v, f1, f2⟩ := Paired.get2 r e1
    refine ⟨v, ?_, f2⟩
    unfold L2.start
    rw [List.getElem?_append_left (by simp; omega), List.getElem?_map, f1]
    rfl
  · rw [List.getElem?_append_right (by simpa using hi), List.getElem?_replicate] at e
    split at e <;> cases e
/-- a def's body keeps its promise -/
theorem sp_body {ι ω : Type} {K : PySem.W.Frag} {F : FS ι ω} {N : List Str} {vs : List V} {H : Hp} {Q : VK} {E : XK} {t : TS} (q : spT K F vs H Q E)
    (h : ∀ x, EvB K (F.cells x).length t (startG N.length (F.ins x)) (F.cells x) (F.out x) (F.m x)) : t { nx := fun _ H' => Q .non H', rt := Q } (L2.start N vs) H := by
  obtain ⟨x, w, S, ls, e, hs, r, acc⟩ := q
  exact h x ⟨H, S, ls⟩ (L2.start N vs) S ls H _ w hs.len (sl_start r) hs e acc

/-! ### calls -/
section
variable {ι ω : Type} {K : PySem.W.Frag} {G : Gm} {Mu Mu1 : Mm} {ta : TA} {F : FS ι ω} {x : ι} {w : ω} {E : XK} {ss : List SV}
/-- of values alone -/
theorem HS.under {B : Bs} {S H : Hp} {ls : List Addr} {Mu : Mm} (h : HS K B S ls Mu H) : HS K ⟨H, S, []⟩ S [] [] H :=
  ⟨h.ex, Same.refl _, fun a o e => .inl e, fun a o e _ => e, Pre.refl _, rfl, List.nodup_nil, fun k m e => by simp at e, fun a ha => by simp at ha, fun a ha => by simp at ha⟩
theorem HS.over {B : Bs} {S H S2 H2 : Hp} {ls : List Addr} {Mu : Mm} {l2 : List Addr} {M2 : Mm} (h : HS K B S ls Mu H) (g : HS K ⟨H, S, []⟩ S2 l2 M2 H2) : HS K B S2 ls Mu H2 := by
  have no : ∀ a, H a = none → B.H0 a = none := fun a e => (h.fresh e).2.2
  refine ⟨g.ex, h.s0.trans g.s0, fun a o e => ?_, fun a o e hc => g.fr a o (h.fr a o e hc) (by simp), h.c0, h.len, h.nd, fun k m e => ?_, fun a ha => ?_, h.lsn⟩
  · rcases g.new a o e with q | q | q
    · exact h.new a o q
    · exact .inr (.inl (no a q))
    · simp at q
  · obtain ⟨a, o, e1, e2, e3, e4⟩ := h.cell k m e
    refine ⟨a, o, e1, ?_, g.fr a o e3 (by simp), m.mono g.s0 e4⟩
    cases q : S2 a with
    | none => rfl
    | some u =>
      rcases g.new a u q with z | z | z
      · have z : S a = some u := z
        rw [e2] at z
        cases z
      · have z : H a = none := z
        rw [e3] at z
        cases z
      · simp at z
  · obtain ⟨o, e⟩ := h.old a ha
    exact ⟨o, g.fr a o e (by simp)⟩
theorem allS_drop {S : Hp} {ls ls' : List Addr} : ∀ {vs : List V} {ts : List TV}, AllS K S ls vs (ts.map .val) → AllS K S ls' vs (ts.map .val)
  | [], [], _ => .nil
  | [], _ :: _, h => nomatch h
  | _ :: _, [], h => nomatch h
  | _ :: _, _ :: _, .cons r t => .cons r (allS_drop t)
theorem ev_call {ts : List TV} {t : TV} (ha : EvA K ta G Mu Mu1 ss) (es : ss = ts.map .val := by rfl) (hi : F.ins x = ts.map .val := by rfl) (hc : F.cells x = [] := by rfl) (hm : F.m x = .ok w) (ho : F.out x w = .rt t [] := by rfl) : EvV K (tCall (spT K F) [] E ta) G Mu Mu1 (.val t) := fun B σ S ls H Q sl hs q =>
  ha B σ S ls H _ sl hs fun vs S1 l1 H1 a1 b1 c1 d1 => by
    subst es
    refine ⟨x, w, S1, [], hm, by rw [hc]; exact c1.under, by rw [List.append_nil, hi]; exact allS_drop d1, ?_⟩
    rw [ho]
    intro v S2 l2 H2 Mj h2 r2
    exact q v S2 l1 H2 (a1.trans h2.s0) b1 (c1.over h2) r2
theorem ef_call {ts : List TV} {m : MV} (ha : EvA K ta G Mu Mu1 ss) (es : ss = ts.map .val := by rfl) (hi : F.ins x = ts.map .val := by rfl) (hc : F.cells x = [] := by rfl) (hm : F.m x = .ok w) (ho : F.out x w = .rf m [] := by rfl) : EvF K (tCall (spT K F) [] E ta) G Mu Mu1 m := fun B σ S ls H Q sl hs q =>
  ha B σ S ls H _ sl hs fun vs S1 l1 H1 a1 b1 c1 d1 => by
    subst es
    refine ⟨x, w, S1, [], hm, by rw [hc]; exact c1.under, by rw [List.append_nil, hi]; exact allS_drop d1, ?_⟩
    rw [ho]
    intro p o S2 l2 H2 Mj h2 e2 n2 n3 n4 r2
    have n4 : H1 p = none := n4
    obtain ⟨f1, f2, f3⟩ := c1.fresh n4
    exact q p o S2 l1 H2 (a1.trans h2.s0) b1 (c1.over h2) e2 n2 f2 f3 r2
/-- one own cell is handed on -/
def renC : SV → SV
  | .val t => .val t
  | .cell _ => .cell 0
def okC (k : Nat) : List SV → Bool
  | [] => true
  | .val _ :: r => okC k r
  | .cell j :: r => Nat.beq j k && okC k r
theorem allS_ren {S : Hp} {ls : List Addr} {k : Nat} {a : Addr} (ea : ls[k]? = some a) : ∀ {vs : List V} {ss : List SV}, okC k ss = true → AllS K S ls vs ss → AllS K S [a] vs (ss.map renC)
  | [], [], _, _ => .nil
  | [], _ :: _, _, h => nomatch h
  | _ :: _, [], _, h => nomatch h
  | v :: vs, .val t :: ss, o, .cons r rr => .cons r (allS_ren ea (show okC k ss = true from o) rr)
  | v :: vs, .cell j :: ss, o, .cons r rr => by
    have o1 := Bool.and_eq_true_iff.mp (show (Nat.beq j k && okC k ss) = true from o)
    have ej : j = k := Nat.eq_of_beq_eq_true o1.1
    subst ej
    obtain ⟨b, e1, e2⟩ := r
    rw [ea] at e1
    cases e1
    exact .cons ⟨a, rfl, e2⟩ (allS_ren ea o1.2 rr)
theorem HS.under1 {B : Bs} {S H : Hp} {ls : List Addr} {Mu : Mm} {k : Nat} {m : MV} {a : Addr} (h : HS K B S ls Mu H) (ek : Mu[k]? = some (some m)) (ea : ls[k]? = some a) : HS K ⟨H, S, [a]⟩ S [a] [some m] H := by
  obtain ⟨a', o, e1, e2, e3, e4⟩ := h.cell k m ek
  rw [ea] at e1
  cases e1
  refine ⟨h.ex, Same.refl _, fun a o e => .inl e, fun a o e _ => e, Pre.refl _, rfl, by simp, fun j m' e => ?_, fun b hb => ?_, fun b hb => .inr hb⟩
  · cases j with
    | zero =>
      have : m = m' := by simpa using e
      subst this
      exact ⟨a, o, rfl, e2, e3, e4⟩
    | succ j => simp at e
  · simp at hb
    subst hb
    exact ⟨o, e3⟩
theorem HS.over1 {B : Bs} {S H S2 H2 : Hp} {ls l2 : List Addr} {Mu Mj : Mm} {k : Nat} {m m' : MV} {a : Addr} (h : HS K B S ls Mu H) (ek : Mu[k]? = some (some m)) (ea : ls[k]? = some a) (g : HS K ⟨H, S, [a]⟩ S2 l2 ([some m'] ++ Mj) H2) : HS K B S2 ls (Mu.set k (some m')) H2 := by
  have no : ∀ a, H a = none → B.H0 a = none := fun a e => (h.fresh e).2.2
  have al := h.lsn a (List.mem_of_getElem? ea)
  have hal : a ∈ ls := List.mem_of_getElem? ea
  refine ⟨g.ex, h.s0.trans g.s0, fun b o e => ?_, fun b o e hc => ?_, h.c0, by simp [h.len], h.nd, fun j mj e => ?_, fun b hb => ?_, h.lsn⟩
  · rcases g.new b o e with q | q | q
    · exact h.new b o q
    · exact .inr (.inl (no b q))
    · have q : b ∈ [a] := q
      simp at q
      subst q
      exact .inr al
  · refine g.fr b o (h.fr b o e hc) fun q => ?_
    have q : b ∈ [a] := q
    simp at q
    subst q
    rcases al with z | z
    · rw [z] at e
      cases e
    · exact hc z
  · by_cases hj : k = j
    · subst hj
      rw [List.getElem?_set_self (List.getElem?_eq_some_iff.mp ek).1] at e
      have : m' = mj := by simpa using e
      subst this
      obtain ⟨b, o, e1, e2, e3, e4⟩ := g.cell 0 m' rfl
      have e0 : l2[0]? = some a := g.c0.get rfl
      rw [e0] at e1
      cases e1
      exact ⟨a, o, ea, e2, e3, e4⟩
    · rw [List.getElem?_set_ne hj] at e
      obtain ⟨b, o, e1, e2, e3, e4⟩ := h.cell j mj e
      have hne : b ≠ a := fun z => by
        subst z
        obtain ⟨l1, g1⟩ := List.getElem?_eq_some_iff.mp e1
        obtain ⟨l2, g2⟩ := List.getElem?_eq_some_iff.mp ea
        exact hj ((List.getElem_inj h.nd).mp (g2.trans g1.symm))
      have nb : b ∉ [a] := by simpa using hne
      refine ⟨b, o, e1, ?_, g.fr b o e3 nb, mj.mono g.s0 e4⟩
      cases q : S2 b with
      | none => rfl
      | some u =>
        rcases g.new b u q with z | z | z
        · have z : S b = some u := z
          rw [e2] at z
          cases z
        · have z : H b = none := z
          rw [e3] at z
          cases z
        · exact absurd z nb
  · by_cases hb2 : b = a
    · subst hb2
      obtain ⟨b', o, e1, e2, e3, e4⟩ := g.cell 0 m' rfl
      have e0 : l2[0]? = some b := g.c0.get rfl
      rw [e0] at e1
      cases e1
      exact ⟨o, e3⟩
    · obtain ⟨o, e⟩ := h.old b hb
      exact ⟨o, g.fr b o e (by simpa using hb2)⟩
theorem ev_call1 {k : Nat} {t : TV} {m m' : MV} (ha : EvA K ta G Mu Mu1 ss) (hk : Mu1[k]? = some (some m)) (hm : F.m x = .ok w) (hs : okC k ss = true := by rfl) (hi : F.ins x = ss.map renC := by rfl) (hc : F.cells x = [some m] := by rfl) (ho : F.out x w = .rt t [some m'] := by rfl) :
    EvV K (tCall (spT K F) [] E ta) G Mu (Mu1.set k (some m')) (.val t) := fun B σ S ls H Q sl hs' q =>
  ha B σ S ls H _ sl hs' fun vs S1 l1 H1 a1 b1 c1 d1 => by
    obtain ⟨a, o, e1, e2, e3, e4⟩ := c1.cell k m hk
    refine ⟨x, w, S1, [a], hm, by rw [hc]; exact c1.under1 hk e1, by rw [List.append_nil, hi]; exact allS_ren e1 hs d1, ?_⟩
    rw [ho]
    intro v S2 l2 H2 Mj h2 r2
    exact q v S2 l1 H2 (a1.trans h2.s0) b1 (c1.over1 hk e1 h2) r2
theorem ef_call1 {k : Nat} {m m' m2 : MV} (ha : EvA K ta G Mu Mu1 ss) (hk : Mu1[k]? = some (some m)) (hm : F.m x = .ok w) (hs : okC k ss = true := by rfl) (hi : F.ins x = ss.map renC := by rfl) (hc : F.cells x = [some m] := by rfl) (ho : F.out x w = .rf m2 [some m'] := by rfl) :
    EvF K (tCall (spT K F) [] E ta) G Mu (Mu1.set k (some m')) m2 := fun B σ S ls H Q sl hs' q =>
  ha B σ S ls H _ sl hs' fun vs S1 l1 H1 a1 b1 c1 d1 => by
    obtain ⟨a, o, e1, e2, e3, e4⟩ := c1.cell k m hk
    refine ⟨x, w, S1, [a], hm, by rw [hc]; exact c1.under1 hk e1, by rw [List.append_nil, hi]; exact allS_ren e1 hs d1, ?_⟩
    rw [ho]
    intro p o2 S2 l2 H2 Mj h2 f2 n2 n3 n4 r2
    have n4 : H1 p = none := n4
    obtain ⟨g1, g2, g3⟩ := c1.fresh n4
    exact q p o2 S2 l1 H2 (a1.trans h2.s0) b1 (c1.over1 hk e1 h2) f2 n2 g2 g3 r2
/-- .. of a def that gives nothing -/
theorem ev_callN1 {k : Nat} {m m' : MV} (ha : EvA K ta G Mu Mu1 ss) (hk : Mu1[k]? = some (some m)) (hm : F.m x = .ok w) (hs : okC k ss = true := by rfl) (hi : F.ins x = ss.map renC := by rfl) (hc : F.cells x = [some m] := by rfl) (ho : F.out x w = .vd [some m'] := by rfl) :
    EvV K (tCall (spT K F) [] E ta) G Mu (Mu1.set k (some m')) vN := fun B σ S ls H Q sl hs' q =>
  ha B σ S ls H _ sl hs' fun vs S1 l1 H1 a1 b1 c1 d1 => by
    obtain ⟨a, o, e1, e2, e3, e4⟩ := c1.cell k m hk
    refine ⟨x, w, S1, [a], hm, by rw [hc]; exact c1.under1 hk e1, by rw [List.append_nil, hi]; exact allS_ren e1 hs d1, ?_⟩
    rw [ho]
    intro σ' S2 l2 H2 Mj h2
    have g := q .non S2 l1 H2 (a1.trans h2.s0) b1 (c1.over1 hk e1 h2) rfl
    exact ⟨g, g⟩
end

/-! ### own lists: append, o[i] = e; x += e -/
section
variable {ω : Type} {K : PySem.W.Frag} {np : Nat} {G : Gm} {Mu Mu1 Mu2 Mu3 : Mm} {κ : ω → OS} {m : Mr ω} {u : TS} {te to ti : TE} {t : TV} {ts : List TV} {k i : Nat} {a b : Int}
/-- a list may grow -/
theorem growOk_lt {α : Type} {xs : List α} {r : Unit} (h : growOk xs = .ok r) : xs.length < sizeLine := by
  unfold growOk at h
  split at h
  · rw [sizeLine_eq]
    assumption
  · cases h
theorem eb_app {ts1 : List TV} (ho : EvV K to G Mu Mu1 (.cell k)) (hk1 : Mu1[k]? = some (some (mL ts1))) (he : EvV K te G Mu1 Mu2 (.val t)) (hk : Mu2[k]? = some (some (mL ts))) (hz : ts.length < sizeLine) (r : EvB K np u G (Mu2.set k (some (mL (ts ++ [t])))) κ m) :
    EvB K np (tSeq (tDrop (tBM K "list" rAppend to (tCons te tNil))) u) G Mu κ m := fun B σ S ls H D w hn sl hs e q =>
  ho B σ S ls H _ sl hs fun x S1 l1 H1 a1 b1 c1 d1 => by
    obtain ⟨p, ep, ex⟩ := d1
    subst ex
    obtain ⟨p', o, f1, _, f3, ⟨vs, fo, _, _⟩⟩ := c1.cell k _ hk1
    rw [ep] at f1
    cases f1
    subst fo
    refine ⟨.inl ⟨rfl, vs, SqL.of f3⟩, ?_⟩
    refine he B σ S1 l1 H1 _ (sl.mono a1 b1) c1 fun y S2 l2 H2 a2 b2 c2 d2 => ?_
    obtain ⟨p2, o2, g1, _, g3, ⟨vs2, go, gz, gr⟩⟩ := c2.cell k _ hk
    rw [b2.get ep] at g1
    cases g1
    subst go
    refine ⟨p, vs2, y, rfl, rfl, g3, by rw [Paired.length gr]; exact hz, ?_⟩
    refine r B σ S2 l2 _ D w hn ((sl.mono a1 b1).mono a2 b2) (c2.write hk (b2.get ep) ⟨vs2 ++ [y], rfl, ?_, Paired.app gr (.cons d2 .nil)⟩) e (q.mono (a1.trans a2) (b1.trans b2))
    rw [List.length_append, Paired.length gr]
    exact hz
/-- o[i] = e -/
theorem ixN_len {n : Nat} {i : Int} {j : Nat} (h : ixN n i = some j) : j < n := (ixN_seq h).2.1
theorem eb_setC {i : Int} {j : Nat} (he : EvV K te G Mu Mu1 (.val t)) (ho : EvV K to G Mu1 Mu2 (.cell k)) (hi : EvV K ti G Mu2 Mu3 (vI i)) (hk : Mu3[k]? = some (some (mL ts))) (hj : ixN ts.length i = some j) (r : EvB K np u G (Mu3.set k (some (mL (ts.set j t)))) κ m) :
    EvB K np (tSeq (tAsg te (gSub to ti rSetL)) u) G Mu κ m := fun B σ S ls H D w hn sl hs e q =>
  he B σ S ls H _ sl hs fun y S1 l1 H1 a1 b1 c1 d1 => ho B σ S1 l1 H1 _ (sl.mono a1 b1) c1 fun x S2 l2 H2 a2 b2 c2 d2 => hi B σ S2 l2 H2 _ ((sl.mono a1 b1).mono a2 b2) c2 fun z S3 l3 H3 a3 b3 c3 d3 => by
    obtain ⟨p, ep, ex⟩ := d2
    subst ex
    obtain ⟨p2, o2, g1, _, g3, ⟨vs2, go, gz, gr⟩⟩ := c3.cell k _ hk
    rw [b3.get ep] at g1
    cases g1
    subst go
    refine ⟨p, vs2, i, j, rfl, d3, g3, by rw [Paired.length gr]; exact hj, ?_⟩
    refine r B σ S3 l3 _ D w hn (((sl.mono a1 b1).mono a2 b2).mono a3 b3) (c3.write hk (b3.get ep) ⟨vs2.set j y, rfl, by rw [List.length_set]; exact gz, Paired.set (F := fun v (t : TV) => t.p K S3 v) (t.mono (a2.trans a3) d1) j gr⟩) e (q.mono ((a1.trans a2).trans a3) ((b1.trans b2).trans b3))
theorem setI_ok {α : Type} {xs ys : List α} {i : Int} {x : α} (h : setI xs i x = .ok ys) : ∃ j, L2.ixN xs.length i = some j ∧ ys = xs.set j x := by
  unfold setI at h
  split at h
  · rename_i j e
    cases h
    exact ⟨j, e, rfl⟩
  · cases h
theorem map_set {α : Type} {R : Rep α} {xs : List α} {j : Nat} {x : α} : (xs.map (tv R)).set j (tv R x) = (xs.set j x).map (tv R) := List.map_set.symm
/-- the same, of a list of one kind -/
theorem eb_setI {α : Type} {R : Rep α} {xs ys : List α} {x : α} {i : Int} (he : EvV K te G Mu Mu1 (.val (tv R x))) (ho : EvV K to G Mu1 Mu2 (.cell k)) (hi : EvV K ti G Mu2 Mu3 (vI i)) (hk : Mu3[k]? = some (some (mL (xs.map (tv R))))) (hj : setI xs i x = .ok ys) (r : EvB K np u G (Mu3.set k (some (mL (ys.map (tv R))))) κ m) :
    EvB K np (tSeq (tAsg te (gSub to ti rSetL)) u) G Mu κ m := by
  obtain ⟨j, e1, e2⟩ := setI_ok hj
  refine eb_setC he ho hi hk (j := j) (by rw [List.length_map]; exact e1) ?_
  rw [map_set, ← e2]
  exact r
theorem eb_appL {α : Type} {R : Rep α} {xs : List α} {x : α} {ts1 : List TV} {r0 : Unit} (ho : EvV K to G Mu Mu1 (.cell k)) (hk1 : Mu1[k]? = some (some (mL ts1))) (he : EvV K te G Mu1 Mu2 (.val (tv R x))) (hk : Mu2[k]? = some (some (mL (xs.map (tv R))))) (hz : growOk xs = .ok r0) (r : EvB K np u G (Mu2.set k (some (mL ((xs ++ [x]).map (tv R))))) κ m) :
    EvB K np (tSeq (tDrop (tBM K "list" rAppend to (tCons te tNil))) u) G Mu κ m := by
  refine eb_app ho hk1 he hk (by rw [List.length_map]; exact growOk_lt hz) ?_
  rw [List.map_append] at r
  exact r
/-- x += e, ints -/
theorem eb_aug {f : Int → Int → Int} (hx : G[i]? = some (some (vI a))) (h : EvV K te G Mu Mu1 (vI b)) (r : EvB K np u (G.set i (some (vI (f a b)))) Mu1 κ m) : EvB K np (tSeq (tAug i te (ipI f)) u) G Mu κ m := fun B σ S ls H D w hn sl hs e q => by
  obtain ⟨v, e1, e2⟩ := sl.2 i _ hx
  refine ⟨v, e1, h B σ S ls H _ sl hs fun y S1 l1 H1 a1 b1 c1 d1 => ⟨a, b, e2, d1, ?_⟩⟩
  exact r B _ S1 l1 H1 D w hn ((sl.mono a1 b1).set (v := .int (f a b)) rfl) c1 e (q.mono a1 b1)
end
end TL

/-! TL, fifth part: built-ins. -/
namespace TL
open PySem L2
section
variable {K : PySem.W.Frag} {G : Gm} {Mu Mu1 Mu2 Mu3 : Mm} {te : TE} {ts us : List TV} {s s2 : SV} {k k2 : Knd} {a b : Int} {α : Type} {R : Rep α} {xs ys : List α}
/-- one, two arguments -/
theorem ev_cb1 {r : List V → Hp → VK → Prop} {t : SV} (h : EvV K te G Mu Mu1 s) (hr : Rc K r Mu1 Mu2 [s] t) : EvV K (tCB r (tCons te tNil)) G Mu Mu2 t := ev_cb (ea_cons h ea_nil) hr
theorem rc_int : Rc K (fun xs H Q => (∃ i, xs = [.int i] ∧ Q (.int i) H) ∨ ∃ k, xs = [.bl k] ∧ Q (.int (if k then 1 else 0)) H) Mu Mu [vI a] (vI a) := rc_same fun B S ls H vs Q hs ha q => by
  cases ha with
  | cons r0 r1 =>
    cases r1
    cases r0
    exact .inl ⟨a, rfl, q _ rfl⟩
theorem rc_intB {c : Bool} : Rc K (fun xs H Q => (∃ i, xs = [.int i] ∧ Q (.int i) H) ∨ ∃ k, xs = [.bl k] ∧ Q (.int (if k then 1 else 0)) H) Mu Mu [vB c] (vI (if c = true then 1 else 0)) := rc_same fun B S ls H vs Q hs ha q => by
  cases ha with
  | cons r0 r1 =>
    cases r1
    cases r0
    exact .inr ⟨c, rfl, q _ rfl⟩
theorem rc_abs : Rc K (fun xs H Q => ∃ i, xs = [.int i] ∧ Q (.int (if i < 0 then -i else i)) H) Mu Mu [vI a] (vI (absI a)) := rc_same fun B S ls H vs Q hs ha q => by
  cases ha with
  | cons r0 r1 =>
    cases r1
    cases r0
    exact ⟨a, rfl, q _ rfl⟩
theorem rc_max2 : Rc K (fun xs H Q => ∃ i j, xs = [.int i, .int j] ∧ Q (.int (if j > i then j else i)) H) Mu Mu [vI a, vI b] (vI (if b > a then b else a)) := rc_same fun B S ls H vs Q hs ha q => by
  cases ha with
  | cons r0 r1 =>
    cases r1 with
    | cons r1 r2 =>
      cases r2
      cases r0
      cases r1
      exact ⟨a, b, rfl, q _ rfl⟩
theorem rc_min2 : Rc K (fun xs H Q => ∃ i j, xs = [.int i, .int j] ∧ Q (.int (if j < i then j else i)) H) Mu Mu [vI a, vI b] (vI (if b < a then b else a)) := rc_same fun B S ls H vs Q hs ha q => by
  cases ha with
  | cons r0 r1 =>
    cases r1 with
    | cons r1 r2 =>
      cases r2
      cases r0
      cases r1
      exact ⟨a, b, rfl, q _ rfl⟩
theorem allT_ints {S : Hp} : ∀ {vs : List V} {ns : List Int}, AllT K S vs (ns.map (tv rInt)) → vs = ns.map V.int
  | [], [], _ => rfl
  | [], _ :: _, h => nomatch h
  | _ :: _, [], h => nomatch h
  | v :: vs, n :: ns, .cons r t => by
    cases r
    rw [allT_ints t]
    rfl
theorem allT_bools {S : Hp} : ∀ {vs : List V} {ns : List Bool}, AllT K S vs (ns.map (tv rBool)) → vs = ns.map V.bl
  | [], [], _ => rfl
  | [], _ :: _, h => nomatch h
  | _ :: _, [], h => nomatch h
  | v :: vs, n :: ns, .cons r t => by
    cases r
    rw [allT_bools t]
    rfl
theorem ints_allT {S : Hp} : ∀ ns : List Int, AllT K S (ns.map V.int) (ns.map (tv rInt))
  | [] => .nil
  | n :: ns => .cons rfl (ints_allT ns)
theorem rc_any {bs : List Bool} (h : IsSq K Mu s k (bs.map (tv rBool))) (hk : k.isL = true := by rfl) : Rc K (rAny K) Mu Mu [s] (vB (bs.any id)) := rc_same fun B S ls H vs Q hs ha q => by
  cases ha with
  | cons r0 r1 =>
    cases r1
    obtain ⟨p, ws, e, sq, l, r⟩ := h B S ls H _ hs r0
    subst e
    rw [allT_bools r] at sq
    exact ⟨p, bs, rfl, SqK.seq sq hk, q _ rfl⟩
theorem rc_all {bs : List Bool} (h : IsSq K Mu s k (bs.map (tv rBool))) (hk : k.isL = true := by rfl) : Rc K (rAll K) Mu Mu [s] (vB (bs.all id)) := rc_same fun B S ls H vs Q hs ha q => by
  cases ha with
  | cons r0 r1 =>
    cases r1
    obtain ⟨p, ws, e, sq, l, r⟩ := h B S ls H _ hs r0
    subst e
    rw [allT_bools r] at sq
    exact ⟨p, bs, rfl, SqK.seq sq hk, q _ rfl⟩
theorem rc_sum {ns : List Int} (h : IsSq K Mu s k (ns.map (tv rInt))) (hk : k.isL = true := by rfl) : Rc K (rSum K) Mu Mu [s] (vI ns.sum) := rc_same fun B S ls H vs Q hs ha q => by
  cases ha with
  | cons r0 r1 =>
    cases r1
    obtain ⟨p, ws, e, sq, l, r⟩ := h B S ls H _ hs r0
    subst e
    rw [allT_ints r] at sq
    exact ⟨p, ns, rfl, SqK.seq sq hk, q _ rfl⟩
/-- sorted -/
theorem sortI_eq {ns ms : List Int} (h : ms.Perm ns) (p : ms.Pairwise (· ≤ ·)) : ms = sortI ns := by
  have s1 : (sortI ns).Pairwise (· ≤ ·) := by
    have z := List.pairwise_mergeSort (le := fun (a b : Int) => decide (a ≤ b)) (fun a b c h1 h2 => by simp at *; omega) (fun a b => by simp; omega) ns
    exact z.imp fun h => of_decide_eq_true h
  exact List.Perm.eq_of_pairwise (le := (· ≤ ·)) (fun a b _ _ h1 h2 => Int.le_antisymm h1 h2) p s1 (h.trans (List.mergeSort_perm ns _).symm)
theorem new_lst {B : Bs} {S H : Hp} {ls : List Addr} {p : Addr} {vs : List V} {Q : VK} (hs : HS K B S ls Mu H) (hp : H p = none) (hz : vs.length ≤ sizeLine) (r : AllT K S vs ts) (q : AftF K B S ls Mu (mL ts) Q) : Q (.ref p) (upd H p (.lst vs)) := by
  obtain ⟨n1, n2, n3⟩ := hs.fresh hp
  exact q p _ S ls _ (Same.refl _) (Pre.refl _) (hs.scr n1 n2 n3) upd_same n1 n2 n3 ⟨vs, rfl, hz, r⟩
theorem new_tup {B : Bs} {S H : Hp} {ls : List Addr} {p : Addr} {vs : List V} {Q : VK} (hs : HS K B S ls Mu H) (hp : H p = none) (hz : vs.length ≤ sizeLine) (r : AllT K S vs ts) (q : Aft K B S ls Mu (.val (tupT ts)) Q) : Q (.ref p) (upd H p (.tup vs)) := by
  obtain ⟨s2, h2⟩ := hs.laid (o := .tup vs) hp
  exact q _ _ ls _ s2 (Pre.refl _) h2 ⟨p, vs, rfl, upd_same, hz, r.mono s2⟩
theorem rcF_sorted {ns : List Int} (h : IsSq K Mu s k (ns.map (tv rInt))) (hk : k.isL = true := by rfl) : RcF K (rSortedI K) Mu Mu [s] (mL ((sortI ns).map (tv rInt))) := fun B S ls H vs Q hs ha q => by
  cases ha with
  | cons r0 r1 =>
    cases r1
    obtain ⟨p, ws, e, sq, l, r⟩ := h B S ls H _ hs r0
    subst e
    have ew := allT_ints r
    subst ew
    refine ⟨p, ns, rfl, SqK.seq sq hk, fun ns' p' pm pw hp => ?_⟩
    have e := sortI_eq pm pw
    subst e
    refine new_lst hs hp ?_ (ints_allT _) q
    rw [List.length_map, pm.length_eq]
    rw [List.length_map] at l
    exact l
/-- tuple(list), tuple(tuple), list(seq) -/
theorem rc_tupL (h : IsSq K Mu s k ts) (hk : k.isL = true := by rfl) : Rc K (fun xs H Q => ∃ p ys, xs = [.ref p] ∧ ((SqL K H p ys ∧ ∀ l, H l = none → Q (.ref l) (upd H l (.tup ys))) ∨ (SqT K H p ys ∧ Q (.ref p) H))) Mu Mu [s] (.val (tupT ts)) := fun B S ls H vs Q hs ha q => by
  cases ha with
  | cons r0 r1 =>
    cases r1
    obtain ⟨p, ws, e, sq, l, r⟩ := h B S ls H _ hs r0
    subst e
    exact ⟨p, ws, rfl, .inl ⟨SqK.seq sq hk, fun l' hl' => new_tup hs hl' l r q⟩⟩
theorem rc_tupT : Rc K (fun xs H Q => ∃ p ys, xs = [.ref p] ∧ ((SqL K H p ys ∧ ∀ l, H l = none → Q (.ref l) (upd H l (.tup ys))) ∨ (SqT K H p ys ∧ Q (.ref p) H))) Mu Mu [.val (tupT ts)] (.val (tupT ts)) := rc_same fun B S ls H vs Q hs ha q => by
  cases ha with
  | cons r0 r1 =>
    cases r1
    obtain ⟨p, ws, e, sq, l, r⟩ := id r0
    have sq : SqT K S p ws := SqT.of sq
    subst e
    exact ⟨p, ws, rfl, .inr ⟨same_seqT hs.ex sq, q _ r0⟩⟩
theorem rcF_list (h : IsSq K Mu s k ts) : RcF K (fun xs H Q => ∃ p ys, xs = [.ref p] ∧ (SqL K H p ys ∨ SqT K H p ys) ∧ ∀ l, H l = none → Q (.ref l) (upd H l (.lst ys))) Mu Mu [s] (mL ts) := fun B S ls H vs Q hs ha q => by
  cases ha with
  | cons r0 r1 =>
    cases r1
    obtain ⟨p, ws, e, sq, l, r⟩ := h B S ls H _ hs r0
    subst e
    exact ⟨p, ws, rfl, SqK.both sq, fun l' hl' => new_lst hs hl' l r q⟩
/-- xs + ys, xs * k -/
theorem catOk_le {α β : Type} {xs : List α} {ys : List β} {r : Unit} (h : catOk xs ys = .ok r) : xs.length + ys.length ≤ sizeLine := by
  unfold catOk at h
  split at h
  · rw [sizeLine_eq]
    assumption
  · cases h
theorem rvF_cat (h1 : IsSq K Mu s .l ts) (h2 : IsSq K Mu s2 .l us) (hz : ts.length + us.length ≤ sizeLine) : RvF K rCat Mu Mu s s2 (mL (ts ++ us)) := fun B S ls H x y Q hs ha hb q => by
  obtain ⟨p, vs, e, sq, l, r⟩ := h1 B S ls H _ hs ha
  obtain ⟨p2, vs2, e2, sq2, l2, r2⟩ := h2 B S ls H _ hs hb
  have hl : vs.length + vs2.length ≤ sizeLine := by
    rw [Paired.length r, Paired.length r2]
    exact hz
  exact ⟨p, p2, vs, vs2, e, e2, sq, sq2, hl, fun p3 hp3 => new_lst hs hp3 (by rw [List.length_append]; exact hl) (Paired.app r r2) q⟩
theorem rvF_catL (h1 : IsSq K Mu s .l (xs.map (tv R))) (h2 : IsSq K Mu s2 .l (ys.map (tv R))) {r0 : Unit} (hz : catOk xs ys = .ok r0) : RvF K rCat Mu Mu s s2 (mL ((xs ++ ys).map (tv R))) := by
  rw [List.map_append]
  exact rvF_cat h1 h2 (by rw [List.length_map, List.length_map]; exact catOk_le hz)
theorem flat_rep {α β : Type} (f : α → β) (xs : List α) : ∀ n : Nat, (List.replicate n (xs.map f)).flatten = ((List.replicate n xs).flatten).map f
  | 0 => rfl
  | n + 1 => by
    rw [List.replicate_succ, List.replicate_succ, List.flatten_cons, List.flatten_cons, List.map_append, flat_rep f xs n]
theorem paired_rep {F : V → TV → Prop} {vs : List V} {ts : List TV} (h : Paired F vs ts) : ∀ n : Nat, Paired F (List.replicate n vs).flatten (List.replicate n ts).flatten
  | 0 => .nil
  | n + 1 => by
    rw [List.replicate_succ, List.replicate_succ, List.flatten_cons, List.flatten_cons]
    exact Paired.app h (paired_rep h n)
theorem rvF_rep {n : Int} (h1 : IsSq K Mu s .l (xs.map (tv R))) {r0 : Unit} (hz : repOk xs n = .ok r0) : RvF K rRep Mu Mu s (vI n) (mL ((repL xs n).map (tv R))) := fun B S ls H x y Q hs ha hb q => by
  obtain ⟨p, vs, e, sq, l, r⟩ := h1 B S ls H _ hs ha
  unfold repOk at hz
  split at hz
  · rename_i hc
    obtain ⟨c1, c2, c3⟩ := hc
    have el : vs.length = xs.length := by rw [Paired.length r, List.length_map]
    have hl : vs.length * n.toNat ≤ sizeLine := by rw [el, sizeLine_eq]; exact c3
    refine ⟨p, n, vs, e, hb, sq, c1, c2, hl, fun p3 hp3 => new_lst hs hp3 ?_ ?_ q⟩
    · rw [List.length_flatten, List.map_replicate, List.sum_replicate_nat, Nat.mul_comm]
      exact hl
    · unfold repL
      rw [← flat_rep]
      exact paired_rep r _
  · cases hz
/-- -x -/
theorem ru_neg : Ru K (rU fun i => .int (-i)) Mu Mu (vI a) (vI (-a)) := ru_same fun B S ls H x Q hs ha q => ⟨a, ha, q _ rfl⟩
theorem ev_int {i : Int} : EvV K (tC (.int i)) G Mu Mu (vI i) := ev_c fun _ _ => rfl
theorem ev_bool {i : Bool} : EvV K (tC (.bl i)) G Mu Mu (vB i) := ev_c fun _ _ => rfl
theorem ev_str {i : Str} : EvV K (tC (.str i)) G Mu Mu (vS i) := ev_c fun _ _ => rfl
theorem ev_none : EvV K (tC .non) G Mu Mu vN := ev_c fun _ _ => rfl
theorem ev_neg1 {i : Int} : EvV K (tUn (rU fun i => .int (-i)) (tC (.int i))) G Mu Mu (vI (-i)) := ev_un ev_int ru_neg
theorem rngP_ok {r : Unit} (h : rngP a b = .ok r) : Sm62 a ∧ Sm62 b := by
  unfold rngP at h
  split at h
  · assumption
  · cases h
/-- slices -/
def EvO (K : PySem.W.Frag) (to : TO) (G : Gm) (Mu Mu' : Mm) (o : Option Int) : Prop :=
  ∀ B σ S ls H Q, Sl K S ls σ G → HS K B S ls Mu H → (∀ S' ls' H', Same S S' → Pre ls ls' → HS K B S' ls' Mu' H' → Q o H') → to σ H Q
theorem eo_none : EvO K tNoPart G Mu Mu none := fun B σ S ls H Q sl hs q => q S ls H (Same.refl _) (Pre.refl _) hs
theorem eo_some (h : EvV K te G Mu Mu1 (vI a)) : EvO K (tPart te) G Mu Mu1 (some a) := fun B σ S ls H Q sl hs q =>
  h B σ S ls H _ sl hs fun x S1 l1 H1 a1 b1 c1 d1 => ⟨a, d1, q S1 l1 H1 a1 b1 c1⟩
theorem sIxQ_eq {n d : Nat} {o : Option Int} : sIxQ n d o = HT.sIx n d o := by cases o <;> rfl
theorem cut_map {α β : Type} (f : α → β) (xs : List α) (lo hi : Option Int) : cut (xs.map f) lo hi = (cut xs lo hi).map f := by
  unfold cut
  rw [List.length_map, List.map_take, List.map_drop]
theorem cut_len {α : Type} (xs : List α) (lo hi : Option Int) : (cut xs lo hi).length ≤ xs.length := by
  unfold cut
  rw [List.length_take, List.length_drop]
  omega
theorem paired_cut {F : V → TV → Prop} {vs : List V} {ts : List TV} (h : Paired F vs ts) (lo hi : Option Int) : Paired F (cutV vs lo hi) (cut ts lo hi) := by
  unfold cutV cut
  simp only [sIxQ_eq]
  rw [Paired.length h]
  exact Paired.take _ (Paired.drop _ h)
theorem ef_sl {tl th : TO} {lo hi : Option Int} (h : EvV K te G Mu Mu1 s) (hl : EvO K tl G Mu1 Mu2 lo) (hh : EvO K th G Mu2 Mu3 hi) (hq : IsSq K Mu3 s k ts) (hk : k.isL = true := by rfl) : EvF K (tSl (rSlL K) te tl th) G Mu Mu3 (mL (cut ts lo hi)) := fun B σ S ls H Q sl hs q =>
  h B σ S ls H _ sl hs fun x S1 l1 H1 a1 b1 c1 d1 => hl B σ S1 l1 H1 _ (sl.mono a1 b1) c1 fun S2 l2 H2 a2 b2 c2 => hh B σ S2 l2 H2 _ ((sl.mono a1 b1).mono a2 b2) c2 fun S3 l3 H3 a3 b3 c3 => by
    obtain ⟨p, vs, e, sq, l, r⟩ := hq B S3 l3 H3 x c3 (SV.mono (a2.trans a3) (b2.trans b3) d1)
    refine ⟨p, vs, e, SqK.seq sq hk, fun p3 hp3 => new_lst c3 hp3 (Nat.le_trans (cutV_length vs lo hi) l) (paired_cut r lo hi) (q.mono ((a1.trans a2).trans a3) ((b1.trans b2).trans b3))⟩
/-- isinstance(x, T), T a built-in type -/
def rTy (n : String) : TV := ⟨fun _ _ v => v = .ty n, fun _ q => q⟩
def TyR (R : Rep α) (n : String) : Prop := ∀ {K : PySem.W.Frag} {S H : Hp} {v : V} {a : α}, R.p K S v a → Same S H → TyX K H v (.type n)
theorem ty_int : TyR rInt "int" := fun h _ => by cases h; exact .base (.int _)
theorem ty_bool : TyR rBool "bool" := fun h _ => by cases h; exact .base (.bl _)
theorem ty_str : TyR rStr "str" := fun h _ => by cases h; exact .base (.str _)
theorem ty_none : TyR rNone "NoneType" := fun h _ => by cases h; exact .base .non
theorem rc_isi {n n2 : String} {x : α} {c : Bool} (hn : TyR R n) (hb : kitB n n2 = some c) : Rc K (rIsi K) Mu Mu [.val (tv R x), .val (rTy n2)] (vB c) := rc_same fun B S ls H vs Q hs ha q => by
  cases ha with
  | cons r0 r1 =>
    cases r1 with
    | cons r1 r2 =>
      cases r2
      have e : _ = V.ty n2 := r1
      subst e
      exact ⟨_, _, _, _, c, rfl, .ty n2, hn r0 hs.ex, kit_ty hb, q _ rfl⟩
end
end TL

/-! TL, sixth part: operations that may stop short, texts, targets of tuples, == of data, where defs stand. -/
namespace TL
open PySem L2
section
variable {K : PySem.W.Frag} {G : Gm} {Mu Mu1 Mu2 Mu3 : Mm} {te ta tb : TE} {tt tu : TT} {ts us : List TV} {s s2 : SV} {k k2 : Knd} {a b r : Int} {α β γ δ : Type} {R : Rep α} {xs ys : List α} {A : Rep α} {B' : Rep β} {C : Rep γ} {D' : Rep δ}
/-! ### operations that may stop short -/
theorem rv_modP (h : modP a b = .ok r) : Rv K (rI (fun _ j => 0 < j) fun i j => .int (i % j)) Mu Mu (vI a) (vI b) (vI r) := by
  unfold modP at h
  split at h
  · cases h
    exact rv_mod (by assumption)
  · cases h
theorem rv_fdivP (h : fdivP a b = .ok r) : Rv K (rI CDivW fun i j => .int (i / j)) Mu Mu (vI a) (vI b) (vI r) := by
  unfold fdivP at h
  split at h
  · cases h
    exact rv_fdiv (by assumption)
  · cases h
theorem bitsQ_eq {a : Int} : (Builtin.Int.intBits a) = bitsQ a := by
  unfold Builtin.Int.intBits bitsQ
  by_cases h : a = 0
  · subst h
    rfl
  · have h1 : ¬ a.natAbs = 0 := by omega
    have h2 : (a == 0) = false := by simpa using h
    rw [h2, if_neg Bool.false_ne_true, if_neg h1]
theorem rv_mulP (h : mulP a b = .ok r) : Rv K (rI CMulX fun i j => .int (i * j)) Mu Mu (vI a) (vI b) (vI r) := by
  unfold mulP at h
  split at h
  · cases h
    refine rv_mul ?_
    show (Builtin.Int.intBits a : Int) + (Builtin.Int.intBits b : Int) ≤ 134217728
    rw [bitsQ_eq, bitsQ_eq]
    omega
  · cases h
theorem rv_powP (h : powP a b = .ok r) : Rv K (rI CPowW fun i j => .int (i ^ j.toNat)) Mu Mu (vI a) (vI b) (vI r) := by
  unfold powP at h
  split at h
  · rename_i hc
    cases h
    refine rv_pow ⟨hc.1, ?_⟩
    rw [bitsQ_eq]
    exact hc.2
  · cases h
theorem rv_shrP (h : shrP a b = .ok r) : Rv K (rI (fun _ j => 0 ≤ j) fun i j => .int (i / 2 ^ j.toNat)) Mu Mu (vI a) (vI b) (vI r) := by
  unfold shrP at h
  split at h
  · cases h
    exact rv_shr (by assumption)
  · cases h
/-- a factor that is written (below 2 ^ 64) -/
theorem rv_mulC (h : CMul a b) : Rv K (rI CMul fun i j => .int (i * j)) Mu Mu (vI a) (vI b) (vI (a * b)) := rv_IC h fun _ _ => rfl
theorem rv_eq_of {r2 : R2} {x y : SV} {t t' : SV} (h : Rv K r2 Mu Mu1 x y t) (e : t = t') : Rv K r2 Mu Mu1 x y t' := e ▸ h

/-! ### what is known behind such a step -/
theorem bo {α β : Type} {p : Mr α} {q : α → Mr β} {c : β} {T : Prop} (h : (p >>= q) = .ok c) (f : ∀ x, p = .ok x → q x = .ok c → T) : T := by
  obtain ⟨x, e1, e2⟩ := bind_ok h
  exact f x e1 e2
theorem oeT {c c' : Bool} (e : (Except.ok c : Mr Bool) = .ok c') (h : EvT K tt G Mu Mu1 c) : EvT K tt G Mu Mu1 c' := by
  cases e
  exact h
theorem oeV {x y : α} (e : (Except.ok x : Mr α) = .ok y) (h : EvV K te G Mu Mu1 (.val (tv R x))) : EvV K te G Mu Mu1 (.val (tv R y)) := by
  cases e
  exact h
theorem et_andM {a c : Bool} {p : Mr Bool} (h1 : EvT K tt G Mu Mu1 a) (hc : (if a = true then p else .ok false) = .ok c) (h2 : a = true → p = .ok c → EvT K tu G Mu1 Mu1 c) : EvT K (tAnd tt tu) G Mu Mu1 c := by
  cases a with
  | true =>
    rw [if_pos rfl] at hc
    have := et_and (Mu3 := Mu1) h1 (fun _ => h2 rfl hc) (fun _ => rfl) (fun z => nomatch z)
    simpa using this
  | false =>
    rw [if_neg Bool.false_ne_true] at hc
    cases hc
    exact et_and (a := false) (b := false) (Mu2 := Mu1) (Mu3 := Mu1) h1 (fun z => nomatch z) (fun z => nomatch z) (fun _ => rfl)
theorem et_orM {a c : Bool} {p : Mr Bool} (h1 : EvT K tt G Mu Mu1 a) (hc : (if a = true then .ok true else p) = .ok c) (h2 : a = false → p = .ok c → EvT K tu G Mu1 Mu1 c) : EvT K (tOr tt tu) G Mu Mu1 c := by
  cases a with
  | false =>
    rw [if_neg Bool.false_ne_true] at hc
    have := et_or (Mu3 := Mu1) h1 (fun _ => h2 rfl hc) (fun _ => rfl) (fun z => nomatch z)
    simpa using this
  | true =>
    rw [if_pos rfl] at hc
    cases hc
    exact et_or (a := true) (b := false) (Mu2 := Mu1) (Mu3 := Mu1) h1 (fun z => nomatch z) (fun z => nomatch z) (fun _ => rfl)
theorem et_and0 {a b : Bool} (h1 : EvT K tt G Mu Mu1 a) (h2 : EvT K tu G Mu1 Mu1 b) : EvT K (tAnd tt tu) G Mu Mu1 (a && b) := et_and h1 (fun _ => h2) (fun _ => rfl) (fun _ => rfl)
theorem et_or0 {a b : Bool} (h1 : EvT K tt G Mu Mu1 a) (h2 : EvT K tu G Mu1 Mu1 b) : EvT K (tOr tt tu) G Mu Mu1 (a || b) := et_or h1 (fun _ => h2) (fun _ => rfl) (fun _ => rfl)
/-- and, or as values (bools) -/
theorem ev_andM {a c : Bool} {p : Mr Bool} (h1 : EvV K ta G Mu Mu1 (vB a)) (hc : (if a = true then p else .ok false) = .ok c) (h2 : a = true → p = .ok c → EvV K tb G Mu1 Mu1 (vB c)) : EvV K (tAndV ta tb) G Mu Mu1 (vB c) := fun B σ S ls H Q sl hs q =>
  h1 B σ S ls H _ sl hs fun v S1 l1 H1 a1 b1 c1 d1 => by
    have d1 : v = .bl a := d1
    refine ⟨a, d1, ?_⟩
    cases a with
    | true =>
      rw [if_pos rfl] at hc
      exact h2 rfl hc B σ S1 l1 H1 Q (sl.mono a1 b1) c1 (q.mono a1 b1)
    | false =>
      rw [if_neg Bool.false_ne_true] at hc
      cases hc
      exact q _ S1 l1 H1 a1 b1 c1 rfl
theorem ev_orM {a c : Bool} {p : Mr Bool} (h1 : EvV K ta G Mu Mu1 (vB a)) (hc : (if a = true then .ok true else p) = .ok c) (h2 : a = false → p = .ok c → EvV K tb G Mu1 Mu1 (vB c)) : EvV K (tOrV ta tb) G Mu Mu1 (vB c) := fun B σ S ls H Q sl hs q =>
  h1 B σ S ls H _ sl hs fun v S1 l1 H1 a1 b1 c1 d1 => by
    have d1 : v = .bl a := d1
    refine ⟨a, d1, ?_⟩
    cases a with
    | false =>
      rw [if_neg Bool.false_ne_true] at hc
      exact h2 rfl hc B σ S1 l1 H1 Q (sl.mono a1 b1) c1 (q.mono a1 b1)
    | true =>
      rw [if_pos rfl] at hc
      cases hc
      exact q _ S1 l1 H1 a1 b1 c1 rfl
theorem ev_and0 {a b : Bool} (h1 : EvV K ta G Mu Mu1 (vB a)) (h2 : EvV K tb G Mu1 Mu1 (vB b)) : EvV K (tAndV ta tb) G Mu Mu1 (vB (a && b)) := by
  refine ev_andM (c := a && b) (p := .ok b) h1 (by cases a <;> rfl) fun e _ => ?_
  subst e
  exact h2
theorem ev_or0 {a b : Bool} (h1 : EvV K ta G Mu Mu1 (vB a)) (h2 : EvV K tb G Mu1 Mu1 (vB b)) : EvV K (tOrV ta tb) G Mu Mu1 (vB (a || b)) := by
  refine ev_orM (c := a || b) (p := .ok b) h1 (by cases a <;> rfl) fun e _ => ?_
  subst e
  exact h2
theorem ev_notV {a : Bool} (h1 : EvV K ta G Mu Mu1 (vB a)) : EvV K (tNotV ta) G Mu Mu1 (vB (!a)) := fun B σ S ls H Q sl hs q =>
  h1 B σ S ls H _ sl hs fun v S1 l1 H1 a1 b1 c1 d1 => ⟨a, d1, q _ S1 l1 H1 a1 b1 c1 rfl⟩
theorem ev_ite {c : Bool} {x y : α} (h : EvT K tt G Mu Mu1 c) (h1 : c = true → EvV K ta G Mu1 Mu2 (.val (tv R x))) (h2 : c = false → EvV K tb G Mu1 Mu2 (.val (tv R y))) : EvV K (tIf tt ta tb) G Mu Mu2 (.val (tv R (if c = true then x else y))) := by
  cases c with
  | true => exact ev_ifM h (fun _ => by rw [if_pos rfl]; exact h1 rfl) (fun z => nomatch z)
  | false => exact ev_ifM h (fun z => nomatch z) (fun _ => by rw [if_neg Bool.false_ne_true]; exact h2 rfl)
theorem ev_iteM {c : Bool} {x : α} {p q : Mr α} (h : EvT K tt G Mu Mu1 c) (e : (if c = true then p else q) = .ok x) (h1 : c = true → p = .ok x → EvV K ta G Mu1 Mu2 (.val (tv R x))) (h2 : c = false → q = .ok x → EvV K tb G Mu1 Mu2 (.val (tv R x))) : EvV K (tIf tt ta tb) G Mu Mu2 (.val (tv R x)) := by
  cases c with
  | true =>
    rw [if_pos rfl] at e
    exact ev_ifM h (fun _ => h1 rfl e) (fun z => nomatch z)
  | false =>
    rw [if_neg Bool.false_ne_true] at e
    exact ev_ifM h (fun z => nomatch z) (fun _ => h2 rfl e)

/-! ### texts, as the lists of their signs -/
def rTxt : Rep (List Nat) := ⟨fun _ _ v a => v = .str ⟨a.toArray⟩, fun _ q => q⟩
abbrev vX (a : List Nat) : SV := .val (tv rTxt a)
theorem ev_txt {z : Str} {l : List Nat} (h : z = ⟨l.toArray⟩) : EvV K (tC (.str z)) G Mu Mu (vX l) := ev_c fun _ _ => by
  subst h
  rfl
theorem str_inj {l l' : List Nat} : ((⟨l.toArray⟩ : Str) = ⟨l'.toArray⟩) ↔ l = l' := by
  constructor
  · intro h
    have := congrArg (fun z : Str => z.cps.toList) h
    simpa using this
  · intro h
    rw [h]
theorem rv_eqX {x y : List Nat} : Rv K rEq Mu Mu (vX x) (vX y) (vB (decide (x = y))) := rv_same fun B S ls H u v Q hs ha hb q => by
  cases ha
  cases hb
  refine ⟨rfl, q _ ?_⟩
  show V.bl _ = V.bl _
  congr 1
  exact Bool.eq_iff_iff.mpr (by rw [decide_eq_true_iff, decide_eq_true_iff, V.str.injEq]; exact str_inj)
theorem rv_neX {x y : List Nat} : Rv K rNe Mu Mu (vX x) (vX y) (vB (!decide (x = y))) := rv_same fun B S ls H u v Q hs ha hb q => by
  cases ha
  cases hb
  refine ⟨rfl, q _ ?_⟩
  show V.bl _ = V.bl _
  congr 2
  exact Bool.eq_iff_iff.mpr (by rw [decide_eq_true_iff, decide_eq_true_iff, V.str.injEq]; exact str_inj)
theorem flat_txt : Flat rTxt := ⟨fun h => by cases h; rfl, fun h h2 => by
  cases h
  cases h2
  show ((⟨_⟩ : Str) == ⟨_⟩) = _
  exact Bool.eq_iff_iff.mpr (by rw [beq_iff_eq, beq_iff_eq]; exact str_inj)⟩
theorem ty_txt : TyR rTxt "str" := fun h _ => by cases h; exact .base (.str _)
/-! ### targets of tuples -/
theorem eg_nil : ∀ {vs : List V} {σ : St} {H : Hp} {Q : St → Hp → Prop}, vs = [] → Q σ H → gNil vs σ H Q := fun e q => ⟨e, q⟩
theorem eg_tup2 {i j : Nat} {x : α × β} : EvG K (gTup K 2 (gCons (gName i) (gCons (gName j) gNil))) (.val (tv (rP2 A B') x)) G ((G.set i (some (.val (tv A x.1)))).set j (some (.val (tv B' x.2)))) := fun B v σ S ls Mu H Q r sl hs q => by
  obtain ⟨p, vs, e, sq, l, rr⟩ := r
  have sq : SqT K S p vs := SqT.of sq
  cases rr with
  | cons r0 rr => cases rr with
    | cons r1 rr =>
      cases rr
      exact ⟨p, _, e, same_seqT hs.ex sq, rfl, _, _, rfl, _, _, rfl, rfl, q _ (Sl.set (s := .val (tv B' x.2)) (Sl.set (s := .val (tv A x.1)) sl r0) r1)⟩
theorem eg_tup3 {i j m : Nat} {x : α × β × γ} : EvG K (gTup K 3 (gCons (gName i) (gCons (gName j) (gCons (gName m) gNil)))) (.val (tv (rP3 A B' C) x)) G (((G.set i (some (.val (tv A x.1)))).set j (some (.val (tv B' x.2.1)))).set m (some (.val (tv C x.2.2)))) := fun B v σ S ls Mu H Q r sl hs q => by
  obtain ⟨p, vs, e, sq, l, rr⟩ := r
  have sq : SqT K S p vs := SqT.of sq
  cases rr with
  | cons r0 rr => cases rr with
    | cons r1 rr => cases rr with
      | cons r2 rr =>
        cases rr
        exact ⟨p, _, e, same_seqT hs.ex sq, rfl, _, _, rfl, _, _, rfl, _, _, rfl, rfl, q _ (Sl.set (s := .val (tv C x.2.2)) (Sl.set (s := .val (tv B' x.2.1)) (Sl.set (s := .val (tv A x.1)) sl r0) r1) r2)⟩
/-- target = e -/
theorem eb_asgG {ω : Type} {np : Nat} {κ : ω → OS} {m : Mr ω} {u : TS} {tg : TG} {G' : Gm} (h : EvV K te G Mu Mu1 s) (hg : EvG K tg s G G') (r' : EvB K np u G' Mu1 κ m) : EvB K np (tSeq (tAsg te tg) u) G Mu κ m := fun B σ S ls H D w hn sl hs e q =>
  h B σ S ls H _ sl hs fun v S1 l1 H1 a1 b1 c1 d1 => hg B v σ S1 l1 Mu1 H1 _ d1 (sl.mono a1 b1) c1 fun σ' sl' => r' B σ' S1 l1 H1 D w hn sl' c1 e (q.mono a1 b1)
/-! ### displays of tuples -/
theorem ev_mk1 {ta : TA} {x : α} (h : EvA K ta G Mu Mu1 [.val (tv A x)]) : EvV K (tTup ta) G Mu Mu1 (.val (tv (rP1 A) x)) := ev_tup (ts := [tv A x]) h
theorem ev_mk2 {ta : TA} {x : α} {y : β} (h : EvA K ta G Mu Mu1 [.val (tv A x), .val (tv B' y)]) : EvV K (tTup ta) G Mu Mu1 (.val (tv (rP2 A B') (x, y))) := ev_tup (ts := [tv A x, tv B' y]) h
theorem ev_mk3 {ta : TA} {x : α} {y : β} {z : γ} (h : EvA K ta G Mu Mu1 [.val (tv A x), .val (tv B' y), .val (tv C z)]) : EvV K (tTup ta) G Mu Mu1 (.val (tv (rP3 A B' C) (x, y, z))) := ev_tup (ts := [tv A x, tv B' y, tv C z]) h
theorem ev_mk4 {ta : TA} {x : α} {y : β} {z : γ} {u : δ} (h : EvA K ta G Mu Mu1 [.val (tv A x), .val (tv B' y), .val (tv C z), .val (tv D' u)]) : EvV K (tTup ta) G Mu Mu1 (.val (tv (rP4 A B' C D') (x, y, z, u))) := ev_tup (ts := [tv A x, tv B' y, tv C z, tv D' u]) h
/-- () and (a, b, ..) of one kind -/
theorem ev_mkV {ta : TA} {ss : List SV} (h : EvA K ta G Mu Mu1 ss) (e : ss = (xs.map (tv R)).map .val := by rfl) (hl : Nat.ble (xs.map (tv R)).length 64 = true := by rfl) : EvV K (tTup ta) G Mu Mu1 (.val (tv (rTup R) xs)) := ev_tup (ts := xs.map (tv R)) h e hl
theorem ef_mkL {ta : TA} {ss : List SV} (h : EvA K ta G Mu Mu1 ss) (e : ss = (xs.map (tv R)).map .val := by rfl) (hl : Nat.ble (xs.map (tv R)).length 64 = true := by rfl) : EvF K (tLst ta) G Mu Mu1 (mL (xs.map (tv R))) := ef_lst (ts := xs.map (tv R)) h e hl
theorem ev_lstR (h : EvF K te G Mu Mu1 (mL (xs.map (tv R)))) : EvV K te G Mu Mu1 (.val (tv (rList R) xs)) := ev_lst h
/-- t + u, tuples -/
theorem rv_catT {k1 : Nat} (h1 : IsSq K Mu s .t ts) (h2 : IsSq K Mu s2 .t us) (e1 : ts ≠ []) (e2 : us ≠ []) (hz : ts.length + us.length ≤ sizeLine) : Rv K (rCatA K) Mu Mu s s2 (.val (tupT (ts ++ us))) := fun B S ls H x y Q hs ha hb q => by
  obtain ⟨p, vs, e, sq, l, r⟩ := h1 B S ls H _ hs ha
  obtain ⟨p2, vs2, e', sq2, l2, r2⟩ := h2 B S ls H _ hs hb
  have sq : SqT K H p vs := SqT.of sq
  have sq2 : SqT K H p2 vs2 := SqT.of sq2
  have hl : vs.length + vs2.length ≤ sizeLine := by
    rw [Paired.length r, Paired.length r2]
    exact hz
  have n1 : vs ≠ [] := fun z => by
    subst z
    have := Paired.length r
    exact e1 (List.eq_nil_of_length_eq_zero this.symm)
  have n2 : vs2 ≠ [] := fun z => by
    subst z
    have := Paired.length r2
    exact e2 (List.eq_nil_of_length_eq_zero this.symm)
  exact ⟨p, p2, vs, vs2, e, e', sq, sq2, hl, fun z => absurd z n1, fun _ z => absurd z n2, fun _ _ p3 hp3 => new_tup hs hp3 (by rw [List.length_append]; exact hl) (Paired.app r r2) q⟩
end
/-! ### where defs stand -/
/-- the def x, its promise and what a call asks beside -/
def OkF (P : Program) (w : World) (K : PySem.W.Frag) (mg : Str → Option Value) (base : Heap) (x : Str) (ps : List Str) (k : Nat) (sp : Sp) : Prop :=
  ∃ fd, FnOk P w K mg base CX0 k (He.ga K x) fd ps sp ∧ Binds K fd ps [] ∧ PySem.W.keepIn K (.ref (He.ga K x)) = true ∧ mg x = some (.ref (He.ga K x))
/-! ### the head's facts, over what the wanted names reach -/
inductive Fx where
  | fa (f : He.Fa) | tup (x : Str) (vs : List He.Dv) | lst (x : Str) (vs : List He.Dv)
def Fx.ok (K : PySem.W.Frag) : Fx → Bool
  | .fa f => f.ok K
  | .tup x vs => He.tupB K x vs && He.eqO (PySem.W.nsIn K mainGlobals x) (some (some (.ref (He.ga K x))))
  | .lst x vs => He.lstB K x vs && He.eqO (PySem.W.nsIn K mainGlobals x) (some (some (.ref (He.ga K x))))
def reachT (g : Addr → Option Obj) : Nat → List Addr → List Addr
  | 0, as => as
  | n + 1, as => as ++ reachT g n (as.flatMap fun a => match g a with
    | some o => He.refsD o
    | none => [])
def asT (g : Addr → Option Obj) (xs : List Str) : List Addr := mainGlobals :: reachT g 4 (xs.map fun x => He.ga (He.frG g [mainGlobals]) x)
def obsT (fa : List Fx) (fn : List He.DefD) (K : PySem.W.Frag) : He.AlD := ((fa.all fun f => f.ok K) && fn.all fun d => d.ok K, fn.map fun d => He.fnW K d.at_)
def SaysT (fa : List Fx) (fn : List He.DefD) (K : PySem.W.Frag) : Prop := obsT fa fn K = He.valD fn
def obsTG (xs : List Str) (fa : List Fx) (fn : List He.DefD) (g : Addr → Option Obj) : He.AlD := obsT fa fn (He.frG g (asT g xs))
def hookT (xs : List Str) (fa : List Fx) (fn : List He.DefD) : PySem.W.Hook where
  α := He.AlD
  obs := fun s => obsTG xs fa fn s.heap.get?
  val := fun _ => He.valD fn
  says := fun _ h => ∃ K : PySem.W.Frag, K.In h ∧ SaysT fa fn K
  of := fun _ _ e => ⟨_, He.frG_in, e⟩
  keeps := fun _ _ _ ⟨K, hK, c⟩ k => ⟨K, PySem.W.Frag.In.keeps hK k, c⟩
theorem obsTG_eq {xs : List Str} {fa : List Fx} {fn : List He.DefD} {g : Addr → Option Obj} {s : Shared} (h : ∀ a, g a = s.heap.get? a) : obsTG xs fa fn g = (hookT xs fa fn).obs s := by
  have e : g = s.heap.get? := funext h
  rw [e] <;> rfl
section
variable {fa : List Fx} {fn : List He.DefD} {K : PySem.W.Frag}
theorem SaysT.fact (c : SaysT fa fn K) (i : Nat) {f : Fx} (h : fa[i]? = some f := by rfl) : f.ok K = true := by
  have c1 := (He.ba (show ((fa.all fun f => f.ok K) && fn.all fun d => d.ok K) = true from congrArg (fun z : He.AlD => z.1) c)).1
  exact List.all_eq_true.mp c1 f (List.mem_of_getElem? h)
theorem SaysT.def_ (c : SaysT fa fn K) (i : Nat) {d : He.DefD} (h : fn[i]? = some d := by rfl) : ∃ fd, FunD K d.name d.qual d.params d.body d.scope (d.dvs K) (d.kws K) (He.fAd K d.at_) fd := by
  have c2 := (He.ba (show ((fa.all fun f => f.ok K) && fn.all fun d => d.ok K) = true from congrArg (fun z : He.AlD => z.1) c)).2
  have e : fn.map (fun d => He.fnW K d.at_) = fn.map He.DefD.val := congrArg (fun z : He.AlD => z.2) c
  have e2 : (fn.map fun d => He.fnW K d.at_)[i]? = (fn.map He.DefD.val)[i]? := by rw [e]
  rw [List.getElem?_map, List.getElem?_map, h] at e2
  exact He.DefD.funD (Option.some.inj e2) (List.all_eq_true.mp c2 d (List.mem_of_getElem? h))
end
/-- what the top has left -/
structure Txt (fa : List Fx) (fn : List He.DefD) (K : PySem.W.Frag) (mg : Str → Option Value) : Prop where
  c : SaysT fa fn K
  gl : ∀ x, (He.Fa.glo x).ok K = true → mg x = some (.ref (He.ga K x))
  fr : ∀ x, (He.Fa.free x).ok K = true → mg x = none
  it : ∀ x i, (He.Fa.int x i).ok K = true → ∃ t, mg x = some (.int i t)
  st : ∀ x z, (He.Fa.str x z).ok K = true → ∃ t, mg x = some (.str z t)
section
variable {fa : List Fx} {fn : List He.DefD} {K : PySem.W.Frag} {h : Heap} {mg : Str → Option Value}
theorem Txt.mk' (X : K.In h) (G : h.Ns mainGlobals mg) (c : SaysT fa fn K) : Txt fa fn K mg := ⟨c, fun x => He.glo_ok X G, fun x => He.free_ok X G, fun x i => He.int_ok X G, fun x z => He.str_ok X G⟩
theorem Txt.free (T : Txt fa fn K mg) (i : Nat) {x : Str} (h : fa[i]? = some (.fa (.free x)) := by rfl) : mg x = none := T.fr x (T.c.fact i h)
theorem Txt.glob (T : Txt fa fn K mg) (i : Nat) {x : Str} (h : fa[i]? = some (.fa (.glo x)) := by rfl) : mg x = some (.ref (He.ga K x)) := T.gl x (T.c.fact i h)
theorem Txt.int (T : Txt fa fn K mg) (i : Nat) {x : Str} {n : Int} (h : fa[i]? = some (.fa (.int x n)) := by rfl) : ∃ u, mg x = some u ∧ RelV (.int n) u := by
  obtain ⟨t, e⟩ := T.it x n (T.c.fact i h)
  exact ⟨_, e, ⟨t, rfl⟩⟩
theorem Txt.str (T : Txt fa fn K mg) (i : Nat) {x z : Str} (h : fa[i]? = some (.fa (.str x z)) := by rfl) : ∃ u, mg x = some u ∧ RelV (.str z) u := by
  obtain ⟨t, e⟩ := T.st x z (T.c.fact i h)
  exact ⟨_, e, ⟨t, rfl⟩⟩
theorem Txt.tup (T : Txt fa fn K mg) (i : Nat) {x : Str} {vs : List He.Dv} (h : fa[i]? = some (.tup x vs) := by rfl) : He.tupB K x vs = true ∧ ∃ u, mg x = some u ∧ RelV (.ref (He.ga K x)) u := by
  obtain ⟨h1, h2⟩ := He.ba (show (He.tupB K x vs && He.eqO (PySem.W.nsIn K mainGlobals x) (some (some (.ref (He.ga K x))))) = true from T.c.fact i h)
  exact ⟨h1, _, T.gl x h2, rfl⟩
end
end TL

/-! TL, seventh part: short forms for the generator; freezing; == of data. -/
namespace TL
open PySem L2
section
variable {ω : Type} {np : Nat} {κ : ω → OS} {m : Mr ω} {u t : TS} {K : PySem.W.Frag} {G G' : Gm} {Mu Mu1 Mu2 Mu3 : Mm} {te ta tb tl : TE} {tt tu : TT} {ts us : List TV} {s s' s2 : SV} {k k2 : Knd} {a b r : Int} {α β γ δ : Type} {R : Rep α} {R' : Rep β} {xs ys : List α}
theorem ei_L (h : EvV K tl G Mu Mu1 (.val (tv (rSq k R) xs))) (hk : k.isL = true := by rfl) : EvI K (iList K tl) G Mu Mu1 (xs.map (tv R)) AnyM ((xs.map (tv R)).length ≤ sizeLine) := ei_list h hk
theorem ei_V (h : EvV K tl G Mu Mu1 (.val (tv (rSq k R) xs))) (hk : k.isL = false := by rfl) : EvI K (iTup K tl) G Mu Mu1 (xs.map (tv R)) AnyM ((xs.map (tv R)).length ≤ sizeLine) := ei_tup h hk
theorem ei_C {j : Nat} (h : EvV K tl G Mu Mu1 (.cell j)) (hm : Mu1[j]? = some (some (mL (xs.map (tv R))))) : EvI K (iList K tl) G Mu Mu1 (xs.map (tv R)) (fun M => M[j]? = some (some (mL (xs.map (tv R))))) ((xs.map (tv R)).length ≤ sizeLine) := ei_cell h hm
theorem hz_map (h : (xs.map (tv R)).length ≤ sizeLine) : xs.length ≤ sizeLine := by rw [List.length_map] at h; exact h
theorem hz_size {r : Unit} (h : sizeP xs = .ok r) : xs.length ≤ sizeLine := by
  unfold sizeP at h
  split at h
  · rw [sizeLine_eq]
    assumption
  · cases h
theorem hz_ble {n : Nat} (h : Nat.ble n 16777216 = true) : n ≤ sizeLine := by
  rw [sizeLine_eq]
  exact Nat.le_of_ble_eq_true h
theorem ev_as (h : EvV K te G Mu Mu1 s) (e : s = s') : EvV K te G Mu Mu1 s' := e ▸ h
theorem len_map {n : Nat} (h : xs.length = n) : (xs.map (tv R)).length = n := by rw [List.length_map]; exact h
theorem rc_lenL (h : IsSq K Mu s k (xs.map (tv R))) : Rc K (fun xs H Q => ∃ p ys, xs = [.ref p] ∧ (SqL K H p ys ∨ SqT K H p ys) ∧ Q (.int ys.length) H) Mu Mu [s] (vI (xs.length : Int)) := rc_len h (List.length_map _)
theorem rc_tupLR (h : IsSq K Mu s k (xs.map (tv R))) (hk : k.isL = true := by rfl) : Rc K (fun xs H Q => ∃ p ys, xs = [.ref p] ∧ ((SqL K H p ys ∧ ∀ l, H l = none → Q (.ref l) (upd H l (.tup ys))) ∨ (SqT K H p ys ∧ Q (.ref p) H))) Mu Mu [s] (.val (tv (rTup R) xs)) := rc_tupL h hk
theorem ef_slR {tl th : TO} {lo hi : Option Int} (h : EvV K te G Mu Mu1 s) (hl : EvO K tl G Mu1 Mu2 lo) (hh : EvO K th G Mu2 Mu3 hi) (hq : IsSq K Mu3 s k (xs.map (tv R))) (hk : k.isL = true := by rfl) : EvF K (tSl (rSlL K) te tl th) G Mu Mu3 (mL ((cut xs lo hi).map (tv R))) := by
  rw [← cut_map]
  exact ef_sl h hl hh hq hk
theorem ef_cb1 {r : List V → Hp → VK → Prop} {m : MV} (h : EvV K te G Mu Mu1 s) (hr : RcF K r Mu1 Mu2 [s] m) : EvF K (tCB r (tCons te tNil)) G Mu Mu2 m := ef_cb (ea_cons h ea_nil) hr
theorem ev_cb2 {r : List V → Hp → VK → Prop} (h : EvV K ta G Mu Mu1 s) (h2 : EvV K tb G Mu1 Mu2 s2) (hr : Rc K r Mu2 Mu3 [s, s2] s') : EvV K (tCB r (tCons ta (tCons tb tNil))) G Mu Mu3 s' := ev_cb (ea_cons h (ea_cons h2 ea_nil)) hr
/-- tuple(range(..)), list(range(..)) -/
theorem rgV_allT {S : Hp} : AllT K S (rgV a b) ((rngI a b).map (tv rInt)) := by
  have e : rgV a b = (rngI a b).map V.int := by
    unfold rgV rngI
    rw [List.map_map]
    rfl
  rw [e]
  exact ints_allT _
def rgOkP (a b : Int) : Prop := RgOk a b
theorem ev_tupRg1 (h : EvV K ta G Mu Mu1 (vI b)) (hb : RgOk 0 b) : EvV K (tTupRg (tRg1 ta)) G Mu Mu1 (.val (tv (rTup rInt) (rngI 0 b))) := fun B σ S ls H Q sl hs q =>
  h B σ S ls H _ sl hs fun x S1 l1 H1 a1 b1 c1 d1 => by
    refine ⟨b, d1, hb, fun p hp => ?_⟩
    refine new_tup (ts := (rngI 0 b).map (tv rInt)) c1 hp ?_ rgV_allT (q.mono a1 b1)
    rw [rgV_length, sizeLine_eq]
    have := hb.2.2.2.2
    omega
theorem ef_lstRg1 (h : EvV K ta G Mu Mu1 (vI b)) (hb : RgOk 0 b) : EvF K (tLstRg (tRg1 ta)) G Mu Mu1 (mL ((rngI 0 b).map (tv rInt))) := fun B σ S ls H Q sl hs q =>
  h B σ S ls H _ sl hs fun x S1 l1 H1 a1 b1 c1 d1 => by
    refine ⟨b, d1, hb, fun p hp => ?_⟩
    refine new_lst (ts := (rngI 0 b).map (tv rInt)) c1 hp ?_ rgV_allT (q.mono a1 b1)
    rw [rgV_length, sizeLine_eq]
    have := hb.2.2.2.2
    omega
/-! ### an own cell becomes a value -/
def frzG (j : Nat) (t : TV) : Gm → Gm
  | [] => []
  | some (.cell i) :: r => (if Nat.beq i j = true then some (.val t) else some (.cell i)) :: frzG j t r
  | o :: r => o :: frzG j t r
theorem frzG_len {j : Nat} {t : TV} : ∀ G : Gm, (frzG j t G).length = G.length
  | [] => rfl
  | some (.cell i) :: r => congrArg (· + 1) (frzG_len r)
  | some (.val _) :: r => congrArg (· + 1) (frzG_len r)
  | none :: r => congrArg (· + 1) (frzG_len r)
theorem frzG_get {j : Nat} {t : TV} : ∀ {G : Gm} {i : Nat} {s : SV}, (frzG j t G)[i]? = some (some s) → G[i]? = some (some s) ∨ (G[i]? = some (some (.cell j)) ∧ s = .val t)
  | [], i, s, h => by simp [frzG] at h
  | some (.cell c) :: r, 0, s, h => by
    have h : (if Nat.beq c j = true then some (SV.val t) else some (SV.cell c)) = some s := by simpa [frzG] using h
    by_cases e : Nat.beq c j = true
    · rw [if_pos e] at h
      cases h
      have := Nat.eq_of_beq_eq_true e
      subst this
      exact .inr ⟨rfl, rfl⟩
    · rw [if_neg e] at h
      cases h
      exact .inl rfl
  | some (.val _) :: r, 0, s, h => .inl h
  | none :: r, 0, s, h => .inl h
  | some (.cell c) :: r, i + 1, s, h => frzG_get (G := r) (i := i) (by simpa [frzG] using h)
  | some (.val _) :: r, i + 1, s, h => frzG_get (G := r) (i := i) (by simpa [frzG] using h)
  | none :: r, i + 1, s, h => frzG_get (G := r) (i := i) (by simpa [frzG] using h)
theorem eb_frz {j : Nat} {mv : MV} {tv' : TV} (hk : Mu[j]? = some (some mv)) (f : Frz mv tv') (h : EvB K np t (frzG j tv' G) (Mu.set j none) κ m) : EvB K np t G Mu κ m := fun B σ S ls H D w hn sl hs e q => by
  obtain ⟨a, o, e1, e4, s1, h2⟩ := hs.freeze hk
  refine h B σ _ ls H D w hn ⟨by rw [frzG_len]; exact sl.1, fun i s' es => ?_⟩ h2 e (q.mono s1 (Pre.refl _))
  rcases frzG_get es with z | ⟨z, es'⟩
  · obtain ⟨v, f1, f2⟩ := sl.2 i s' z
    exact ⟨v, f1, SV.mono s1 (Pre.refl _) f2⟩
  · subst es'
    obtain ⟨v, f1, ⟨a', g1, g2⟩⟩ := sl.2 i _ z
    rw [e1] at g1
    cases g1
    subst g2
    exact ⟨_, f1, f (mv.mono s1 e4) upd_same⟩
theorem frz_L : Frz (mL (xs.map (tv R))) (tv (rList R) xs) := frz_l
end

theorem pairR {α β : Type} {p : Mr (α × β)} {r : α × β} (h : p = .ok r) : p = .ok (r.1, r.2) := h
section
variable {K : PySem.W.Frag} {G : Gm} {Mu Mu1 : Mm} {te : TE} {tt : TT} {α β : Type} {R : Rep α} {xs ys : List α}
theorem oeF (e : (Except.ok xs : Mr (List α)) = .ok ys) (h : EvF K te G Mu Mu1 (mL (xs.map (tv R)))) : EvF K te G Mu Mu1 (mL (ys.map (tv R))) := by
  cases e
  exact h
/-- of a pair: the value and the state behind -/
theorem oeP {mu : β → Mm} {x y : α} {s s' : β} (e : (Except.ok (x, s) : Mr (α × β)) = .ok (y, s')) (h : EvV K te G Mu (mu s) (.val (tv R x))) : EvV K te G Mu (mu s') (.val (tv R y)) := by
  cases e
  exact h
theorem filIf {b : Bool} {p : Mr (Option α)} {o : Option α} (e : (if b = true then p else .ok none) = .ok o) (ht : EvT K tt G Mu Mu b) (h : p = .ok o → ∃ y, o = some y ∧ EvV K te G Mu Mu (.val (tv R y))) :
    ∃ b, EvT K tt G Mu Mu b ∧ (b = true → ∃ y, o = some y ∧ EvV K te G Mu Mu (.val (tv R y))) ∧ (b = false → o = none) := by
  cases b with
  | true =>
    rw [if_pos rfl] at e
    exact ⟨true, ht, fun _ => h e, fun z => nomatch z⟩
  | false =>
    rw [if_neg Bool.false_ne_true] at e
    cases e
    exact ⟨false, ht, fun z => (nomatch z), fun _ => rfl⟩
theorem oeO {x : α} {o : Option α} (e : (Except.ok (some x) : Mr (Option α)) = .ok o) (h : EvV K te G Mu Mu1 (.val (tv R x))) : ∃ y, o = some y ∧ EvV K te G Mu Mu1 (.val (tv R y)) := by
  cases e
  exact ⟨x, rfl, h⟩
end
/-! ### == of data -/
structure DRep {α : Type} [BEq α] (R : Rep α) (d : Nat) where
  enc : α → PyData
  dp : ∀ {K S v a}, R.p K S v a → Dp K S v (enc a)
  lay : ∀ a, (enc a).canLay0 = true
  dep : ∀ a, (enc a).depth ≤ d
  eq : ∀ a b, PyData.eqv (enc a) (enc b) = (a == b)
def drInt : DRep rInt 0 := ⟨.int, fun h => by cases h; exact .int _, fun _ => rfl, fun _ => Nat.le_refl _, fun _ _ => rfl⟩
def drBool : DRep rBool 0 := ⟨.bool, fun h => by cases h; exact .bl _, fun _ => rfl, fun _ => Nat.le_refl _, fun _ _ => rfl⟩
theorem dpAll {α : Type} [BEq α] {R : Rep α} {d : Nat} (D : DRep R d) {K : PySem.W.Frag} {S : Hp} : ∀ {vs : List V} {xs : List α}, AllT K S vs (xs.map (tv R)) → DpAll K S vs (xs.map D.enc)
  | [], [], _ => .nil
  | [], _ :: _, h => nomatch h
  | _ :: _, [], h => nomatch h
  | _ :: _, _ :: _, .cons r t => .cons (D.dp r) (dpAll D t)
theorem layAll {α : Type} [BEq α] {R : Rep α} {d : Nat} (D : DRep R d) : ∀ xs : List α, PyData.canLayAll0 (xs.map D.enc) = true
  | [] => rfl
  | x :: xs => by
    show (PyData.canLay0 (D.enc x) && PyData.canLayAll0 (xs.map D.enc)) = true
    rw [D.lay x, layAll D xs]
    rfl
theorem depAll {α : Type} [BEq α] {R : Rep α} {d : Nat} (D : DRep R d) : ∀ xs : List α, PyData.depthAll (xs.map D.enc) ≤ d
  | [] => Nat.zero_le _
  | x :: xs => by
    show Nat.max (PyData.depth (D.enc x)) (PyData.depthAll (xs.map D.enc)) ≤ d
    exact Nat.max_le.mpr ⟨D.dep x, depAll D xs⟩
theorem eqAll {α : Type} [BEq α] {R : Rep α} {d : Nat} (D : DRep R d) : ∀ xs ys : List α, PyData.eqvAll (xs.map D.enc) (ys.map D.enc) = (xs == ys)
  | [], [] => rfl
  | [], _ :: _ => rfl
  | _ :: _, [] => rfl
  | x :: xs, y :: ys => by
    show (PyData.eqv (D.enc x) (D.enc y) && PyData.eqvAll (xs.map D.enc) (ys.map D.enc)) = _
    rw [D.eq, eqAll D xs ys]
    rfl
def drL {α : Type} [BEq α] {R : Rep α} {d : Nat} (D : DRep R d) : DRep (rSq .l R) (d + 1) where
  enc := fun xs => .list (xs.map D.enc)
  dp := fun ⟨p, vs, e, q, l, r⟩ => by
    subst e
    exact .lst (SqK.seq q rfl) (dpAll D r)
  lay := fun xs => layAll D xs
  dep := fun xs => by
    show PyData.depthAll (xs.map D.enc) + 1 ≤ d + 1
    have := depAll D xs
    omega
  eq := fun xs ys => eqAll D xs ys
def drV {α : Type} [BEq α] {R : Rep α} {d : Nat} (D : DRep R d) : DRep (rSq .t R) (d + 1) where
  enc := fun xs => .tuple (xs.map D.enc)
  dp := fun {K S v a} ⟨p, vs, e, q, l, r⟩ => by
    subst e
    have q : SqT K S p vs := SqT.of q
    exact .tup q (dpAll D r)
  lay := fun xs => layAll D xs
  dep := fun xs => by
    show PyData.depthAll (xs.map D.enc) + 1 ≤ d + 1
    have := depAll D xs
    omega
  eq := fun xs ys => eqAll D xs ys
mutual
theorem Dp.same {K : PySem.W.Frag} {H H' : Hp} (e : Same H H') : ∀ {v : V} {d : PyData}, Dp K H v d → Dp K H' v d
  | _, _, .non => .non
  | _, _, .bl b => .bl b
  | _, _, .int i => .int i
  | _, _, .str x => .str x
  | _, _, .lst h a => .lst (Same.seq e h) (DpAll.same e a)
  | _, _, .tup h a => .tup (same_seqT e h) (DpAll.same e a)
theorem DpAll.same {K : PySem.W.Frag} {H H' : Hp} (e : Same H H') : ∀ {v : List V} {d : List PyData}, DpAll K H v d → DpAll K H' v d
  | _, _, .nil => .nil
  | _, _, .cons h a => .cons (Dp.same e h) (DpAll.same e a)
end
theorem rv_eqD {α : Type} [BEq α] {R : Rep α} {d : Nat} {K : PySem.W.Frag} {Mu : Mm} {a b : α} (D : DRep R d) (hd : d ≤ 64) : Rv K (rEqD K) Mu Mu (.val (tv R a)) (.val (tv R b)) (vB (a == b)) := rv_same fun B S ls H x y Q hs ha hb q => by
  have sh : ∀ z, SeqAt.shaped (D.enc z) = true := fun z => by
    show (PyData.canLay0 (D.enc z) && decide (PyData.depth (D.enc z) ≤ 64)) = true
    rw [D.lay z, decide_eq_true (Nat.le_trans (D.dep z) hd)]
    rfl
  exact ⟨D.enc a, D.enc b, Dp.same hs.ex (D.dp ha), Dp.same hs.ex (D.dp hb), sh a, sh b, q _ (congrArg V.bl (D.eq a b))⟩
theorem rv_neD {α : Type} [BEq α] {R : Rep α} {d : Nat} {K : PySem.W.Frag} {Mu : Mm} {a b : α} (D : DRep R d) (hd : d ≤ 64) : Rv K (rNeD K) Mu Mu (.val (tv R a)) (.val (tv R b)) (vB (!(a == b))) := rv_same fun B S ls H x y Q hs ha hb q => by
  have sh : ∀ z, SeqAt.shaped (D.enc z) = true := fun z => by
    show (PyData.canLay0 (D.enc z) && decide (PyData.depth (D.enc z) ≤ 64)) = true
    rw [D.lay z, decide_eq_true (Nat.le_trans (D.dep z) hd)]
    rfl
  exact ⟨D.enc a, D.enc b, Dp.same hs.ex (D.dp ha), Dp.same hs.ex (D.dp hb), sh a, sh b, q _ (congrArg V.bl (congrArg not (D.eq a b)))⟩

/-! ### rules at a named K (within a comprehension's block the context is another one) -/
section
variable {X : Cx} {K : PySem.W.Frag}
theorem kIxL (h : X.K = K := by rfl) : IxR X (rIxL K) := h ▸ ix_list
theorem kIxT (h : X.K = K := by rfl) : IxR X (rIxT K) := h ▸ ix_tup
theorem kIn (h : X.K = K := by rfl) : OpR X (compareOp .In) (rIn K false) := h ▸ op_in_seq
theorem kNotIn (h : X.K = K := by rfl) : OpR X (compareOp .NotIn) (rIn K true) := h ▸ op_notIn_seq
theorem kCatA (h : X.K = K := by rfl) : OpR X (binaryOp .Add) (rCatA K) := h ▸ op_catA
theorem kSlL (h : X.K = K := by rfl) : SlR X (rSlL K) := h ▸ sl_list
theorem kSum (hc : X.calm = true) (h : X.K = K := by rfl) : CallR X (.builtin "sum") (rSum K) := h ▸ cr_sum hc
theorem kAny (hc : X.calm = true) (h : X.K = K := by rfl) : CallR X (.builtin "any") (rAny K) := h ▸ cr_any hc
theorem kAll (hc : X.calm = true) (h : X.K = K := by rfl) : CallR X (.builtin "all") (rAll K) := h ▸ cr_all hc
theorem kSorted (h : X.K = K := by rfl) : CallR X (.builtin "sorted") (rSortedI K) := h ▸ cr_sortedI
theorem kLen (h : X.K = K := by rfl) : CallR X (.builtin "len") (fun xs H Q => ∃ p ys, xs = [.ref p] ∧ (SqL K H p ys ∨ SqT K H p ys) ∧ Q (.int ys.length) H) := h ▸ call_len_seq
theorem kListOf (h : X.K = K := by rfl) : CallR X (.type "list") (fun xs H Q => ∃ p ys, xs = [.ref p] ∧ (SqL K H p ys ∨ SqT K H p ys) ∧ ∀ l, H l = none → Q (.ref l) (upd H l (.lst ys))) := h ▸ call_list_of
theorem kTupleOf (h : X.K = K := by rfl) : CallR X (.type "tuple") (fun xs H Q => ∃ p ys, xs = [.ref p] ∧ ((SqL K H p ys ∧ ∀ l, H l = none → Q (.ref l) (upd H l (.tup ys))) ∨ (SqT K H p ys ∧ Q (.ref p) H))) := h ▸ call_tuple_of
theorem kIsi (h : X.K = K := by rfl) : CallR X (.builtin "isinstance") (rIsi K) := h ▸ call_isi
theorem kEqD (hu : X.A.units + 64 < cLine) (h : X.K = K := by rfl) : OpR X (compareOp .Eq) (rEqD K) := h ▸ op_eqD hu
theorem kNeD (hu : X.A.units + 64 < cLine) (h : X.K = K := by rfl) : OpR X (compareOp .NotEq) (rNeD K) := h ▸ op_neD hu
theorem kPiL {tg l : Expr} {tl : TE} (hl : PE X l tl) (h : X.K = K := by rfl) : PI X tg l (iList K tl) := h ▸ pi_list hl
theorem kPiT {tg l : Expr} {tl : TE} (hl : PE X l tl) (h : X.K = K := by rfl) : PI X tg l (iTup K tl) := h ▸ pi_tup hl
end
end TL

/-! TL, eighth part: dicts, None beside a value, pop, max and min of lists. -/
namespace TL
open PySem L2
/-! ### None or a value -/
def rOpt {α : Type} (R : Rep α) : Rep (Option α) := ⟨fun K S v o => match o with
  | none => v = .non
  | some a => R.p K S v a, fun {K S S' v o} h q => by
    cases o with
    | none => exact q
    | some a => exact R.mono h q⟩
section
variable {K : PySem.W.Frag} {G : Gm} {Mu Mu1 Mu2 Mu3 : Mm} {te : TE} {α : Type} {R : Rep α} {x : α} {o : Option α}
theorem ev_onone (h : EvV K te G Mu Mu1 vN) : EvV K te G Mu Mu1 (.val (tv (rOpt R) none)) := fun B σ S ls H Q sl hs q =>
  h B σ S ls H Q sl hs fun v S1 l1 H1 a1 b1 c1 d1 => q v S1 l1 H1 a1 b1 c1 d1
theorem ev_osome (h : EvV K te G Mu Mu1 (.val (tv R x))) : EvV K te G Mu Mu1 (.val (tv (rOpt R) (some x))) := fun B σ S ls H Q sl hs q =>
  h B σ S ls H Q sl hs fun v S1 l1 H1 a1 b1 c1 d1 => q v S1 l1 H1 a1 b1 c1 d1
theorem ev_oget (h : EvV K te G Mu Mu1 (.val (tv (rOpt R) o))) (e : getO o = .ok x) : EvV K te G Mu Mu1 (.val (tv R x)) := by
  cases o with
  | none => cases e
  | some a =>
    cases e
    exact fun B σ S ls H Q sl hs q => h B σ S ls H Q sl hs fun v S1 l1 H1 a1 b1 c1 d1 => q v S1 l1 H1 a1 b1 c1 d1
/-- what is never None -/
structure NoN {α : Type} (R : Rep α) : Prop where
  no : ∀ {K S v a}, R.p K S v a → v ≠ .non
theorem non_int : NoN rInt := ⟨fun h => by cases h; exact fun z => nomatch z⟩
theorem non_bool : NoN rBool := ⟨fun h => by cases h; exact fun z => nomatch z⟩
theorem non_txt : NoN rTxt := ⟨fun h => by cases h; exact fun z => nomatch z⟩
theorem non_sq {k : Knd} : NoN (rSq k R) := ⟨fun ⟨p, vs, e, _⟩ => by subst e; exact fun z => nomatch z⟩
theorem non_p2 {β : Type} {R' : Rep β} : NoN (rP2 R R') := ⟨fun ⟨p, vs, e, _⟩ => by subst e; exact fun z => nomatch z⟩
theorem non_p3 {β γ : Type} {R' : Rep β} {R2 : Rep γ} : NoN (rP3 R R' R2) := ⟨fun ⟨p, vs, e, _⟩ => by subst e; exact fun z => nomatch z⟩
theorem non_p4 {β γ δ : Type} {R' : Rep β} {R2 : Rep γ} {R3 : Rep δ} : NoN (rP4 R R' R2 R3) := ⟨fun ⟨p, vs, e, _⟩ => by subst e; exact fun z => nomatch z⟩
theorem dec_opt (n : NoN R) {S : Hp} {v : V} (r : (rOpt R).p K S v o) : decide (v = .non) = o.isNone := by
  cases o with
  | none => exact decide_eq_true r
  | some a => exact decide_eq_false (n.no (show R.p K S v a from r))
theorem rv_isN (n : NoN R) : Rv K rIsN Mu Mu (.val (tv (rOpt R) o)) vN (vB o.isNone) := rv_same fun B S ls H x y Q hs ha hb q => ⟨hb, q _ (congrArg V.bl (dec_opt n ha))⟩
theorem rv_notN (n : NoN R) : Rv K rNotN Mu Mu (.val (tv (rOpt R) o)) vN (vB (!o.isNone)) := rv_same fun B S ls H x y Q hs ha hb q => ⟨hb, q _ (congrArg (fun b => V.bl (!b)) (dec_opt n ha))⟩
theorem rv_isN0 : Rv K rIsN Mu Mu vN vN (vB true) := rv_same fun B S ls H x y Q hs ha hb q => by
  have ha : x = .non := ha
  exact ⟨hb, q _ (congrArg V.bl (decide_eq_true ha))⟩
theorem rv_isNV (n : NoN R) : Rv K rIsN Mu Mu (.val (tv R x)) vN (vB false) := rv_same fun B S ls H u y Q hs ha hb q => ⟨hb, q _ (congrArg V.bl (decide_eq_false (n.no ha)))⟩
theorem rv_notN0 : Rv K rNotN Mu Mu vN vN (vB false) := rv_same fun B S ls H x y Q hs ha hb q => by
  have ha : x = .non := ha
  exact ⟨hb, q _ (congrArg (fun b => V.bl (!b)) (decide_eq_true ha))⟩
theorem rv_notNV (n : NoN R) : Rv K rNotN Mu Mu (.val (tv R x)) vN (vB true) := rv_same fun B S ls H u y Q hs ha hb q => ⟨hb, q _ (congrArg (fun b => V.bl (!b)) (decide_eq_false (n.no ha)))⟩
theorem rv_isBB {a b : Bool} : Rv K rIsB Mu Mu (vB a) (vB b) (vB (decide (a = b))) := rv_same fun B S ls H x y Q hs ha hb q => ⟨a, b, ha, hb, q _ rfl⟩
theorem rv_notBB {a b : Bool} : Rv K rNotB Mu Mu (vB a) (vB b) (vB (!decide (a = b))) := rv_same fun B S ls H x y Q hs ha hb q => ⟨a, b, ha, hb, q _ rfl⟩
end
/-! ### dicts -/
section
variable {κ : Type} [DecidableEq κ]
theorem map_val {f : κ → Key} (hf : ∀ a b, f a = f b → a = b) (k : κ) : ∀ ys : List (κ × V), valV (ys.map fun p => (f p.1, p.2)) (f k) = dget ys k
  | [] => rfl
  | p :: r => by
    rw [List.map_cons]
    by_cases h : p.1 = k
    · rw [valV_pos (by rw [h])]
      unfold dget
      rw [List.find?_cons, decide_eq_true h]
      rfl
    · rw [valV_neg (fun z => h (hf _ _ z)), map_val hf k r]
      unfold dget
      rw [List.find?_cons, decide_eq_false h]
theorem map_valL {f : κ → List Key} (hf : ∀ a b, f a = f b → a = b) (k : κ) : ∀ ys : List (κ × V), valV (ys.map fun p => (f p.1, p.2)) (f k) = dget ys k
  | [] => rfl
  | p :: r => by
    rw [List.map_cons]
    by_cases h : p.1 = k
    · rw [valV_pos (by rw [h])]
      unfold dget
      rw [List.find?_cons, decide_eq_true h]
      rfl
    · rw [valV_neg (fun z => h (hf _ _ z)), map_valL hf k r]
      unfold dget
      rw [List.find?_cons, decide_eq_false h]
theorem map_put {ρ : Type} [DecidableEq ρ] {f : κ → ρ} (hf : ∀ a b, f a = f b → a = b) (k : κ) (v : V) (ys : List (κ × V)) : putK (ys.map fun p => (f p.1, p.2)) (f k) v = (dput ys k v).map fun p => (f p.1, p.2) := by
  have hd : ∀ x : κ, decide (f x = f k) = decide (x = k) := fun x => by
    by_cases h : x = k
    · rw [decide_eq_true h, decide_eq_true (by rw [h])]
    · rw [decide_eq_false h, decide_eq_false fun z => h (hf _ _ z)]
  unfold putK dput
  rw [List.any_map]
  have e : (ys.any ((fun kv : ρ × V => decide (kv.1 = f k)) ∘ fun p => (f p.1, p.2))) = ys.any fun kv => decide (kv.1 = k) := by
    congr 1
    funext p
    exact hd p.1
  rw [e]
  by_cases h : (ys.any fun kv => decide (kv.1 = k)) = true
  · rw [if_pos h, if_pos h, List.map_map, List.map_map]
    refine List.map_congr_left fun p _ => ?_
    show (if f p.1 = f k then (f p.1, v) else (f p.1, p.2)) = _
    by_cases h2 : p.1 = k
    · rw [if_pos (by rw [h2])]
      simp [h2]
    · rw [if_neg (fun z => h2 (hf _ _ z))]
      simp [h2]
  · rw [if_neg h, if_neg h, List.map_append]
    rfl
end
/-- keys: how they are told, and what the dict is -/
structure KyR {κ : Type} [DecidableEq κ] (R : Rep κ) where
  obj : List (κ × V) → HO
  get : ∀ {K : PySem.W.Frag} {S H : Hp} {a : Addr} {v : V} {k : κ} {ys : List (κ × V)}, Same S H → R.p K S v k → H a = some (obj ys) → DGet H a v (dget ys k)
  put : ∀ {K : PySem.W.Frag} {S H : Hp} {a : Addr} {v y : V} {k : κ} {ys : List (κ × V)}, Same S H → R.p K S v k → H a = some (obj ys) → ys.length < sizeLine → DPut H a v y (upd H a (obj (dput ys k y)))
  isD : ∀ {H : Hp} {a : Addr} {ys : List (κ × V)}, H a = some (obj ys) → IsD H a
/-- ints or texts -/
def kyK {κ : Type} [DecidableEq κ] {R : Rep κ} (f : κ → Key) (hf : ∀ a b, f a = f b → a = b) (hR : ∀ {K S v k}, R.p K S v k → v = kV (f k)) : KyR R where
  obj := fun ys => .dK (ys.map fun p => (f p.1, p.2))
  get := fun {K S H a v k ys} _ r e => by
    have := DGet.k (k := f k) e
    rw [map_val hf] at this
    rw [hR r]
    exact this
  put := fun {K S H a v y k ys} _ r e hl => by
    have := DPut.k (k := f k) (v := y) e (by rw [List.length_map]; exact hl)
    rw [map_put hf] at this
    rw [hR r]
    exact this
  isD := fun {H a ys} e => .inl ⟨_, .of e⟩
/-- tuples of such -/
def kyT {κ : Type} [DecidableEq κ] {R : Rep κ} (f : κ → List Key) (hf : ∀ a b, f a = f b → a = b) (hR : ∀ {K S v k}, R.p K S v k → ∃ b, v = .ref b ∧ S b = some (.tup ((f k).map kV))) : KyR R where
  obj := fun ys => .dT (ys.map fun p => (f p.1, p.2))
  get := fun {K S H a v k ys} sa r e => by
    obtain ⟨b, e1, e2⟩ := hR r
    have := DGet.t (k := f k) e (sa _ _ e2)
    rw [map_valL hf] at this
    rw [e1]
    exact this
  put := fun {K S H a v y k ys} sa r e hl => by
    obtain ⟨b, e1, e2⟩ := hR r
    have := DPut.t (k := f k) (v := y) e (sa _ _ e2) (by rw [List.length_map]; exact hl)
    rw [map_put hf] at this
    rw [e1]
    exact this
  isD := fun {H a ys} e => .inr ⟨_, .of e⟩
def kyInt : KyR rInt := kyK (fun i => .inl i) (fun a b e => by cases e; rfl) fun h => h
def kyTxt : KyR rTxt := kyK (fun l => .inr ⟨l.toArray⟩) (fun a b e => str_inj.mp (Sum.inr.inj e)) fun h => h
/-- what stands in a key's tuple -/
structure KyE {κ : Type} (R : Rep κ) where
  f : κ → Key
  inj : ∀ a b, f a = f b → a = b
  p : ∀ {K S v k}, R.p K S v k → v = kV (f k)
def keInt : KyE rInt := ⟨.inl, fun a b e => by cases e; rfl, fun h => h⟩
def keTxt : KyE rTxt := ⟨fun l => .inr ⟨l.toArray⟩, fun a b e => str_inj.mp (Sum.inr.inj e), fun h => h⟩
def ky2 {α β : Type} [DecidableEq α] [DecidableEq β] {A : Rep α} {B : Rep β} (a : KyE A) (b : KyE B) : KyR (rP2 A B) := kyT (fun x => [a.f x.1, b.f x.2])
  (fun x y e => by
    injection e with e1 e2
    injection e2 with e2 _
    exact Prod.ext (a.inj _ _ e1) (b.inj _ _ e2))
  fun {K S v k} ⟨p, vs, e, sq, l, r⟩ => by
    cases r with
    | cons r0 r => cases r with
      | cons r1 r =>
        cases r
        rw [a.p r0, b.p r1] at sq
        exact ⟨p, e, sq⟩
def ky3 {α β γ : Type} [DecidableEq α] [DecidableEq β] [DecidableEq γ] {A : Rep α} {B : Rep β} {C : Rep γ} (a : KyE A) (b : KyE B) (c : KyE C) : KyR (rP3 A B C) := kyT (fun x => [a.f x.1, b.f x.2.1, c.f x.2.2])
  (fun x y e => by
    injection e with e1 e2
    injection e2 with e2 e3
    injection e3 with e3 _
    exact Prod.ext (a.inj _ _ e1) (Prod.ext (b.inj _ _ e2) (c.inj _ _ e3)))
  fun {K S v k} ⟨p, vs, e, sq, l, r⟩ => by
    cases r with
    | cons r0 r => cases r with
      | cons r1 r => cases r with
        | cons r2 r =>
          cases r
          rw [a.p r0, b.p r1, c.p r2] at sq
          exact ⟨p, e, sq⟩
section
variable {κ α : Type} [DecidableEq κ] {Rk : Rep κ} {R : Rep α} {Y : KyR Rk}
abbrev DAll (K : PySem.W.Frag) (S : Hp) (R : Rep α) (ys : List (κ × V)) (xs : List (κ × α)) : Prop := Paired (fun y x => y.1 = x.1 ∧ R.p K S y.2 x.2) ys xs
theorem DAll.mono {K : PySem.W.Frag} {S S' : Hp} {ys : List (κ × V)} {xs : List (κ × α)} (h : Same S S') (q : DAll K S R ys xs) : DAll K S' R ys xs := Paired.imp q fun _ _ z => ⟨z.1, R.mono h z.2⟩
theorem DAll.get {K : PySem.W.Frag} {S : Hp} {k : κ} : ∀ {ys : List (κ × V)} {xs : List (κ × α)}, DAll K S R ys xs → (match dget xs k with
    | none => dget ys k = none
    | some x => ∃ v, dget ys k = some v ∧ R.p K S v x)
  | _, _, .nil => rfl
  | y :: _, x :: _, .cons r t => by
    unfold dget
    rw [List.find?_cons, List.find?_cons]
    by_cases h : x.1 = k
    · rw [decide_eq_true h, decide_eq_true (r.1.trans h)]
      exact ⟨_, rfl, r.2⟩
    · rw [decide_eq_false h, decide_eq_false (fun z => h (r.1.symm.trans z))]
      exact DAll.get t
theorem DAll.any {K : PySem.W.Frag} {S : Hp} {k : κ} : ∀ {ys : List (κ × V)} {xs : List (κ × α)}, DAll K S R ys xs → (ys.any fun kv => decide (kv.1 = k)) = xs.any fun kv => decide (kv.1 = k)
  | _, _, .nil => rfl
  | y :: _, x :: _, .cons r t => by
    rw [List.any_cons, List.any_cons, r.1, DAll.any t]
theorem DAll.repl {K : PySem.W.Frag} {S : Hp} {k : κ} {v : V} {x : α} (rx : R.p K S v x) : ∀ {ys : List (κ × V)} {xs : List (κ × α)}, DAll K S R ys xs → DAll K S R (ys.map fun kv => if kv.1 = k then (kv.1, v) else kv) (xs.map fun kv => if kv.1 = k then (kv.1, x) else kv)
  | _, _, .nil => .nil
  | y :: _, z :: _, .cons r t => by
    rw [List.map_cons, List.map_cons]
    refine .cons ?_ (DAll.repl rx t)
    by_cases h : z.1 = k
    · rw [if_pos h, if_pos (r.1.trans h)]
      exact ⟨r.1, rx⟩
    · rw [if_neg h, if_neg (fun q => h (r.1.symm.trans q))]
      exact r
theorem DAll.put {K : PySem.W.Frag} {S : Hp} {k : κ} {v : V} {x : α} (rx : R.p K S v x) {ys : List (κ × V)} {xs : List (κ × α)} (q : DAll K S R ys xs) : DAll K S R (dput ys k v) (dput xs k x) := by
  unfold dput
  rw [DAll.any q]
  by_cases h : (xs.any fun kv => decide (kv.1 = k)) = true
  · rw [if_pos h, if_pos h]
    exact DAll.repl rx q
  · rw [if_neg h, if_neg h]
    exact Paired.app q (.cons ⟨rfl, rx⟩ .nil)
theorem dput_le {β : Type} (xs : List (κ × β)) (k : κ) (x : β) : (dput xs k x).length ≤ xs.length + 1 := by
  unfold dput
  split
  · rw [List.length_map]
    omega
  · rw [List.length_append]
    exact Nat.le_refl _
/-- an own dict -/
def mD (Y : KyR Rk) (R : Rep α) (xs : List (κ × α)) : MV where
  q := fun K S _ o => ∃ ys, o = Y.obj ys ∧ ys.length ≤ sizeLine ∧ DAll K S R ys xs
  mono := fun h ⟨ys, e, l, r⟩ => ⟨ys, e, l, r.mono h⟩
/-- a dict that stands -/
def rD (Y : KyR Rk) (R : Rep α) : Rep (List (κ × α)) := ⟨fun K S v xs => ∃ p ys, v = .ref p ∧ S p = some (Y.obj ys) ∧ ys.length ≤ sizeLine ∧ DAll K S R ys xs,
  fun h ⟨p, ys, e, q, l, r⟩ => ⟨p, ys, e, h _ _ q, l, r.mono h⟩⟩
theorem frz_D {xs : List (κ × α)} : Frz (mD Y R xs) (tv (rD Y R) xs) := fun ⟨ys, e, l, r⟩ h => by
  subst e
  exact ⟨_, ys, rfl, h, l, r⟩
def IsDc (K : PySem.W.Frag) (Mu : Mm) (s : SV) (Y : KyR Rk) (R : Rep α) (xs : List (κ × α)) : Prop :=
  ∀ B S ls H v, HS K B S ls Mu H → s.p K S ls v → ∃ p ys, v = .ref p ∧ H p = some (Y.obj ys) ∧ ys.length ≤ sizeLine ∧ DAll K S R ys xs
variable {K : PySem.W.Frag} {G : Gm} {Mu Mu1 Mu2 Mu3 : Mm} {td ty tx : TE} {s : SV} {xs : List (κ × α)} {k : κ} {x : α} {j : Nat}
theorem is_dv : IsDc K Mu (.val (tv (rD Y R) xs)) Y R xs := fun B S ls H v hs ⟨p, ys, e, q, l, r⟩ => ⟨p, ys, e, hs.ex _ _ q, l, r⟩
theorem is_dc (h : Mu[j]? = some (some (mD Y R xs))) : IsDc K Mu (.cell j) Y R xs := fun B S ls H v hs ⟨a, e, ev⟩ => by
  obtain ⟨a', o, e1, e2, e3, ⟨ys, eo, l, r⟩⟩ := hs.cell j _ h
  rw [e] at e1
  cases e1
  subst eo
  exact ⟨a, ys, ev, e3, l, r⟩
theorem ev_dget (hd : EvV K td G Mu Mu1 s) (hk : EvV K ty G Mu1 Mu2 (.val (tv Rk k))) (hq : IsDc K Mu2 s Y R xs) (e : getD xs k = .ok x) : EvV K (tDGet td ty) G Mu Mu2 (.val (tv R x)) := fun B σ S ls H Q sl hs q =>
  hd B σ S ls H _ sl hs fun u S1 l1 H1 a1 b1 c1 d1 => hk B σ S1 l1 H1 _ (sl.mono a1 b1) c1 fun v S2 l2 H2 a2 b2 c2 d2 => by
    obtain ⟨p, ys, e1, e2, _, r⟩ := hq B S2 l2 H2 u c2 (SV.mono a2 b2 d1)
    have g := Y.get (k := k) c2.ex d2 e2
    have m := DAll.get (k := k) r
    unfold getD at e
    split at e
    · rename_i y ey
      cases e
      rw [ey] at m
      obtain ⟨v', f1, f2⟩ := m
      rw [f1] at g
      exact ⟨p, v', e1, g, q v' S2 l2 H2 (a1.trans a2) (b1.trans b2) c2 f2⟩
    · cases e
theorem ev_dget1 (hd : EvV K td G Mu Mu1 s) (hk : EvV K ty G Mu1 Mu2 (.val (tv Rk k))) (hq1 : ∃ xs, IsDc K Mu1 s Y R xs) (hq : IsDc K Mu2 s Y R xs) : EvV K (tDGet1 td ty) G Mu Mu2 (.val (tv (rOpt R) (dget xs k))) := fun B σ S ls H Q sl hs q =>
  hd B σ S ls H _ sl hs fun u S1 l1 H1 a1 b1 c1 d1 => by
    obtain ⟨xs1, hq1⟩ := hq1
    obtain ⟨p0, ys0, f1, f2, _, _⟩ := hq1 B S1 l1 H1 u c1 d1
    refine ⟨p0, f1, Y.isD f2, ?_⟩
    refine hk B σ S1 l1 H1 _ (sl.mono a1 b1) c1 fun v S2 l2 H2 a2 b2 c2 d2 => ?_
    obtain ⟨p, ys, e1, e2, _, r⟩ := hq B S2 l2 H2 u c2 (SV.mono a2 b2 d1)
    rw [f1] at e1
    cases e1
    have m := DAll.get (k := k) r
    refine ⟨_, Y.get (k := k) c2.ex d2 e2, ?_⟩
    cases ey : dget xs k with
    | none =>
      rw [ey] at m
      have m : dget ys k = none := m
      rw [m]
      exact q _ S2 l2 H2 (a1.trans a2) (b1.trans b2) c2 (by rw [ey]; rfl)
    | some y =>
      rw [ey] at m
      obtain ⟨v', g1, g2⟩ := m
      rw [g1]
      exact q _ S2 l2 H2 (a1.trans a2) (b1.trans b2) c2 (by rw [ey]; exact g2)
theorem ev_dget2 (hd : EvV K td G Mu Mu1 s) (hk : EvV K ty G Mu1 Mu2 (.val (tv Rk k))) (hx : EvV K tx G Mu2 Mu3 (.val (tv R x))) (hq1 : ∃ xs, IsDc K Mu1 s Y R xs) (hq : IsDc K Mu3 s Y R xs) : EvV K (tDGet2 td ty tx) G Mu Mu3 (.val (tv R ((dget xs k).getD x))) := fun B σ S ls H Q sl hs q =>
  hd B σ S ls H _ sl hs fun u S1 l1 H1 a1 b1 c1 d1 => by
    obtain ⟨xs1, hq1⟩ := hq1
    obtain ⟨p0, ys0, f1, f2, _, _⟩ := hq1 B S1 l1 H1 u c1 d1
    refine ⟨p0, f1, Y.isD f2, ?_⟩
    refine hk B σ S1 l1 H1 _ (sl.mono a1 b1) c1 fun v S2 l2 H2 a2 b2 c2 d2 => ?_
    refine hx B σ S2 l2 H2 _ ((sl.mono a1 b1).mono a2 b2) c2 fun z S3 l3 H3 a3 b3 c3 d3 => ?_
    obtain ⟨p, ys, e1, e2, _, r⟩ := hq B S3 l3 H3 u c3 (SV.mono (a2.trans a3) (b2.trans b3) d1)
    rw [f1] at e1
    cases e1
    have m := DAll.get (k := k) r
    refine ⟨_, Y.get (k := k) c3.ex (Rk.mono a3 d2) e2, ?_⟩
    cases ey : dget xs k with
    | none =>
      rw [ey] at m
      have m : dget ys k = none := m
      rw [m]
      exact q _ S3 l3 H3 ((a1.trans a2).trans a3) ((b1.trans b2).trans b3) c3 (by rw [ey]; exact d3)
    | some y =>
      rw [ey] at m
      obtain ⟨v', g1, g2⟩ := m
      rw [g1]
      exact q _ S3 l3 H3 ((a1.trans a2).trans a3) ((b1.trans b2).trans b3) c3 (by rw [ey]; exact g2)
theorem dall_some {S : Hp} {ys : List (κ × V)} (r : DAll K S R ys xs) : (dget ys k).isSome = (dget xs k).isSome := by
  have m := DAll.get (k := k) r
  cases ey : dget xs k with
  | none =>
    rw [ey] at m
    have m : dget ys k = none := m
    rw [m]
    rfl
  | some y =>
    rw [ey] at m
    obtain ⟨v', g1, g2⟩ := m
    rw [g1]
    rfl
theorem ev_din (hk : EvV K ty G Mu Mu1 (.val (tv Rk k))) (hd : EvV K td G Mu1 Mu2 s) (hq : IsDc K Mu2 s Y R xs) : EvV K (tDIn ty td) G Mu Mu2 (vB (dget xs k).isSome) := fun B σ S ls H Q sl hs q =>
  hk B σ S ls H _ sl hs fun v S1 l1 H1 a1 b1 c1 d1 => hd B σ S1 l1 H1 _ (sl.mono a1 b1) c1 fun u S2 l2 H2 a2 b2 c2 d2 => by
    obtain ⟨p, ys, e1, e2, _, r⟩ := hq B S2 l2 H2 u c2 d2
    exact ⟨p, _, e1, Y.get (k := k) c2.ex (Rk.mono a2 d1) e2, q _ S2 l2 H2 (a1.trans a2) (b1.trans b2) c2 (congrArg V.bl (dall_some r))⟩
theorem ev_dnin (hk : EvV K ty G Mu Mu1 (.val (tv Rk k))) (hd : EvV K td G Mu1 Mu2 s) (hq : IsDc K Mu2 s Y R xs) : EvV K (tDNotIn ty td) G Mu Mu2 (vB (!(dget xs k).isSome)) := fun B σ S ls H Q sl hs q =>
  hk B σ S ls H _ sl hs fun v S1 l1 H1 a1 b1 c1 d1 => hd B σ S1 l1 H1 _ (sl.mono a1 b1) c1 fun u S2 l2 H2 a2 b2 c2 d2 => by
    obtain ⟨p, ys, e1, e2, _, r⟩ := hq B S2 l2 H2 u c2 d2
    exact ⟨p, _, e1, Y.get (k := k) c2.ex (Rk.mono a2 d1) e2, q _ S2 l2 H2 (a1.trans a2) (b1.trans b2) c2 (congrArg (fun b => V.bl (!b)) (dall_some r))⟩
theorem ef_dnewK (h : Y.obj [] = .dK [] := by rfl) : EvF K tDNewK G Mu Mu (mD Y R []) := fun B σ S ls H Q sl hs q p hp => by
  obtain ⟨n1, n2, n3⟩ := hs.fresh hp
  exact q p _ _ _ _ (Same.refl _) (Pre.refl _) (hs.loose hp) upd_same n1 n2 n3 ⟨[], h.symm, Nat.zero_le _, .nil⟩
theorem ef_dnewT (h : Y.obj [] = .dT [] := by rfl) : EvF K tDNewT G Mu Mu (mD Y R []) := fun B σ S ls H Q sl hs q p hp => by
  obtain ⟨n1, n2, n3⟩ := hs.fresh hp
  exact q p _ _ _ _ (Same.refl _) (Pre.refl _) (hs.loose hp) upd_same n1 n2 n3 ⟨[], h.symm, Nat.zero_le _, .nil⟩
/-- d[k] = x -/
theorem eb_dput {ω : Type} {np : Nat} {κ' : ω → OS} {m : Mr ω} {u : TS} {r0 : Unit} (hx : EvV K tx G Mu Mu1 (.val (tv R x))) (hd : EvV K td G Mu1 Mu2 (.cell j)) (hk : EvV K ty G Mu2 Mu3 (.val (tv Rk k))) (hm : Mu3[j]? = some (some (mD Y R xs))) (hz : growOk xs = .ok r0)
    (r : EvB K np u G (Mu3.set j (some (mD Y R (dput xs k x)))) κ' m) : EvB K np (tSeq (sDPut td ty tx) u) G Mu κ' m := fun B σ S ls H D w hn sl hs e q =>
  hx B σ S ls H _ sl hs fun y S1 l1 H1 a1 b1 c1 d1 => hd B σ S1 l1 H1 _ (sl.mono a1 b1) c1 fun v S2 l2 H2 a2 b2 c2 d2 => hk B σ S2 l2 H2 _ ((sl.mono a1 b1).mono a2 b2) c2 fun z S3 l3 H3 a3 b3 c3 d3 => by
    obtain ⟨p, ep, ex⟩ := d2
    subst ex
    obtain ⟨p2, o2, g1, _, g3, ⟨ys, go, gz, gr⟩⟩ := c3.cell j _ hm
    rw [b3.get ep] at g1
    cases g1
    subst go
    have hlt : ys.length < sizeLine := by
      rw [Paired.length gr]
      exact growOk_lt hz
    refine ⟨p, _, rfl, Y.put (k := k) (y := y) c3.ex d3 g3 hlt, ?_⟩
    refine r B σ S3 l3 _ D w hn (((sl.mono a1 b1).mono a2 b2).mono a3 b3) (c3.write hm (b3.get ep) ⟨dput ys k y, rfl, ?_, DAll.put (R.mono (a2.trans a3) d1) gr⟩) e (q.mono ((a1.trans a2).trans a3) ((b1.trans b2).trans b3))
    exact Nat.le_trans (dput_le _ _ _) hlt
end
/-! ### len of a dict -/
section
variable {κ α : Type} [DecidableEq κ] {Rk : Rep κ} {R : Rep α} {Y : KyR Rk} {K : PySem.W.Frag} {Mu : Mm} {s : SV} {xs : List (κ × α)}
theorem rc_dlenT (h : IsDc K Mu s Y R xs) (e : ∀ ys, ∃ zs, Y.obj ys = .dT zs ∧ zs.length = ys.length := by exact fun ys => ⟨_, rfl, List.length_map _⟩) : Rc K rLenT Mu Mu [s] (vI (xs.length : Int)) := rc_same fun B S ls H vs Q hs ha q => by
  cases ha with
  | cons r0 r1 =>
    cases r1
    obtain ⟨p, ys, ep, ho, l, r⟩ := h B S ls H _ hs r0
    subst ep
    obtain ⟨zs, e1, e2⟩ := e ys
    rw [e1] at ho
    refine ⟨p, zs, rfl, ho, q _ ?_⟩
    show V.int _ = V.int _
    rw [e2, Paired.length r]
theorem rc_dlenK (h : IsDc K Mu s Y R xs) (e : ∀ ys, ∃ zs, Y.obj ys = .dK zs ∧ zs.length = ys.length := by exact fun ys => ⟨_, rfl, List.length_map _⟩) : Rc K (fun xs H Q => ∃ a kvs, xs = [V.ref a] ∧ H a = some (.dK kvs) ∧ Q (.int kvs.length) H) Mu Mu [s] (vI (xs.length : Int)) := rc_same fun B S ls H vs Q hs ha q => by
  cases ha with
  | cons r0 r1 =>
    cases r1
    obtain ⟨p, ys, ep, ho, l, r⟩ := h B S ls H _ hs r0
    subst ep
    obtain ⟨zs, e1, e2⟩ := e ys
    rw [e1] at ho
    refine ⟨p, zs, rfl, ho, q _ ?_⟩
    show V.int _ = V.int _
    rw [e2, Paired.length r]
end
/-! ### dicts that are records: texts as keys, known ones -/
def mRd (ks : List Key) (ts : List TV) : MV where
  q := fun K S _ o => ∃ ys : List (Key × V), o = .dK ys ∧ ys.length ≤ sizeLine ∧ ys.map (fun p : Key × V => p.1) = ks ∧ AllT K S (ys.map (fun p : Key × V => p.2)) ts
  mono := fun {K S S' a o} h ⟨ys, e, l, f, r⟩ => ⟨ys, e, l, f, AllT.mono (K := K) (S := S) h r⟩
theorem rd_get {k : Key} : ∀ {ys : List (Key × V)} {i : Nat} {v : V}, (ys.map (·.1)).Nodup → (ys.map (·.1))[i]? = some k → (ys.map (·.2))[i]? = some v → valV ys k = some v
  | [], i, v, _, h, _ => by simp at h
  | y :: ys, 0, v, _, h, h2 => by
    have h : y.1 = k := by simpa using h
    have h2 : y.2 = v := by simpa using h2
    rw [valV_pos h, h2]
  | y :: ys, i + 1, v, nd, h, h2 => by
    have h : (ys.map (·.1))[i]? = some k := by simpa using h
    have h2 : (ys.map (·.2))[i]? = some v := by simpa using h2
    rw [List.map_cons, List.nodup_cons] at nd
    have ne : ¬ y.1 = k := fun z => nd.1 (z ▸ List.mem_of_getElem? h)
    rw [valV_neg ne]
    exact rd_get nd.2 h h2
theorem rd_put {k : Key} {v : V} : ∀ {ys : List (Key × V)} {i : Nat}, (ys.map (·.1)).Nodup → (ys.map (·.1))[i]? = some k → (putK ys k v).map (·.1) = ys.map (·.1) ∧ (putK ys k v).map (·.2) = (ys.map (·.2)).set i v := by
  intro ys i nd h
  have hm : ∃ y ∈ ys, y.1 = k := by
    have := List.mem_of_getElem? h
    rw [List.mem_map] at this
    exact this
  have ha : (ys.any fun kv => decide (kv.1 = k)) = true := by
    rw [List.any_eq_true]
    obtain ⟨y, h1, h2⟩ := hm
    exact ⟨y, h1, decide_eq_true h2⟩
  unfold putK
  rw [if_pos ha, List.map_map, List.map_map]
  constructor
  · refine List.map_congr_left fun y _ => ?_
    show (if y.1 = k then (y.1, v) else y).1 = y.1
    split <;> rfl
  · clear hm ha
    induction ys generalizing i with
    | nil => simp at h
    | cons y ys ih =>
      rw [List.map_cons, List.nodup_cons] at nd
      cases i with
      | zero =>
        have h : y.1 = k := by simpa using h
        rw [List.map_cons, List.map_cons, List.set_cons_zero]
        congr 1
        · show (if y.1 = k then (y.1, v) else y).2 = v
          rw [if_pos h]
        · refine List.map_congr_left fun z hz => ?_
          show (if z.1 = k then (z.1, v) else z).2 = z.2
          rw [if_neg fun e => nd.1 (by rw [h, ← e]; exact List.mem_map.mpr ⟨z, hz, rfl⟩)]
      | succ i =>
        have h : (ys.map (·.1))[i]? = some k := by simpa using h
        rw [List.map_cons, List.map_cons, List.set_cons_succ]
        congr 1
        · show (if y.1 = k then (y.1, v) else y).2 = y.2
          rw [if_neg fun e => nd.1 (by rw [e]; exact List.mem_of_getElem? h)]
        · exact ih nd.2 h
section
variable {K : PySem.W.Frag} {G : Gm} {Mu Mu1 Mu2 Mu3 : Mm} {td ty tx : TE} {ks : List Key} {ts : List TV} {t : TV} {z : Str} {i j : Nat}
theorem ev_rget (hd : EvV K td G Mu Mu1 (.cell j)) (hm : Mu1[j]? = some (some (mRd ks ts))) (nd : ks.Nodup) (hi : ks[i]? = some (.inr z)) (ht : ts[i]? = some t) : EvV K (tDGet td (tC (.str z))) G Mu Mu1 (.val t) := fun B σ S ls H Q sl hs q =>
  hd B σ S ls H _ sl hs fun u S1 l1 H1 a1 b1 c1 d1 => by
    obtain ⟨p, ep, ex⟩ := d1
    subst ex
    obtain ⟨p2, o2, g1, _, g3, ⟨ys, go, gz, gk, gr⟩⟩ := c1.cell j _ hm
    rw [ep] at g1
    cases g1
    subst go
    obtain ⟨v, f1, f2⟩ := Paired.get2 gr ht
    have e := rd_get (k := .inr z) (by rw [gk]; exact nd) (by rw [gk]; exact hi) f1
    have g := DGet.k (k := .inr z) g3
    rw [e] at g
    exact ⟨p, v, rfl, g, q v S1 l1 H1 a1 b1 c1 f2⟩
theorem eb_rput {ω : Type} {np : Nat} {κ' : ω → OS} {m : Mr ω} {u : TS} (hx : EvV K tx G Mu Mu1 (.val t)) (hd : EvV K td G Mu1 Mu2 (.cell j)) (hm : Mu2[j]? = some (some (mRd ks ts))) (nd : ks.Nodup) (hi : ks[i]? = some (.inr z)) (hl : Nat.blt ts.length 16777216 = true)
    (r : EvB K np u G (Mu2.set j (some (mRd ks (ts.set i t)))) κ' m) : EvB K np (tSeq (sDPut td (tC (.str z)) tx) u) G Mu κ' m := fun B σ S ls H D w hn sl hs e q =>
  hx B σ S ls H _ sl hs fun y S1 l1 H1 a1 b1 c1 d1 => hd B σ S1 l1 H1 _ (sl.mono a1 b1) c1 fun v S2 l2 H2 a2 b2 c2 d2 => by
    obtain ⟨p, ep, ex⟩ := d2
    subst ex
    obtain ⟨p2, o2, g1, _, g3, ⟨ys, go, gz, gk, gr⟩⟩ := c2.cell j _ hm
    rw [ep] at g1
    cases g1
    subst go
    have hlt : ys.length < sizeLine := by
      have := Paired.length gr
      rw [List.length_map] at this
      rw [this, sizeLine_eq]
      have := Nat.le_of_ble_eq_true hl
      omega
    obtain ⟨q1, q2⟩ := rd_put (k := .inr z) (v := y) (ys := ys) (i := i) (by rw [gk]; exact nd) (by rw [gk]; exact hi)
    refine ⟨p, _, rfl, DPut.k (k := .inr z) (v := y) g3 hlt, ?_⟩
    refine r B σ S2 l2 _ D w hn ((sl.mono a1 b1).mono a2 b2) (c2.write hm ep ⟨_, rfl, ?_, q1.trans gk, ?_⟩) e (q.mono (a1.trans a2) (b1.trans b2))
    · exact Nat.le_trans (length_putK _ _ _) hlt
    · rw [q2]
      exact Paired.set (F := fun v (t : TV) => t.p K S2 v) (t.mono a2 d1) i gr
/-- {'a': x, ..} -/
def EvP (K : PySem.W.Frag) (trs : List (TE × TE)) (G : Gm) (Mu Mu' : Mm) (zs : List Str) (ts : List TV) : Prop :=
  ∀ B σ S ls H (Q : List (V × V) → Hp → Prop), Sl K S ls σ G → HS K B S ls Mu H → (∀ vs S' ls' H', Same S S' → Pre ls ls' → HS K B S' ls' Mu' H' → AllT K S' vs ts → zs.length = vs.length → Q ((zs.map V.str).zip vs) H') → tPairs trs σ H Q
theorem ep_nil : EvP K [] G Mu Mu [] [] := fun B σ S ls H Q sl hs q => q [] S ls H (Same.refl _) (Pre.refl _) hs .nil rfl
theorem ep_cons {trs : List (TE × TE)} {zs : List Str} (h : EvV K tx G Mu Mu1 (.val t)) (r : EvP K trs G Mu1 Mu2 zs ts) : EvP K ((tC (.str z), tx) :: trs) G Mu Mu2 (z :: zs) (t :: ts) := fun B σ S ls H Q sl hs q =>
  h B σ S ls H _ sl hs fun v S1 l1 H1 a1 b1 c1 d1 => r B σ S1 l1 H1 _ (sl.mono a1 b1) c1 fun vs S2 l2 H2 a2 b2 c2 d2 hl => q (v :: vs) S2 l2 H2 (a1.trans a2) (b1.trans b2) c2 (.cons (t.mono a2 d1) d2) (congrArg (· + 1) hl)
theorem merge_app : ∀ (more kvs : List (Key × V)), ((kvs ++ more).map (fun p : Key × V => p.1)).Nodup → mergeK kvs more = kvs ++ more
  | [], kvs, _ => by simp [mergeK]
  | y :: more, kvs, nd => by
    have e : putK kvs y.1 y.2 = kvs ++ [y] := by
      have hn : valV kvs y.1 = none := by
        cases h : valV kvs y.1 with
        | none => rfl
        | some v =>
          exfalso
          have h1 := valV_any y.1 kvs
          rw [h] at h1
          have h1 : (kvs.any fun kv => decide (kv.1 = y.1)) = true := h1
          rw [List.any_eq_true] at h1
          obtain ⟨x, hx, ex⟩ := h1
          rw [List.map_append, List.nodup_append] at nd
          exact nd.2.2 x.1 (List.mem_map.mpr ⟨x, hx, rfl⟩) y.1 (by simp) (of_decide_eq_true ex)
      exact putK_new y.2 hn
    show mergeK (putK kvs y.1 y.2) more = _
    rw [e, merge_app more (kvs ++ [y]) (by rw [List.append_assoc]; exact nd), List.append_assoc]
    rfl
theorem zip_keys : ∀ (zs : List Str) (vs : List V), zs.length = vs.length → ((zs.map V.str).zip vs = ((zs.map (fun z : Str => (Sum.inr z : Key))).zip vs).map fun kv => (kV kv.1, kv.2)) ∧ ((zs.map (fun z : Str => (Sum.inr z : Key))).zip vs).map (fun p : Key × V => p.1) = zs.map (fun z : Str => (Sum.inr z : Key)) ∧ ((zs.map (fun z : Str => (Sum.inr z : Key))).zip vs).map (fun p : Key × V => p.2) = vs
  | [], [], _ => ⟨rfl, rfl, rfl⟩
  | [], _ :: _, h => nomatch h
  | _ :: _, [], h => nomatch h
  | z :: zs, v :: vs, h => by
    obtain ⟨h1, h2, h3⟩ := zip_keys zs vs (by simpa using h)
    refine ⟨?_, ?_, ?_⟩
    · rw [List.map_cons, List.zip_cons_cons, List.map_cons, List.zip_cons_cons, List.map_cons, h1]
      rfl
    · rw [List.map_cons, List.zip_cons_cons, List.map_cons, h2]
    · rw [List.map_cons, List.zip_cons_cons, List.map_cons, h3]
theorem ef_rdisp {trs : List (TE × TE)} {zs : List Str} (h : EvP K trs G Mu Mu1 zs ts) (ek : ks = zs.map (fun z : Str => (Sum.inr z : Key))) (nd : ks.Nodup) (h15 : Nat.ble zs.length 15 = true) : EvF K (tDisp trs) G Mu Mu1 (mRd ks ts) := fun B σ S ls H Q sl hs q p hp => by
  obtain ⟨n1, n2, n3⟩ := hs.fresh hp
  have h1 : HS K B S ls Mu (upd H p (.dK [])) := hs.loose hp
  refine h ⟨upd H p (.dK []), S, ls⟩ σ S ls _ _ sl h1.start fun vs S2 l2 H2 a2 b2 c2 d2 hl => ?_
  have e2 : H2 p = some (.dK []) := c2.fr p _ upd_same n2
  have m1 : S2 p = none := by
    cases e : S2 p with
    | none => rfl
    | some o =>
      rcases c2.new p o e with z | z | z
      · have z : S p = some o := z
        rw [n1] at z
        cases z
      · have z : upd H p (.dK []) p = none := z
        rw [upd_same] at z
        cases z
      · exact absurd z n2
  have m2 : p ∉ l2 := fun z => by
    rcases c2.lsn p z with y | y
    · have y : upd H p (.dK []) p = none := y
      rw [upd_same] at y
      cases y
    · exact n2 y
  have hb : HS K B S2 l2 Mu1 H2 := h1.back c2
  obtain ⟨z1, z2, z3⟩ := zip_keys zs vs hl
  have h15 := Nat.le_of_ble_eq_true h15
  have hlen : ((zs.map (fun z : Str => (Sum.inr z : Key))).zip vs).length ≤ 15 := by
    rw [List.length_zip, List.length_map]
    omega
  refine ⟨e2, _, z1, hlen, ?_⟩
  refine q p _ S2 l2 _ a2 b2 (hb.scr m1 m2 n3) upd_same m1 m2 n3 ⟨(zs.map (fun z : Str => (Sum.inr z : Key))).zip vs, ?_, ?_, by rw [z2, ek], by rw [z3]; exact d2⟩
  · rw [merge_app _ [] (by rw [List.nil_append, z2, ← ek]; exact nd)]
    rfl
  · rw [sizeLine_eq]
    omega
end
/-! ### pop, max, min of lists -/
section
variable {K : PySem.W.Frag} {G : Gm} {Mu Mu1 Mu2 Mu3 : Mm} {to te : TE} {s : SV} {ts : List TV} {t : TV} {j : Nat} {k : Knd} {α : Type} {R : Rep α} {xs ys : List α} {x : α} {i r : Int}
theorem paired_erase {F : V → TV → Prop} : ∀ {a : List V} {b : List TV} (n : Nat), Paired F a b → Paired F (a.eraseIdx n) (b.eraseIdx n)
  | _, _, _, .nil => .nil
  | _, _, 0, .cons _ t => t
  | _, _, n + 1, .cons q t => .cons q (paired_erase n t)
theorem erase_map {f : α → TV} : ∀ (xs : List α) (n : Nat), (xs.map f).eraseIdx n = (xs.eraseIdx n).map f
  | [], _ => rfl
  | _ :: _, 0 => rfl
  | x :: xs, n + 1 => congrArg (f x :: ·) (erase_map xs n)
theorem popI_ok (h : popI xs i = .ok (x, ys)) : ∃ n, ixN xs.length i = some n ∧ xs[n]? = some x ∧ ys = xs.eraseIdx n := by
  unfold popI at h
  split at h
  · rename_i n e
    split at h
    · rename_i y e2
      cases h
      exact ⟨n, e, e2, rfl⟩
    · cases h
  · cases h
/-- o.pop(i) -/
theorem ev_popAt {ts1 : List TV} (ho : EvV K to G Mu Mu1 (.cell j)) (hk1 : Mu1[j]? = some (some (mL ts1))) (he : EvV K te G Mu1 Mu2 (vI i)) (hk : Mu2[j]? = some (some (mL (xs.map (tv R))))) (h : popI xs i = .ok (x, ys)) :
    EvV K (tBM K "list" rPopAt to (tCons te tNil)) G Mu (Mu2.set j (some (mL (ys.map (tv R))))) (.val (tv R x)) := fun B σ S ls H Q sl hs q =>
  ho B σ S ls H _ sl hs fun x' S1 l1 H1 a1 b1 c1 d1 => by
    obtain ⟨p, ep, ex⟩ := d1
    subst ex
    obtain ⟨p', o, f1, _, f3, ⟨vs, fo, _, _⟩⟩ := c1.cell j _ hk1
    rw [ep] at f1
    cases f1
    subst fo
    refine ⟨.inl ⟨rfl, vs, SqL.of f3⟩, ?_⟩
    refine he B σ S1 l1 H1 _ (sl.mono a1 b1) c1 fun y S2 l2 H2 a2 b2 c2 d2 => ?_
    obtain ⟨p2, o2, g1, _, g3, ⟨vs2, go, gz, gr⟩⟩ := c2.cell j _ hk
    rw [b2.get ep] at g1
    cases g1
    subst go
    obtain ⟨n, e1, e2, e3⟩ := popI_ok h
    subst e3
    have hlen : vs2.length = xs.length := by rw [Paired.length gr, List.length_map]
    obtain ⟨q1, q2, q3, q4⟩ := ixN_seq e1
    obtain ⟨w, w1, w2⟩ := Paired.get2 gr (i := n) (y := tv R x) (by rw [List.getElem?_map, e2]; rfl)
    have hz : vs2.length ≤ 16777216 := by rw [sizeLine_eq] at gz; exact gz
    refine ⟨p, vs2, i, n, w, rfl, congrArg (fun z => [z]) d2, g3, by omega, by omega, by rw [hlen]; exact q1, w1, ?_⟩
    refine q w S2 l2 _ (a1.trans a2) (b1.trans b2) (c2.write hk (b2.get ep) ⟨vs2.eraseIdx n, rfl, Nat.le_trans (List.length_eraseIdx_le ..) gz, ?_⟩) w2
    have := paired_erase n gr
    have em : (xs.map (tv R)).eraseIdx n = (xs.eraseIdx n).map (tv R) := by
      exact erase_map xs n
    rw [← em]
    exact this
theorem all_ints {S : Hp} : ∀ {vs : List V} {ns : List Int}, AllT K S vs (ns.map (tv rInt)) → vs = ns.map V.int
  | [], [], _ => rfl
  | [], _ :: _, h => nomatch h
  | _ :: _, [], h => nomatch h
  | v :: vs, n :: ns, .cons r t => by
    have r : v = .int n := r
    rw [r, all_ints t]
    rfl
theorem foldMax : ∀ (ns : List Int) (a : Int), (ns.foldl (fun a b => if b > a then b else a) a = a ∨ ns.foldl (fun a b => if b > a then b else a) a ∈ ns) ∧ a ≤ ns.foldl (fun a b => if b > a then b else a) a ∧ ∀ y ∈ ns, y ≤ ns.foldl (fun a b => if b > a then b else a) a
  | [], a => ⟨.inl rfl, Int.le_refl _, fun _ h => nomatch h⟩
  | b :: ns, a => by
    obtain ⟨h1, h2, h3⟩ := foldMax ns (if b > a then b else a)
    have hb : b ≤ (if b > a then b else a) := by split <;> omega
    have ha : a ≤ (if b > a then b else a) := by split <;> omega
    refine ⟨?_, Int.le_trans ha h2, fun y hy => ?_⟩
    · rw [List.foldl_cons]
      rcases h1 with h1 | h1
      · rw [h1]
        split
        · exact .inr (List.mem_cons_self ..)
        · exact .inl rfl
      · exact .inr (List.mem_cons_of_mem _ h1)
    · rw [List.foldl_cons]
      rcases List.mem_cons.mp hy with e | hy
      · subst e
        exact Int.le_trans hb h2
      · exact h3 y hy
theorem foldMin : ∀ (ns : List Int) (a : Int), (ns.foldl (fun a b => if b < a then b else a) a = a ∨ ns.foldl (fun a b => if b < a then b else a) a ∈ ns) ∧ ns.foldl (fun a b => if b < a then b else a) a ≤ a ∧ ∀ y ∈ ns, ns.foldl (fun a b => if b < a then b else a) a ≤ y
  | [], a => ⟨.inl rfl, Int.le_refl _, fun _ h => nomatch h⟩
  | b :: ns, a => by
    obtain ⟨h1, h2, h3⟩ := foldMin ns (if b < a then b else a)
    have hb : (if b < a then b else a) ≤ b := by split <;> omega
    have ha : (if b < a then b else a) ≤ a := by split <;> omega
    refine ⟨?_, Int.le_trans h2 ha, fun y hy => ?_⟩
    · rw [List.foldl_cons]
      rcases h1 with h1 | h1
      · rw [h1]
        split
        · exact .inr (List.mem_cons_self ..)
        · exact .inl rfl
      · exact .inr (List.mem_cons_of_mem _ h1)
    · rw [List.foldl_cons]
      rcases List.mem_cons.mp hy with e | hy
      · subst e
        exact Int.le_trans h2 hb
      · exact h3 y hy
theorem rc_maxL {ns : List Int} (h : IsSq K Mu s k (ns.map (tv rInt))) (e : maxL ns = .ok r) (hk : k.isL = true := by rfl) : Rc K (rMax K) Mu Mu [s] (vI r) := rc_same fun B S ls H vs Q hs ha q => by
  cases ha with
  | cons r0 r1 =>
    cases r1
    obtain ⟨p, ws, ep, sq, l, rr⟩ := h B S ls H _ hs r0
    subst ep
    have ew := all_ints rr
    subst ew
    cases ns with
    | nil => cases e
    | cons n ns =>
      obtain ⟨h1, h2, h3⟩ := foldMax ns n
      refine ⟨p, n :: ns, rfl, SqK.seq sq hk, Nat.zero_lt_succ _, fun m hm hy => ?_⟩
      have em : m = ns.foldl (fun a b => if b > a then b else a) n := by
        apply Int.le_antisymm
        · rcases List.mem_cons.mp hm with e | hm
          · rw [e]
            exact h2
          · exact h3 m hm
        · rcases h1 with h1 | h1
          · rw [h1]
            exact hy n (List.mem_cons_self ..)
          · exact hy _ (List.mem_cons_of_mem _ h1)
      unfold maxL at e
      cases e
      exact q _ (congrArg V.int em)
theorem rc_minL {ns : List Int} (h : IsSq K Mu s k (ns.map (tv rInt))) (e : minL ns = .ok r) (hk : k.isL = true := by rfl) : Rc K (rMin K) Mu Mu [s] (vI r) := rc_same fun B S ls H vs Q hs ha q => by
  cases ha with
  | cons r0 r1 =>
    cases r1
    obtain ⟨p, ws, ep, sq, l, rr⟩ := h B S ls H _ hs r0
    subst ep
    have ew := all_ints rr
    subst ew
    cases ns with
    | nil => cases e
    | cons n ns =>
      obtain ⟨h1, h2, h3⟩ := foldMin ns n
      refine ⟨p, n :: ns, rfl, SqK.seq sq hk, Nat.zero_lt_succ _, fun m hm hy => ?_⟩
      have em : m = ns.foldl (fun a b => if b < a then b else a) n := by
        apply Int.le_antisymm
        · rcases h1 with h1 | h1
          · rw [h1]
            exact hy n (List.mem_cons_self ..)
          · exact hy _ (List.mem_cons_of_mem _ h1)
        · rcases List.mem_cons.mp hm with e | hm
          · rw [e]
            exact h2
          · exact h3 m hm
      unfold minL at e
      cases e
      exact q _ (congrArg V.int em)
end
section
variable {X : Cx} {K : PySem.W.Frag}
theorem kMaxL (hc : X.calm = true) (h : X.K = K := by rfl) : CallR X (.builtin "max") (rMax K) := h ▸ cr_max hc
theorem kMinL (hc : X.calm = true) (h : X.K = K := by rfl) : CallR X (.builtin "min") (rMin K) := h ▸ cr_min hc
end
/-! ### constants of the module -/
theorem pe_gcT {X : Cx} {x : Str} {pos : Pos} {v : V} (hg : Gl X x) (h : ∃ u, X.mg x = some u ∧ RelV v u) (hd : (x == ("__debug__" : Str)) = false := by decide) : PE X (.Name x pos) (tC v) := by
  obtain ⟨u, h1, h2⟩ := h
  exact pe_glob hg h1 h2 hd
theorem ev_tupC {K : PySem.W.Frag} {G : Gm} {Mu : Mm} {α : Type} {R : Rep α} {xs : List α} {x : Str} {vs : List He.Dv} (h : He.tupB K x vs = true) (r : ∀ S, AllT K S (vs.map (He.Dv.v K)) (xs.map (tv R))) (hl : Nat.ble vs.length 1000 = true := by rfl) :
    EvV K (tC (.ref (He.ga K x))) G Mu Mu (.val (tv (rSq .c R) xs)) := ev_c fun S ls => ⟨_, _, rfl, He.tupB_ok h S, by
  have hl := Nat.le_of_ble_eq_true hl
  rw [List.length_map, sizeLine_eq]
  omega, r S⟩
/-! ### targets of four -/
theorem eg_tup4 {K : PySem.W.Frag} {G : Gm} {α β γ δ : Type} {A : Rep α} {B' : Rep β} {C : Rep γ} {D' : Rep δ} {i j m n : Nat} {x : α × β × γ × δ} : EvG K (gTup K 4 (gCons (gName i) (gCons (gName j) (gCons (gName m) (gCons (gName n) gNil))))) (.val (tv (rP4 A B' C D') x)) G ((((G.set i (some (.val (tv A x.1)))).set j (some (.val (tv B' x.2.1)))).set m (some (.val (tv C x.2.2.1)))).set n (some (.val (tv D' x.2.2.2)))) := fun B v σ S ls Mu H Q r sl hs q => by
  obtain ⟨p, vs, e, sq, l, rr⟩ := r
  have sq : SqT K S p vs := SqT.of sq
  cases rr with
  | cons r0 rr => cases rr with
    | cons r1 rr => cases rr with
      | cons r2 rr => cases rr with
        | cons r3 rr =>
          cases rr
          exact ⟨p, _, e, same_seqT hs.ex sq, rfl, _, _, rfl, _, _, rfl, _, _, rfl, _, _, rfl, rfl, q _ (Sl.set (s := .val (tv D' x.2.2.2)) (Sl.set (s := .val (tv C x.2.2.1)) (Sl.set (s := .val (tv B' x.2.1)) (Sl.set (s := .val (tv A x.1)) sl r0) r1) r2) r3)⟩
end TL

/-! mirrors of k18, printed by gen.py -/
namespace K18
open TL
structure Bag where
  cells : List Int
  at_ : Int
  rest : Int
  left : Int
  turn : Int
def m_law_bag (script : List Int) : Mr Bag :=
  (.ok ((cut script none (some (63 : Int))).map fun (x1 : Int) => x1) : Mr (List Int)) >>= fun cells2 =>
  (if (cells2 == ([] : List Int)) = true then
  (.ok ([(0 : Int)] : List Int) : Mr (List Int)) >>= fun cells3 =>
  .ok (.go cells3)
  else
  .ok (.go cells2)) >>= Jn.k fun (s4 : List Int) =>
  .ok (Bag.mk s4 (0 : Int) (0 : Int) (0 : Int) (0 : Int))

def m_law_mixed (cell : Int) (at_ : Int) (turn : Int) : Mr Int :=
  (.ok (cell % (2147483647 : Int)) : Mr Int) >>= fun number1 =>
  (.ok (((((number1 * (48271 : Int)) + (turn * (69621 : Int))) + (at_ * (16807 : Int))) + (11 : Int)) % (2147483647 : Int)) : Mr Int) >>= fun first2 =>
  mulP first2 first2 >>= fun r3 =>
  (.ok (((r3 + (turn * (40692 : Int))) + number1) % (2147483399 : Int)) : Mr Int) >>= fun second4 =>
  mulP second4 second4 >>= fun r5 =>
  (.ok ((r5 + first2) % (2147483563 : Int)) : Mr Int) >>= fun third6 =>
  .ok (third6 / (19 : Int))

def m_law_take (bag : Bag) (size : Int) : Mr (Int × Bag) :=
  (if ((decide (bag.left = (0 : Int))) || (decide (bag.rest = (0 : Int)))) = true then
  modP bag.at_ (bag.cells.length : Int) >>= fun r1 =>
  getI bag.cells r1 >>= fun r2 =>
  (if ((decide ((bag.cells.length : Int) ≤ bag.at_)) || (decide (r2 < ((10 : Int) ^ 18)))) = true then
  m_law_mixed r2 bag.at_ (bag.turn + (1 : Int)) >>= fun r3 =>
  modP r3 size >>= fun r4 =>
  .ok (.out (r4, (Bag.mk bag.cells (bag.at_ + (1 : Int)) bag.rest bag.left (bag.turn + (1 : Int)))))
  else
  mulP ((10 : Int) ^ 60) ((10 : Int) ^ 40) >>= fun r5 =>
  modP r2 r5 >>= fun r6 =>
  .ok (.go (Bag.mk bag.cells (bag.at_ + (1 : Int)) r6 (40 : Int) (bag.turn + (1 : Int)))))
  else
  .ok (.go (Bag.mk bag.cells bag.at_ bag.rest bag.left (bag.turn + (1 : Int))))) >>= Jn.k fun (s7 : Bag) =>
  modP s7.rest size >>= fun r8 =>
  fdivP s7.rest size >>= fun r9 =>
  .ok (r8, (Bag.mk s7.cells s7.at_ r9 (s7.left - (1 : Int)) s7.turn))

def m_law_row (bag : Bag) (size : Int) (far : Bool) (steady : Int) : Mr ((List Int) × Bag) :=
  m_law_take bag (3 : Int) >>= fun r1 =>
  (.ok ([(0 : Int), (1 : Int), (2 : Int), r1.1, r1.1, r1.1, r1.1] : List Int) : Mr (List Int)) >>= fun menu2 =>
  (if (!far) = true then
  rngP (0 : Int) size >>= fun r3 =>
  sizeP (rngI (0 : Int) size) >>= fun r4 =>
  mapS (fun (s8 : Bag) (x5 : Int) => m_law_take s8 (7 : Int) >>= fun r9 => getI menu2 r9.1 >>= fun r10 => .ok (r10, r9.2)) (rngI (0 : Int) size) r1.2 >>= fun r11 =>
  .ok (r11.1, r11.2)
  else
  m_law_take r1.2 (6 : Int) >>= fun r15 =>
  (.ok ((1 : Int) + r15.1) : Mr Int) >>= fun many16 =>
  rngP (0 : Int) many16 >>= fun r17 =>
  sizeP (rngI (0 : Int) many16) >>= fun r18 =>
  mapS (fun (s22 : Bag) (x19 : Int) => m_law_take s22 (7 : Int) >>= fun r23 => getI menu2 r23.1 >>= fun r24 => .ok (r24, r23.2)) (rngI (0 : Int) many16) r15.2 >>= fun r25 =>
  (if (decide ((0 : Int) ≤ steady)) = true then
  rngP (0 : Int) many16 >>= fun r29 =>
  sizeP (rngI (0 : Int) many16) >>= fun r30 =>
  (.ok ((rngI (0 : Int) many16).map fun (x31 : Int) => steady) : Mr (List Int)) >>= fun pattern32 =>
  .ok (.go pattern32)
  else
  .ok (.go r25.1)) >>= Jn.k fun (s33 : List Int) =>
  rngP (0 : Int) size >>= fun r34 =>
  sizeP (rngI (0 : Int) size) >>= fun r35 =>
  mapR (fun (x36 : Int) => modP x36 many16 >>= fun r37 => getI s33 r37 >>= fun r38 => .ok r38) (rngI (0 : Int) size) >>= fun r39 =>
  m_law_take r25.2 (5 : Int) >>= fun r42 =>
  rngP (0 : Int) r42.1 >>= fun r43 =>
  forL (rngI (0 : Int) r42.1) (r42.2, r39) (fun (s44 : Bag × (List Int)) (x45 : Int) =>
  m_law_take s44.1 size >>= fun r46 =>
  m_law_take r46.2 (3 : Int) >>= fun r47 =>
  setI s44.2 r46.1 r47.1 >>= fun r48 =>
  .ok (.go (r47.2, r48))) >>= Stp.k fun (s44 : Bag × (List Int)) =>
  .ok (s44.2, s44.1))

def m_law_known (atoms : List Int) (rows : List (List Int)) : Mr (List ((Int × Int) × Bool)) :=
  rngP (0 : Int) (atoms.length : Int) >>= fun r2 =>
  forL (rngI (0 : Int) (atoms.length : Int)) ([] : List ((Int × Int) × Bool)) (fun (s3 : List ((Int × Int) × Bool)) (x4 : Int) =>
  getI rows x4 >>= fun r5 =>
  rngP (0 : Int) (r5.length : Int) >>= fun r6 =>
  forL (rngI (0 : Int) (r5.length : Int)) s3 (fun (s7 : List ((Int × Int) × Bool)) (x8 : Int) =>
  getI rows x4 >>= fun r9 =>
  getI r9 x8 >>= fun r10 =>
  (if (!decide (r10 = (1 : Int))) = true then
  getI rows x4 >>= fun r11 =>
  getI r11 x8 >>= fun r12 =>
  getI atoms x4 >>= fun r13 =>
  growOk s7 >>= fun r14 =>
  .ok (.go (dput s7 (x8, r13) (decide (r12 = (2 : Int)))))
  else
  .ok (.go s7))) >>= Stp.k fun (s7 : List ((Int × Int) × Bool)) =>
  .ok (.go s7)) >>= Stp.k fun (s3 : List ((Int × Int) × Bool)) =>
  .ok s3

def m_law_same (value : Option Bool) (due : Int) : Mr Bool :=
  (if (decide (due = (1 : Int))) = true then
  .ok value.isNone
  else
  (if (decide (due = (2 : Int))) = true then
  getO value >>= fun r1 =>
  .ok (decide (r1 = true))
  else
  getO value >>= fun r2 =>
  .ok (decide (r2 = false))))

def m_rank (atom : Int) (day : Int) (known : List ((Int × Int) × Bool)) : Mr Int :=
  (if (decide (day < (0 : Int))) = true then
  .ok (0 : Int)
  else
  (.ok (dget known (day, atom)) : Mr (Option Bool)) >>= fun value1 =>
  (if value1.isNone = true then
  .ok (1 : Int)
  else
  getO value1 >>= fun r2 =>
  .ok (if r2 = true then (2 : Int) else (0 : Int))))

def m_carried_rank (form : List Nat) (first : Int) (second : Int) (day : Int) (known : List ((Int × Int) × Bool)) : Mr Int :=
  (.ok (0 : Int) : Mr Int) >>= fun found1 =>
  (.ok (2 : Int) : Mr Int) >>= fun rest2 =>
  rngP day (-1 : Int) >>= fun r3 =>
  forL (rngD day (-1 : Int)) (found1, rest2) (fun (s4 : Int × Int) (x5 : Int) =>
  (if (decide (form = [115, 105, 110, 99, 101])) = true then
  m_rank second x5 known >>= fun r6 =>
  m_rank first x5 known >>= fun r7 =>
  .ok (.go (r6, r7))
  else
  m_rank first x5 known >>= fun r8 =>
  m_rank second x5 known >>= fun r9 =>
  (.ok ((2 : Int) - r9) : Mr Int) >>= fun keep10 =>
  .ok (.go (r8, keep10))) >>= Jn.k fun (s11 : Int × Int) =>
  (.ok (if (if s11.1 < s4.2 then s11.1 else s4.2) > s4.1 then (if s11.1 < s4.2 then s11.1 else s4.2) else s4.1) : Mr Int) >>= fun found12 =>
  (.ok (if s11.2 < s4.2 then s11.2 else s4.2) : Mr Int) >>= fun rest13 =>
  (if (decide (rest13 ≤ found12)) = true then
  .ok (.out found12)
  else
  .ok (.go (found12, rest13)))) >>= Stp.k fun (s4 : Int × Int) =>
  .ok s4.1

def m_known_value (condition : (List Nat) × Int × Int × Bool) (day : Int) (known : List ((Int × Int) × Bool)) : Mr (Option Bool) :=
  (if (decide (condition.1 = [111, 110])) = true then
  modP day condition.2.1 >>= fun r1 =>
  (.ok (if (decide (r1 = condition.2.2.1)) = true then (2 : Int) else (0 : Int)) : Mr Int) >>= fun rank2 =>
  .ok (.go rank2)
  else
  (if (decide (condition.1 = [97, 116])) = true then
  m_rank condition.2.1 (day - condition.2.2.1) known >>= fun r3 =>
  .ok (.go r3)
  else
  (if (decide (condition.1 = [119, 105, 116, 104, 105, 110])) = true then
  rngP (0 : Int) condition.2.2.1 >>= fun r4 =>
  sizeP (rngI (0 : Int) condition.2.2.1) >>= fun r5 =>
  mapR (fun (x6 : Int) => m_rank condition.2.1 (day - x6) known >>= fun r7 => .ok r7) (rngI (0 : Int) condition.2.2.1) >>= fun r8 =>
  maxL r8 >>= fun r11 =>
  .ok (.go r11)
  else
  (if (decide (condition.1 = [116, 104, 114, 111, 117, 103, 104])) = true then
  rngP (0 : Int) condition.2.2.1 >>= fun r12 =>
  sizeP (rngI (0 : Int) condition.2.2.1) >>= fun r13 =>
  mapR (fun (x14 : Int) => m_rank condition.2.1 (day - x14) known >>= fun r15 => .ok r15) (rngI (0 : Int) condition.2.2.1) >>= fun r16 =>
  minL r16 >>= fun r19 =>
  .ok (.go r19)
  else
  m_carried_rank condition.1 condition.2.1 condition.2.2.1 day known >>= fun r20 =>
  .ok (.go r20))))) >>= Jn.k fun (s21 : Int) =>
  getI ([some false, none, some true] : List (Option Bool)) (if condition.2.2.2 = true then s21 else ((2 : Int) - s21)) >>= fun r22 =>
  .ok r22

def m_law_both (parts : (List Nat) × Int × Int) (day : Int) (known : List ((Int × Int) × Bool)) (due : Int) : Mr Bool :=
  m_known_value (parts.1, parts.2.1, parts.2.2, true) day known >>= fun r1 =>
  m_law_same r1 due >>= fun r2 =>
  (if (!r2) = true then
  .ok false
  else
  m_known_value (parts.1, parts.2.1, parts.2.2, false) day known >>= fun r3 =>
  m_law_same r3 ((2 : Int) - due) >>= fun r4 =>
  .ok r4)

def m_law_on (bag : Bag) (day : Int) (known : List ((Int × Int) × Bool)) : Mr (Bool × Bag) :=
  m_law_take bag (6 : Int) >>= fun r1 =>
  (.ok ((1 : Int) + r1.1) : Mr Int) >>= fun every2 =>
  m_law_take r1.2 (4 : Int) >>= fun r3 =>
  (if (decide (r3.1 = (0 : Int))) = true then
  m_law_take r3.2 (1000 : Int) >>= fun r4 =>
  (.ok ((1 : Int) + r4.1) : Mr Int) >>= fun every5 =>
  .ok (.go (every5, r4.2))
  else
  .ok (.go (every2, r3.2))) >>= Jn.k fun (s6 : Int × Bag) =>
  modP day s6.1 >>= fun r7 =>
  m_law_take s6.2 (2 : Int) >>= fun r8 =>
  (if (decide (r8.1 = (0 : Int))) = true then
  m_law_take r8.2 s6.1 >>= fun r9 =>
  .ok (.go (r9.1, r9.2))
  else
  .ok (.go (r7, r8.2))) >>= Jn.k fun (s10 : Int × Bag) =>
  modP day s6.1 >>= fun r11 =>
  m_law_both ([111, 110], s6.1, s10.1) day known ((2 : Int) * (if (decide (r11 = s10.1)) = true then 1 else 0)) >>= fun r12 =>
  .ok (r12, s10.2)

def m_law_worth (row : List Int) (when : Int) : Mr Int :=
  (if (decide (when < (0 : Int))) = true then
  .ok (0 : Int)
  else
  getI row when >>= fun r1 =>
  .ok r1)

def m_law_due (form : List Nat) (first : List Int) (second : List Int) (many : Int) (day : Int) : Mr Int :=
  (if (decide (form = [97, 116])) = true then
  m_law_worth first (day - many) >>= fun r1 =>
  .ok r1
  else
  (if (decide (form = [119, 105, 116, 104, 105, 110])) = true then
  rngP (0 : Int) many >>= fun r2 =>
  sizeP (rngI (0 : Int) many) >>= fun r3 =>
  mapR (fun (x4 : Int) => m_law_worth first (day - x4) >>= fun r5 => .ok r5) (rngI (0 : Int) many) >>= fun r6 =>
  maxL r6 >>= fun r9 =>
  .ok r9
  else
  (if (decide (form = [116, 104, 114, 111, 117, 103, 104])) = true then
  rngP (0 : Int) many >>= fun r10 =>
  sizeP (rngI (0 : Int) many) >>= fun r11 =>
  mapR (fun (x12 : Int) => m_law_worth first (day - x12) >>= fun r13 => .ok r13) (rngI (0 : Int) many) >>= fun r14 =>
  minL r14 >>= fun r17 =>
  .ok r17
  else
  (.ok (0 : Int) : Mr Int) >>= fun due18 =>
  (.ok (2 : Int) : Mr Int) >>= fun bar19 =>
  rngP (0 : Int) (day + (1 : Int)) >>= fun r20 =>
  forL (rngI (0 : Int) (day + (1 : Int))) (due18, bar19) (fun (s21 : Int × Int) (x22 : Int) =>
  (if (decide (form = [115, 105, 110, 99, 101])) = true then
  getI second (day - x22) >>= fun r23 =>
  (.ok (if (if s21.2 < r23 then s21.2 else r23) > s21.1 then (if s21.2 < r23 then s21.2 else r23) else s21.1) : Mr Int) >>= fun due24 =>
  getI first (day - x22) >>= fun r25 =>
  (.ok (if r25 < s21.2 then r25 else s21.2) : Mr Int) >>= fun bar26 =>
  .ok (.go (due24, bar26))
  else
  getI first (day - x22) >>= fun r27 =>
  (.ok (if (if s21.2 < r27 then s21.2 else r27) > s21.1 then (if s21.2 < r27 then s21.2 else r27) else s21.1) : Mr Int) >>= fun due28 =>
  getI second (day - x22) >>= fun r29 =>
  (.ok (if ((2 : Int) - r29) < s21.2 then ((2 : Int) - r29) else s21.2) : Mr Int) >>= fun bar30 =>
  .ok (.go (due28, bar30)))) >>= Stp.k fun (s21 : Int × Int) =>
  .ok s21.1)))

def m_law_asked (bag : Bag) (form : List Nat) (atoms : List Int) (rows : List (List Int)) (known : List ((Int × Int) × Bool)) (day : Int) : Mr (Bool × Bag) :=
  (if (decide (form = [111, 110])) = true then
  m_law_on bag day known >>= fun r1 =>
  .ok (r1.1, r1.2)
  else
  m_law_take bag (3 : Int) >>= fun r2 =>
  (if ((decide (form = [115, 105, 110, 99, 101])) || (decide (form = [104, 101, 108, 100]))) = true then
  m_law_take r2.2 (3 : Int) >>= fun r3 =>
  getI rows r2.1 >>= fun r4 =>
  getI rows r3.1 >>= fun r5 =>
  m_law_due form r4 r5 (0 : Int) day >>= fun r6 =>
  getI atoms r2.1 >>= fun r7 =>
  getI atoms r3.1 >>= fun r8 =>
  m_law_both (form, r7, r8) day known r6 >>= fun r9 =>
  .ok (r9, r3.2)
  else
  m_law_take r2.2 (6 : Int) >>= fun r10 =>
  (.ok ((1 : Int) + r10.1) : Mr Int) >>= fun many11 =>
  (if (decide (form = [97, 116])) = true then
  m_law_take r10.2 (7 : Int) >>= fun r12 =>
  .ok (.go (r12.1, r12.2))
  else
  .ok (.go (many11, r10.2))) >>= Jn.k fun (s13 : Int × Bag) =>
  getI rows r2.1 >>= fun r14 =>
  m_law_due form r14 ([] : List Int) s13.1 day >>= fun r15 =>
  getI atoms r2.1 >>= fun r16 =>
  m_law_both (form, r16, s13.1) day known r15 >>= fun r17 =>
  .ok (r17, s13.2)))

def m_law_still (known : List ((Int × Int) × Bool)) (atoms : List Int) (rows : List (List Int)) : Mr Bool :=
  (.ok (0 : Int) : Mr Int) >>= fun count1 =>
  rngP (0 : Int) (atoms.length : Int) >>= fun r2 =>
  forL (rngI (0 : Int) (atoms.length : Int)) count1 (fun (s3 : Int) (x4 : Int) =>
  getI rows x4 >>= fun r5 =>
  rngP (0 : Int) (r5.length : Int) >>= fun r6 =>
  forL (rngI (0 : Int) (r5.length : Int)) s3 (fun (s7 : Int) (x8 : Int) =>
  getI rows x4 >>= fun r9 =>
  getI r9 x8 >>= fun r10 =>
  (if (!decide (r10 = (1 : Int))) = true then
  (.ok (s7 + (1 : Int)) : Mr Int) >>= fun count11 =>
  getI atoms x4 >>= fun r12 =>
  getI rows x4 >>= fun r13 =>
  getI r13 x8 >>= fun r14 =>
  m_law_same (dget known (x8, r12)) r14 >>= fun r15 =>
  (if (!r15) = true then
  .ok (.out (.out false))
  else
  .ok (.go count11))
  else
  .ok (.go s7))) >>= Stp.k fun (s7 : Int) =>
  .ok (.go s7)) >>= Stp.k fun (s3 : Int) =>
  .ok (decide ((known.length : Int) = s3))

def m_law (script : List Int) : Mr Bool :=
  m_law_bag script >>= fun r1 =>
  (.ok (rngI 0 (64 : Int)) : Mr (List Int)) >>= fun pool2 =>
  (.ok ([] : List Int) : Mr (List Int)) >>= fun atoms3 =>
  forL (rngI (0 : Int) (3 : Int)) (r1, pool2, atoms3) (fun (s4 : Bag × (List Int) × (List Int)) (x5 : Int) =>
  m_law_take s4.1 (s4.2.1.length : Int) >>= fun r6 =>
  popI s4.2.1 r6.1 >>= fun r7 =>
  growOk s4.2.2 >>= fun r8 =>
  .ok (.go (r6.2, r7.2, (s4.2.2 ++ [r7.1])))) >>= Stp.k fun (s4 : Bag × (List Int) × (List Int)) =>
  m_law_take s4.1 (8 : Int) >>= fun r9 =>
  (.ok (decide (r9.1 = (3 : Int))) : Mr Bool) >>= fun far10 =>
  m_law_take r9.2 (10 : Int) >>= fun r11 =>
  (.ok ([(-1 : Int), (-1 : Int), (-1 : Int)] : List Int) : Mr (List Int)) >>= fun steady12 =>
  (if far10 = true then
  m_law_take r11.2 (5001 : Int) >>= fun r13 =>
  m_law_take r13.2 (2 : Int) >>= fun r14 =>
  (if (decide (r14.1 = (0 : Int))) = true then
  (.ok ([(2 : Int), (0 : Int), (-1 : Int)] : List Int) : Mr (List Int)) >>= fun steady15 =>
  .ok (.go (r13.1, steady15, r14.2))
  else
  .ok (.go (r13.1, steady12, r14.2)))
  else
  .ok (.go (r11.1, steady12, r11.2))) >>= Jn.k fun (s16 : Int × (List Int) × Bag) =>
  (.ok ([] : List (List Int)) : Mr (List (List Int))) >>= fun rows17 =>
  forL (rngI (0 : Int) (3 : Int)) (s16.2.2, rows17) (fun (s18 : Bag × (List (List Int))) (x19 : Int) =>
  getI s16.2.1 x19 >>= fun r20 =>
  m_law_row s18.1 (if (5001 : Int) < (s16.1 + (3 : Int)) then (5001 : Int) else (s16.1 + (3 : Int))) far10 r20 >>= fun r21 =>
  growOk s18.2 >>= fun r22 =>
  .ok (.go (r21.2, (s18.2 ++ [r21.1])))) >>= Stp.k fun (s18 : Bag × (List (List Int))) =>
  m_law_known s4.2.2 s18.2 >>= fun r23 =>
  (.ok ([[97, 116], [115, 105, 110, 99, 101], [104, 101, 108, 100], [119, 105, 116, 104, 105, 110], [116, 104, 114, 111, 117, 103, 104], [111, 110]] : List (List Nat)) : Mr (List (List Nat))) >>= fun forms24 =>
  m_law_take s18.1 (4 : Int) >>= fun r25 =>
  rngP (0 : Int) r25.1 >>= fun r26 =>
  forL (rngI (0 : Int) r25.1) (r25.2, forms24) (fun (s27 : Bag × (List (List Nat))) (x28 : Int) =>
  m_law_take s27.1 (6 : Int) >>= fun r29 =>
  getI s27.2 r29.1 >>= fun r30 =>
  growOk s27.2 >>= fun r31 =>
  .ok (.go (r29.2, (s27.2 ++ [r30])))) >>= Stp.k fun (s27 : Bag × (List (List Nat))) =>
  forL s27.2 s27.1 (fun (s32 : Bag) (x33 : List Nat) =>
  m_law_take s32 (3 : Int) >>= fun r34 =>
  (.ok (if (s16.1 - r34.1) > (0 : Int) then (s16.1 - r34.1) else (0 : Int)) : Mr Int) >>= fun when35 =>
  m_law_asked r34.2 x33 s4.2.2 s18.2 r23 when35 >>= fun r36 =>
  (if (!r36.1) = true then
  .ok (.out false)
  else
  .ok (.go r36.2))) >>= Stp.k fun (s32 : Bag) =>
  m_law_still r23 s4.2.2 s18.2 >>= fun r37 =>
  .ok r37

end K18

/-! the plain law of k18 -/
namespace K18
open TL
def BI (b : Bag) : Prop := 0 < b.cells.length
def DQ (size : Int) (r : Int × Bag) : Prop := (0 ≤ r.1 ∧ r.1 < size) ∧ BI r.2
theorem bag_ok (s : List Int) : Post (m_law_bag s) BI := by
  unfold m_law_bag
  refine post_bindE rfl ?_
  refine post_jn (A := fun (s : List Int) => 0 < s.length) (post_if (fun _ => post_bindE rfl (post_ok (show 0 < 1 by decide))) fun h => post_ok ?_) fun s4 h => post_ok h
  show 0 < List.length _
  rw [List.length_pos_iff]
  intro e
  rw [e] at h
  exact h rfl
theorem mixed_ok (c a t : Int) : Post (m_law_mixed c a t) fun _ => True := by
  unfold m_law_mixed
  refine post_bindE rfl (post_bindE rfl ?_)
  refine post_bindE (mulP_ok (by omega) (by omega) (by omega) (by omega)) ?_
  refine post_bindE rfl ?_
  refine post_bindE (mulP_ok (by omega) (by omega) (by omega) (by omega)) ?_
  exact post_bindE rfl (post_ok trivial)
theorem draw_ok {p : Bag} {size : Int} (h : BI p) (h1 : 0 < size) (h2 : size < 2 ^ 62) : Post (m_law_take p size) (DQ size) := by
  unfold m_law_take
  have h' : 0 < p.cells.length := h
  refine post_jn (A := BI) (post_if (fun _ => ?_) fun _ => post_ok h) fun s hs => ?_
  · refine post_bindE (modP_ok (by omega)) ?_
    refine post_bind (post_getI (Int.emod_nonneg _ (by omega)) (Int.emod_lt_of_pos _ (by omega))) fun r2 _ => ?_
    refine post_if (fun _ => ?_) fun _ => ?_
    · refine post_bind (mixed_ok _ _ _) fun r3 _ => ?_
      refine post_bindE (modP_ok h1) (post_ok ?_)
      exact ⟨⟨Int.emod_nonneg _ (by omega), Int.emod_lt_of_pos _ h1⟩, h⟩
    · refine post_bindE (a := (10 : Int) ^ 60 * (10 : Int) ^ 40) (if_pos (by decide +kernel)) ?_
      exact post_bindE (modP_ok (by decide)) (post_ok h)
  · refine post_bindE (modP_ok h1) (post_bindE (fdivP_ok h1 h2) (post_ok ?_))
    exact ⟨⟨Int.emod_nonneg _ (by omega), Int.emod_lt_of_pos _ h1⟩, hs⟩
/-- a row's items -/
def R3 (r : List Int) : Prop := ∀ v ∈ r, 0 ≤ v ∧ v ≤ 2
theorem R3.get {r : List Int} (h : R3 r) {i : Nat} {v : Int} (e : r[i]? = some v) : 0 ≤ v ∧ v ≤ 2 := h v (List.mem_of_getElem? e)
theorem row_ok {p : Bag} {size : Int} {far : Bool} {steady : Int} (h : BI p) (h1 : 0 < size) (h2 : size < 10000) (hs : steady ≤ 2) : Post (m_law_row p size far steady) fun r => ((r.1.length : Int) = size ∧ R3 r.1) ∧ BI r.2 := by
  unfold m_law_row
  refine post_bind (draw_ok h (by decide) (by decide)) fun r1 q1 => ?_
  obtain ⟨⟨a1, b1⟩, c1⟩ := q1
  refine post_bind (Q := fun (m : List Int) => m.length = 7 ∧ R3 m) (post_ok ⟨rfl, ?_⟩) fun menu hmenu => ?_
  · intro v hv
    simp only [List.mem_cons, List.not_mem_nil, or_false] at hv
    omega
  have pick : ∀ (s : Bag) (x : Int), BI s → Post (m_law_take s (7 : Int) >>= fun r9 => getI menu r9.1 >>= fun r10 => .ok (r10, r9.2)) fun r => (0 ≤ r.1 ∧ r.1 ≤ 2) ∧ BI r.2 := fun s x hs => by
    refine post_bind (draw_ok hs (by decide) (by decide)) fun r9 q9 => ?_
    obtain ⟨⟨a9, b9⟩, c9⟩ := q9
    refine post_bind (post_getI a9 (by omega)) fun r10 e10 => post_ok ⟨?_, c9⟩
    exact hmenu.2.get e10
  refine post_if (fun _ => ?_) fun _ => ?_
  · refine post_bindE (rngP_pos (by decide) (by decide) (by omega) (by omega)) ?_
    refine post_bindE (sizeP_ok (by rw [rngI_len]; omega)) ?_
    refine post_bind (post_mapS (I := BI) (B := fun v => 0 ≤ v ∧ v ≤ 2) c1 fun s x _ hs => pick s x hs) fun r q => post_ok ⟨⟨?_, q.2.1⟩, q.2.2⟩
    rw [q.1, rngI_len]
    omega
  · refine post_bind (draw_ok c1 (by decide) (by decide)) fun r15 q15 => ?_
    obtain ⟨⟨a15, b15⟩, c15⟩ := q15
    refine post_bindE rfl ?_
    refine post_bindE (rngP_pos (by decide) (by decide) (by omega) (by omega)) ?_
    refine post_bindE (sizeP_ok (by rw [rngI_len]; omega)) ?_
    refine post_bind (post_mapS (I := BI) (B := fun v => 0 ≤ v ∧ v ≤ 2) c15 fun s x _ hs => pick s x hs) fun r25 q25 => ?_
    have l25 := q25.1
    rw [rngI_len] at l25
    refine post_jn (A := fun (s : List Int) => (s.length : Int) = 1 + r15.1 ∧ R3 s) (post_if (fun hst => ?_) fun _ => post_ok ⟨by omega, q25.2.1⟩) fun s33 q33 => ?_
    · have hst := of_decide_eq_true hst
      refine post_bindE (rngP_pos (by decide) (by decide) (by omega) (by omega)) ?_
      refine post_bindE (sizeP_ok (by rw [rngI_len]; omega)) (post_bindE rfl (post_ok ⟨?_, ?_⟩))
      · rw [List.length_map, rngI_len]
        omega
      · intro v hv
        rw [List.mem_map] at hv
        obtain ⟨_, _, rfl⟩ := hv
        omega
    refine post_bindE (rngP_pos (by decide) (by decide) (by omega) (by omega)) ?_
    refine post_bindE (sizeP_ok (by rw [rngI_len]; omega)) ?_
    refine post_bindE (mapR_ok (g := fun x => s33.getD (x % (1 + r15.1)).toNat 0) fun x hx => ?_) ?_
    · rw [modP_ok (by omega), ok_bind]
      have e0 := Int.emod_nonneg x (b := 1 + r15.1) (by omega)
      have e1 := Int.emod_lt_of_pos x (b := 1 + r15.1) (by omega)
      obtain ⟨y, ey, gy⟩ := getI_of (xs := s33) e0 (by omega)
      rw [gy, ok_bind, List.getD_eq_getElem?_getD, ey]
      rfl
    refine post_bind (draw_ok q25.2.2 (by decide) (by decide)) fun r42 q42 => ?_
    obtain ⟨⟨a42, b42⟩, c42⟩ := q42
    refine post_bindE (rngP_pos (by decide) (by decide) (by omega) (by omega)) ?_
    refine post_stp (A := fun (s : Bag × List Int) => BI s.1 ∧ (s.2.length : Int) = size ∧ R3 s.2) (post_forI ⟨c42, ?_, ?_⟩ fun s x _ hs => ?_) fun s hs => post_ok ⟨hs.2, hs.1⟩
    · show ((List.map _ _).length : Int) = size
      rw [List.length_map, rngI_len]
      omega
    · intro v hv
      rw [List.mem_map] at hv
      obtain ⟨x, _, rfl⟩ := hv
      have e0 := Int.emod_nonneg x (b := 1 + r15.1) (by omega)
      have e1 := Int.emod_lt_of_pos x (b := 1 + r15.1) (by omega)
      obtain ⟨y, ey, gy⟩ := getI_of (xs := s33) e0 (by omega)
      rw [List.getD_eq_getElem?_getD, ey]
      exact q33.2.get ey
    · refine post_bind (draw_ok hs.1 h1 (by omega)) fun r46 q46 => ?_
      obtain ⟨⟨a46, b46⟩, c46⟩ := q46
      refine post_bind (draw_ok c46 (by decide) (by decide)) fun r47 q47 => ?_
      obtain ⟨⟨a47, b47⟩, c47⟩ := q47
      refine post_bind (post_setI a46 (by have := hs.2.1; omega)) fun r48 q48 => post_ok ⟨c47, ?_, ?_⟩
      · show (r48.length : Int) = size
        rw [q48, List.length_set]
        exact hs.2.1
      · show R3 r48
        rw [q48]
        intro v hv
        rcases List.mem_or_eq_of_mem_set hv with hv | hv
        · exact hs.2.2 v hv
        · omega
/-! the table -/
abbrev Tb := List ((Int × Int) × Bool)
def tabF (a : Int) : Int → List Int → Tb
  | _, [] => []
  | n, v :: t => (if v = 1 then [] else [((n, a), decide (v = 2))]) ++ tabF a (n + 1) t
def cnt : List Int → Nat
  | [] => 0
  | v :: t => (if v = 1 then 0 else 1) + cnt t
theorem tabF_len (a : Int) : ∀ (n : Int) (r : List Int), (tabF a n r).length = cnt r
  | _, [] => rfl
  | n, v :: t => by
    unfold tabF cnt
    rw [List.length_append, tabF_len a (n + 1) t]
    split <;> rfl
theorem tabF_app (a : Int) (v : Int) : ∀ (n : Int) (l : List Int), tabF a n (l ++ [v]) = tabF a n l ++ (if v = 1 then [] else [((n + l.length, a), decide (v = 2))])
  | n, [] => by simp [tabF]
  | n, x :: l => by
    rw [List.cons_append]
    unfold tabF
    rw [tabF_app a v (n + 1) l, List.append_assoc]
    congr 3
    rw [List.length_cons]
    have : n + 1 + (l.length : Int) = n + ((l.length + 1 : Nat) : Int) := by omega
    rw [this]
theorem cnt_app (v : Int) : ∀ l : List Int, cnt (l ++ [v]) = cnt l + (if v = 1 then 0 else 1)
  | [] => by simp [cnt]
  | x :: l => by
    rw [List.cons_append]
    unfold cnt
    rw [cnt_app v l]
    omega
theorem dget_app (s t : Tb) (k : Int × Int) : dget (s ++ t) k = (dget s k).or (dget t k) := by
  unfold dget
  rw [List.find?_append]
  cases s.find? fun kv => decide (kv.1 = k) <;> simp
theorem dget_none {s : Tb} {k : Int × Int} (h : ∀ p ∈ s, p.1 ≠ k) : dget s k = none := by
  unfold dget
  rw [List.find?_eq_none.mpr fun p hp => by simpa using h p hp]
  rfl
theorem dput_new {s : Tb} {k : Int × Int} {b : Bool} (h : ∀ p ∈ s, p.1 ≠ k) : dput s k b = s ++ [(k, b)] := by
  unfold dput
  rw [if_neg]
  intro e
  rw [List.any_eq_true] at e
  obtain ⟨p, hp, e⟩ := e
  exact h p hp (of_decide_eq_true e)
theorem tabF_key {a : Int} : ∀ {n : Int} {r : List Int} {p : (Int × Int) × Bool}, p ∈ tabF a n r → p.1.2 = a ∧ n ≤ p.1.1 ∧ p.1.1 < n + r.length
  | _, [], p, h => by cases h
  | n, v :: t, p, h => by
    unfold tabF at h
    rw [List.length_cons]
    rcases List.mem_append.mp h with h | h
    · split at h
      · cases h
      · rw [List.mem_singleton] at h
        subst h
        exact ⟨rfl, Int.le_refl _, by show n < _; omega⟩
    · have := tabF_key h
      exact ⟨this.1, by omega, by omega⟩
def cellE (v : Int) : Option Bool := if v = 1 then none else some (decide (v = 2))
theorem tabF_get (a : Int) : ∀ (n : Int) (r : List Int) (i : Nat) (v : Int), r[i]? = some v → dget (tabF a n r) (n + i, a) = cellE v
  | _, [], i, v, e => by simp at e
  | n, x :: t, 0, v, e => by
    have e : x = v := by simpa using e
    subst e
    unfold tabF
    rw [dget_app]
    have h2 : dget (tabF a (n + 1) t) (n + (0 : Nat), a) = none := dget_none fun p hp z => by
      have := tabF_key hp
      rw [z] at this
      have := this.2.1
      simp at this
      omega
    rw [h2]
    unfold cellE
    by_cases hx : x = 1
    · rw [if_pos hx, if_pos hx]
      rfl
    · rw [if_neg hx, if_neg hx]
      simp [dget]
  | n, x :: t, i + 1, v, e => by
    have e : t[i]? = some v := by simpa using e
    have ih := tabF_get a (n + 1) t i v e
    unfold tabF
    rw [dget_app]
    have h1 : dget (if x = 1 then [] else [((n, a), decide (x = 2))]) (n + ((i + 1 : Nat) : Int), a) = none := dget_none fun p hp z => by
      split at hp
      · cases hp
      · rw [List.mem_singleton] at hp
        subst hp
        have := congrArg Prod.fst z
        simp at this
        omega
    rw [h1]
    have : n + ((i + 1 : Nat) : Int) = n + 1 + (i : Int) := by omega
    rw [this, ih]
    rfl
def tabP (ps : List (Int × List Int)) : Tb := ps.flatMap fun p => tabF p.1 0 p.2
theorem tabP_key {ps : List (Int × List Int)} {p : (Int × Int) × Bool} (h : p ∈ tabP ps) : p.1.2 ∈ ps.map (·.1) := by
  obtain ⟨q, hq, hp⟩ := List.mem_flatMap.mp h
  exact List.mem_map.mpr ⟨q, hq, (tabF_key hp).1.symm⟩
theorem tabP_get : ∀ {ps : List (Int × List Int)}, (ps.map (·.1)).Nodup → ∀ {a : Int} {r : List Int}, (a, r) ∈ ps → ∀ {i : Nat} {v : Int}, r[i]? = some v → dget (tabP ps) ((i : Int), a) = cellE v
  | [], _, a, r, h, _, _, _ => by cases h
  | p :: ps, nd, a, r, h, i, v, e => by
    rw [List.map_cons, List.nodup_cons] at nd
    show dget (tabF p.1 0 p.2 ++ tabP ps) _ = _
    rw [dget_app]
    rcases List.mem_cons.mp h with h | h
    · subst h
      have h2 : dget (tabP ps) ((i : Int), a) = none := dget_none fun q hq z => by
        have := tabP_key hq
        rw [z] at this
        exact nd.1 this
      have h1 := tabF_get a 0 r i v e
      rw [Int.zero_add] at h1
      rw [h1, h2]
      cases cellE v <;> rfl
    · have h1 : dget (tabF p.1 0 p.2) ((i : Int), a) = none := dget_none fun q hq z => by
        have := (tabF_key hq).1
        rw [z] at this
        exact nd.1 (List.mem_map.mpr ⟨_, h, this⟩)
      rw [h1, tabP_get nd.2 h e]
      rfl
def cntP (ps : List (Int × List Int)) : Nat := (ps.map fun p => cnt p.2).sum
theorem tabP_len (ps : List (Int × List Int)) : (tabP ps).length = cntP ps := by
  unfold tabP cntP
  rw [List.length_flatMap]
  congr 1
  exact List.map_congr_left fun p _ => tabF_len _ _ _
theorem take_next {α : Type} {xs : List α} {k : Nat} {x : α} (h : xs[k]? = some x) : xs.take (k + 1) = xs.take k ++ [x] := by
  rw [List.take_add_one, h]
  rfl
structure Rows (N : Int) (atoms : List Int) (rows : List (List Int)) : Prop where
  la : atoms.length = 3
  lr : rows.length = 3
  nd : atoms.Nodup
  len : ∀ r ∈ rows, (r.length : Int) = N
  r3 : ∀ r ∈ rows, R3 r
  n0 : 0 < N
  n1 : N < 10000
section
variable {N : Int} {atoms : List Int} {rows : List (List Int)}
theorem zip_get (w : Rows N atoms rows) {k : Nat} (hk : k < 3) : ∃ a r, atoms[k]? = some a ∧ rows[k]? = some r ∧ (atoms.zip rows)[k]? = some (a, r) := by
  have h1 : k < atoms.length := by rw [w.la]; exact hk
  have h2 : k < rows.length := by rw [w.lr]; exact hk
  exact ⟨atoms[k], rows[k], by simp [h1], by simp [h2], by simp [List.getElem?_zip_eq_some, h1, h2]⟩
theorem zip_nd (w : Rows N atoms rows) : ((atoms.zip rows).map (·.1)).Nodup := by
  have : (atoms.zip rows).map (·.1) = atoms := by
    show (atoms.zip rows).map Prod.fst = atoms
    rw [List.map_fst_zip]
    rw [w.la, w.lr]
    exact Nat.le_refl _
  rw [this]
  exact w.nd
theorem known_ok (w : Rows N atoms rows) : Post (m_law_known atoms rows) (· = tabP (atoms.zip rows)) := by
  unfold m_law_known
  have l3 := w.la
  have hn := w.n1
  have hn0 := w.n0
  refine post_bindE (rngP_pos (by decide) (by decide) (by omega) (by omega)) ?_
  refine post_stp (A := fun (s : Tb) => s = tabP (atoms.zip rows)) (post_rng (fun k (s : Tb) => s = tabP ((atoms.zip rows).take k.toNat) ∧ s.length ≤ k.toNat * 10000) (by omega) ⟨rfl, Nat.le_refl _⟩ (fun k s k0 k1 hs => ?_) fun s hs => ?_) fun s hs => post_ok hs
  · obtain ⟨a, r, ea, er, ez⟩ := zip_get w (k := k.toNat) (by omega)
    have ek : (k.toNat : Int) = k := Int.toNat_of_nonneg k0
    have ga : getI atoms k = .ok a := by rw [← ek]; exact getI_nat ea
    have gr : getI rows k = .ok r := by rw [← ek]; exact getI_nat er
    have lr := w.len r (List.mem_of_getElem? er)
    refine post_bindE gr ?_
    refine post_bindE (rngP_pos (by decide) (by decide) (by omega) (by omega)) ?_
    refine post_stp (A := fun (t : Tb) => t = s ++ tabF a 0 r) (post_rng (fun x (t : Tb) => t = s ++ tabF a 0 (r.take x.toNat)) (by omega) ?_ (fun x t x0 x1 ht => ?_) fun t ht => ?_) fun t ht => post_ok ?_
    · simp [tabF]
    · obtain ⟨v, ev, gv⟩ := getI_of (xs := r) x0 x1
      have lt : (r.take x.toNat).length = x.toNat := by rw [List.length_take]; omega
      refine post_bindE gr (post_bindE gv ?_)
      have e1 : s ++ tabF a 0 (r.take (x + 1).toNat) = t ++ (if v = 1 then [] else [((x, a), decide (v = 2))]) := by
        rw [show (x + 1).toNat = x.toNat + 1 by omega, take_next ev, tabF_app, ht, lt, List.append_assoc]
        rw [show (0 : Int) + (x.toNat : Int) = x by omega]
      refine post_if (fun hv => ?_) fun hv => post_ok ?_
      · have hv : ¬ v = 1 := by simpa using hv
        have fresh : ∀ p ∈ t, p.1 ≠ (x, a) := fun p hp z => by
          rw [ht] at hp
          rcases List.mem_append.mp hp with hp | hp
          · rw [hs.1] at hp
            have := tabP_key hp
            rw [z] at this
            obtain ⟨q, hq, e⟩ := List.mem_map.mp this
            have nd := zip_nd w
            rw [← List.take_append_drop k.toNat (atoms.zip rows), List.map_append, List.nodup_append] at nd
            refine nd.2.2 a (List.mem_map.mpr ⟨q, hq, e⟩) a (List.mem_map.mpr ⟨(a, r), ?_, rfl⟩) rfl
            exact mem_drop.mpr ⟨k.toNat, Nat.le_refl _, ez⟩
          · have := (tabF_key hp).2.2
            rw [z, lt] at this
            have : x < 0 + (x.toNat : Int) := this
            omega
        have small : t.length < 16777216 := by
          rw [ht, List.length_append, tabF_len]
          have := hs.2
          have hc : ∀ l : List Int, cnt l ≤ l.length := fun l => by
            induction l with
            | nil => exact Nat.le_refl _
            | cons v l ih =>
              unfold cnt
              rw [List.length_cons]
              split <;> omega
          have := hc (r.take x.toNat)
          rw [lt] at this
          omega
        refine post_bindE gr (post_bindE gv (post_bindE ga (post_bindE (growOk_ok small) (post_ok ?_))))
        show dput t (x, a) (decide (v = 2)) = _
        rw [dput_new fresh, e1, if_neg hv]
      · have hv : v = 1 := by simpa using hv
        show t = _
        rw [e1, if_pos hv, List.append_nil]
    · rw [ht, show ((r.length : Int)).toNat = r.length by omega, List.take_length]
    · show t = tabP ((atoms.zip rows).take (k + 1).toNat) ∧ t.length ≤ (k + 1).toNat * 10000
      rw [show (k + 1).toNat = k.toNat + 1 by omega, take_next ez]
      refine ⟨?_, ?_⟩
      · rw [ht, hs.1]
        unfold tabP
        rw [List.flatMap_append]
        simp
      · have hc : ∀ l : List Int, cnt l ≤ l.length := fun l => by
          induction l with
          | nil => exact Nat.le_refl _
          | cons v l ih =>
            unfold cnt
            rw [List.length_cons]
            split <;> omega
        rw [ht, List.length_append, tabF_len]
        have := hc r
        have := hs.2
        omega
  · rw [hs.1, show ((atoms.length : Int)).toNat = 3 by omega, List.take_of_length_le]
    rw [List.length_zip, w.la, w.lr]
    exact Nat.le_refl _
def valO (v : Int) : Option Bool := if v = 1 then none else some (decide (v = 2))
theorem same_ok {v : Int} (h : 0 ≤ v ∧ v ≤ 2) : m_law_same (valO v) v = .ok true := by
  have : v = 0 ∨ v = 1 ∨ v = 2 := by omega
  rcases this with rfl | rfl | rfl <;> rfl
theorem still_ok (w : Rows N atoms rows) : m_law_still (tabP (atoms.zip rows)) atoms rows = .ok true := by
  have l3 := w.la
  have hn := w.n1
  have hn0 := w.n0
  have : Post (m_law_still (tabP (atoms.zip rows)) atoms rows) (· = true) := by
    unfold m_law_still
    refine post_bindE rfl ?_
    refine post_bindE (rngP_pos (by decide) (by decide) (by omega) (by omega)) ?_
    refine post_stp (A := fun (s : Int) => s = (cntP (atoms.zip rows) : Nat)) (post_rng (fun k (s : Int) => s = (cntP ((atoms.zip rows).take k.toNat) : Nat)) (by omega) rfl (fun k s k0 k1 hs => ?_) fun s hs => ?_) fun s hs => post_ok ?_
    · obtain ⟨a, r, ea, er, ez⟩ := zip_get w (k := k.toNat) (by omega)
      have ek : (k.toNat : Int) = k := Int.toNat_of_nonneg k0
      have ga : getI atoms k = .ok a := by rw [← ek]; exact getI_nat ea
      have gr : getI rows k = .ok r := by rw [← ek]; exact getI_nat er
      have lr := w.len r (List.mem_of_getElem? er)
      refine post_bindE gr ?_
      refine post_bindE (rngP_pos (by decide) (by decide) (by omega) (by omega)) ?_
      refine post_stp (A := fun (t : Int) => t = s + (cnt r : Nat)) (post_rng (fun x (t : Int) => t = s + (cnt (r.take x.toNat) : Nat)) (by omega) ?_ (fun x t x0 x1 ht => ?_) fun t ht => ?_) fun t ht => post_ok ?_
      · simp [cnt]
      · obtain ⟨v, ev, gv⟩ := getI_of (xs := r) x0 x1
        refine post_bindE gr (post_bindE gv ?_)
        have e1 : s + ((cnt (r.take (x + 1).toNat) : Nat) : Int) = t + (if v = 1 then 0 else 1) := by
          rw [show (x + 1).toNat = x.toNat + 1 by omega, take_next ev, cnt_app, ht]
          split <;> omega
        refine post_if (fun hv => ?_) fun hv => post_ok ?_
        · have hv : ¬ v = 1 := by simpa using hv
          refine post_bindE rfl (post_bindE ga (post_bindE gr (post_bindE gv ?_)))
          have g := tabP_get (zip_nd w) (List.mem_of_getElem? ez) (i := x.toNat) ev
          rw [Int.toNat_of_nonneg x0] at g
          rw [g]
          refine post_bindE (same_ok ((w.r3 r (List.mem_of_getElem? er)).get ev)) ?_
          refine post_if (fun z => by cases z) fun _ => post_ok ?_
          show t + 1 = _
          rw [e1, if_neg hv]
        · have hv : v = 1 := by simpa using hv
          show t = _
          rw [e1, if_pos hv, Int.add_zero]
      · rw [ht, show ((r.length : Int)).toNat = r.length by omega, List.take_length]
      · show t = ((cntP ((atoms.zip rows).take (k + 1).toNat) : Nat) : Int)
        rw [show (k + 1).toNat = k.toNat + 1 by omega, take_next ez, ht, hs]
        unfold cntP
        rw [List.map_append, List.sum_append]
        simp
    · rw [hs, show ((atoms.length : Int)).toNat = 3 by omega, List.take_of_length_le]
      rw [List.length_zip, w.la, w.lr]
      exact Nat.le_refl _
    · rw [hs, tabP_len]
      exact decide_eq_true rfl
  obtain ⟨a, e, rfl⟩ := this
  exact e
/-! ranks -/
def W (r : List Int) (d : Int) : Int := if d < 0 then 0 else r.getD d.toNat 0
theorem rank_ok (w : Rows N atoms rows) {a : Int} {r : List Int} (h : (a, r) ∈ atoms.zip rows) {d : Int} (hd : d < N) : m_rank a d (tabP (atoms.zip rows)) = .ok (W r d) ∧ m_law_worth r d = .ok (W r d) ∧ 0 ≤ W r d ∧ W r d ≤ 2 := by
  unfold m_rank m_law_worth W
  by_cases h0 : d < 0
  · simp only [h0, decide_true, if_true]
    exact ⟨trivial, trivial, by decide, by decide⟩
  · simp only [h0, decide_false, Bool.false_eq_true, if_false, ok_bind]
    have hr := (List.of_mem_zip h).2
    have lr := w.len r hr
    obtain ⟨v, ev, gv⟩ := getI_of (xs := r) (i := d) (by omega) (by omega)
    have g := tabP_get (zip_nd w) h (i := d.toNat) ev
    rw [Int.toNat_of_nonneg (by omega)] at g
    have b := (w.r3 r hr).get ev
    rw [g, gv, List.getD_eq_getElem?_getD, ev]
    have : v = 0 ∨ v = 1 ∨ v = 2 := by omega
    rcases this with rfl | rfl | rfl <;> exact ⟨rfl, rfl, by decide, by decide⟩
theorem at_ok (w : Rows N atoms rows) {k : Int} (h0 : 0 ≤ k) (h1 : k < 3) : ∃ a r, getI atoms k = .ok a ∧ getI rows k = .ok r ∧ (a, r) ∈ atoms.zip rows := by
  obtain ⟨a, r, ea, er, ez⟩ := zip_get w (k := k.toNat) (by omega)
  have ek : (k.toNat : Int) = k := Int.toNat_of_nonneg h0
  exact ⟨a, r, by rw [← ek]; exact getI_nat ea, by rw [← ek]; exact getI_nat er, List.mem_of_getElem? ez⟩
theorem maxL_ok {ns : List Int} (h : ns ≠ []) (b : ∀ v ∈ ns, 0 ≤ v ∧ v ≤ 2) : Post (maxL ns) fun v => 0 ≤ v ∧ v ≤ 2 := by
  cases ns with
  | nil => exact absurd rfl h
  | cons n ns =>
    refine post_ok ?_
    have : ∀ (ns : List Int) (a : Int), 0 ≤ a ∧ a ≤ 2 → (∀ v ∈ ns, 0 ≤ v ∧ v ≤ 2) → 0 ≤ ns.foldl (fun a b => if b > a then b else a) a ∧ ns.foldl (fun a b => if b > a then b else a) a ≤ 2 := by
      intro ns
      induction ns with
      | nil => intro a ha _; exact ha
      | cons x ns ih =>
        intro a ha hx
        rw [List.foldl_cons]
        refine ih _ ?_ fun v hv => hx v (List.mem_cons_of_mem _ hv)
        have := hx x (List.mem_cons_self ..)
        split <;> omega
    exact this ns n (b n (List.mem_cons_self ..)) fun v hv => b v (List.mem_cons_of_mem _ hv)
theorem minL_ok {ns : List Int} (h : ns ≠ []) (b : ∀ v ∈ ns, 0 ≤ v ∧ v ≤ 2) : Post (minL ns) fun v => 0 ≤ v ∧ v ≤ 2 := by
  cases ns with
  | nil => exact absurd rfl h
  | cons n ns =>
    refine post_ok ?_
    have : ∀ (ns : List Int) (a : Int), 0 ≤ a ∧ a ≤ 2 → (∀ v ∈ ns, 0 ≤ v ∧ v ≤ 2) → 0 ≤ ns.foldl (fun a b => if b < a then b else a) a ∧ ns.foldl (fun a b => if b < a then b else a) a ≤ 2 := by
      intro ns
      induction ns with
      | nil => intro a ha _; exact ha
      | cons x ns ih =>
        intro a ha hx
        rw [List.foldl_cons]
        refine ih _ ?_ fun v hv => hx v (List.mem_cons_of_mem _ hv)
        have := hx x (List.mem_cons_self ..)
        split <;> omega
    exact this ns n (b n (List.mem_cons_self ..)) fun v hv => b v (List.mem_cons_of_mem _ hv)
/-! since, held -/
def stepC (O Kp : Int → Int) (s : Int × Int) (x : Int) : Int × Int :=
  (if (if O x < s.2 then O x else s.2) > s.1 then (if O x < s.2 then O x else s.2) else s.1, if Kp x < s.2 then Kp x else s.2)
theorem stepC_le {O Kp : Int → Int} : ∀ (xs : List Int) (s : Int × Int), s.2 ≤ s.1 → (xs.foldl (stepC O Kp) s).1 = s.1
  | [], _, _ => rfl
  | x :: xs, s, h => by
    have h1 : (stepC O Kp s x).1 = s.1 := by
      unfold stepC
      dsimp only
      split <;> split <;> omega
    have h2 : (stepC O Kp s x).2 ≤ s.2 := by
      unfold stepC
      dsimp only
      split <;> omega
    rw [List.foldl_cons, stepC_le xs _ (by omega), h1]
theorem stepC_in {O Kp : Int → Int} : ∀ (xs : List Int) (s : Int × Int), 0 ≤ s.1 ∧ s.1 ≤ 2 → s.2 ≤ 2 → 0 ≤ (xs.foldl (stepC O Kp) s).1 ∧ (xs.foldl (stepC O Kp) s).1 ≤ 2
  | [], s, h, _ => h
  | x :: xs, s, h, h2 => by
    rw [List.foldl_cons]
    refine stepC_in xs _ ?_ ?_
    · unfold stepC
      dsimp only
      split <;> split <;> omega
    · unfold stepC
      dsimp only
      split <;> omega
theorem early {O Kp : Int → Int} {f : Int × Int → Int → Mr (Stp (Int × Int) Int)} : ∀ {xs : List Int} {s : Int × Int}, (∀ s, ∀ x ∈ xs, f s x = if (stepC O Kp s x).2 ≤ (stepC O Kp s x).1 then .ok (.out (stepC O Kp s x).1) else .ok (.go (stepC O Kp s x))) →
    (forL xs s f >>= Stp.k fun s => .ok s.1) = .ok (xs.foldl (stepC O Kp) s).1
  | [], _, _ => rfl
  | x :: xs, s, h => by
    unfold forL
    rw [h s x (List.mem_cons_self ..)]
    by_cases hc : (stepC O Kp s x).2 ≤ (stepC O Kp s x).1
    · rw [if_pos hc, List.foldl_cons, stepC_le _ _ hc]
      rfl
    · rw [if_neg hc]
      exact early fun s y hy => h s y (List.mem_cons_of_mem _ hy)
theorem foldl_stepC {O Kp : Int → Int} {g : Int → Int} : ∀ (xs : List Int) (s : Int × Int), (xs.map g).foldl (stepC O Kp) s = xs.foldl (stepC (fun x => O (g x)) fun x => Kp (g x)) s
  | [], _ => rfl
  | x :: xs, s => by
    rw [List.map_cons, List.foldl_cons, List.foldl_cons]
    exact foldl_stepC xs _
def isS (f : List Nat) : Bool := decide (f = [115, 105, 110, 99, 101])
def OO (f : List Nat) (r1 r2 : List Int) (x : Int) : Int := if isS f = true then W r2 x else W r1 x
def KK (f : List Nat) (r1 r2 : List Int) (x : Int) : Int := if isS f = true then W r1 x else 2 - W r2 x
theorem carried_ok (w : Rows N atoms rows) {a b : Int} {r1 r2 : List Int} (h1 : (a, r1) ∈ atoms.zip rows) (h2 : (b, r2) ∈ atoms.zip rows) {f : List Nat} {d : Int} (h0 : 0 ≤ d) (hd : d < N) (hf : f = [115, 105, 110, 99, 101] ∨ f = [104, 101, 108, 100]) :
    ∃ v, m_carried_rank f a b d (tabP (atoms.zip rows)) = .ok v ∧ m_law_due f r1 r2 0 d = .ok v ∧ 0 ≤ v ∧ v ≤ 2 := by
  have hn := w.n1
  refine ⟨((rngD d (-1)).foldl (stepC (OO f r1 r2) (KK f r1 r2)) (0, 2)).1, ?_, ?_, stepC_in _ _ (by decide) (by decide)⟩
  · unfold m_carried_rank
    rw [ok_bind, ok_bind, rngP_pos (by omega) (by omega) (by decide) (by decide), ok_bind]
    refine early fun s x hx => ?_
    have hx' : 0 ≤ x ∧ x ≤ d := by
      unfold rngD at hx
      rw [List.mem_map] at hx
      obtain ⟨i, hi, rfl⟩ := hx
      have := List.mem_range.mp hi
      omega
    have q1 := (rank_ok w h1 (d := x) (by omega)).1
    have q2 := (rank_ok w h2 (d := x) (by omega)).1
    rcases hf with rfl | rfl
    · simp only [decide_true, if_true, q1, q2, ok_bind, stepC, OO, KK, isS, Jn.k]
      by_cases hc : (if W r1 x < s.2 then W r1 x else s.2) ≤ (if (if W r2 x < s.2 then W r2 x else s.2) > s.1 then (if W r2 x < s.2 then W r2 x else s.2) else s.1)
      · rw [if_pos (decide_eq_true hc), if_pos hc]
      · rw [if_neg (by simpa using hc), if_neg hc]
    · simp only [show decide (([104, 101, 108, 100] : List Nat) = [115, 105, 110, 99, 101]) = false from rfl, Bool.false_eq_true, if_false, q1, q2, ok_bind, stepC, OO, KK, isS, Jn.k]
      by_cases hc : (if 2 - W r2 x < s.2 then 2 - W r2 x else s.2) ≤ (if (if W r1 x < s.2 then W r1 x else s.2) > s.1 then (if W r1 x < s.2 then W r1 x else s.2) else s.1)
      · rw [if_pos (decide_eq_true hc), if_pos hc]
      · rw [if_neg (by simpa using hc), if_neg hc]
  · have e1 : rngD d (-1) = (rngI 0 (d + 1)).map fun x => d - x := by
      unfold rngD rngI
      rw [List.map_map]
      have : (d - -1).toNat = (d + 1 - 0).toNat := by omega
      rw [this]
      refine List.map_congr_left fun i _ => ?_
      simp
      omega
    rw [e1, foldl_stepC]
    unfold m_law_due
    have hk : decide (f = [97, 116]) = false ∧ decide (f = [119, 105, 116, 104, 105, 110]) = false ∧ decide (f = [116, 104, 114, 111, 117, 103, 104]) = false := by
      rcases hf with rfl | rfl <;> decide
    obtain ⟨k1, k2, k3⟩ := hk
    simp only [k1, k2, k3, Bool.false_eq_true, if_false]
    rw [ok_bind, ok_bind, rngP_pos (by decide) (by decide) (by omega) (by omega), ok_bind]
    rw [forL_go (g := stepC (fun x => OO f r1 r2 (d - x)) fun x => KK f r1 r2 (d - x)) fun s x hx => ?_]
    · rfl
    have hx' := mem_rngI.mp hx
    have mn : ∀ a b : Int, (if a < b then a else b) = (if b < a then b else a) := fun a b => by split <;> split <;> omega
    have gw : ∀ {a : Int} {r : List Int}, (a, r) ∈ atoms.zip rows → getI r (d - x) = .ok (W r (d - x)) := fun {a r} h => by
      have := (rank_ok w h (d := d - x) (by omega)).2.1
      unfold m_law_worth at this
      rw [if_neg (by simp; omega)] at this
      cases e : getI r (d - x) with
      | error z => rw [e] at this; cases this
      | ok z => rw [e] at this; exact this
    rcases hf with rfl | rfl
    · simp only [decide_true, if_true, gw h1, gw h2, ok_bind, stepC, OO, KK, isS]
      rw [mn s.2 (W r2 (d - x))]
    · simp only [show decide (([104, 101, 108, 100] : List Nat) = [115, 105, 110, 99, 101]) = false from rfl, Bool.false_eq_true, if_false, gw h1, gw h2, ok_bind, stepC, OO, KK, isS]
      rw [mn s.2 (W r1 (d - x))]
/-! both ways -/
theorem both_of {f : List Nat} {x y d : Int} {kn : Tb} {v : Int} (hv : 0 ≤ v ∧ v ≤ 2) (h : ∀ b, m_known_value (f, x, y, b) d kn = .ok (valO (if b = true then v else 2 - v))) : m_law_both (f, x, y) d kn v = .ok true := by
  unfold m_law_both
  rw [h true, ok_bind]
  simp only [if_true]
  rw [same_ok hv, ok_bind, if_neg (by decide), h false, ok_bind]
  simp only [Bool.false_eq_true, if_false]
  rw [same_ok (by omega), ok_bind]
theorem pickV {v : Int} (hv : 0 ≤ v ∧ v ≤ 2) (b : Bool) : (getI ([some false, none, some true] : List (Option Bool)) (if b = true then v else ((2 : Int) - v)) >>= fun r22 => (.ok r22 : Mr (Option Bool))) = .ok (valO (if b = true then v else 2 - v)) := by
  have : v = 0 ∨ v = 1 ∨ v = 2 := by omega
  rcases this with rfl | rfl | rfl <;> cases b <;> rfl
theorem asked_ok (w : Rows N atoms rows) {bag : Bag} (hb : BI bag) {f : List Nat} {d : Int} (h0 : 0 ≤ d) (hd : d < N)
    (hf : f = [97, 116] ∨ f = [115, 105, 110, 99, 101] ∨ f = [104, 101, 108, 100] ∨ f = [119, 105, 116, 104, 105, 110] ∨ f = [116, 104, 114, 111, 117, 103, 104] ∨ f = [111, 110]) :
    Post (m_law_asked bag f atoms rows (tabP (atoms.zip rows)) d) fun r => r.1 = true ∧ BI r.2 := by
  have hn := w.n1
  unfold m_law_asked
  refine post_if (fun e => ?_) fun ne => ?_
  · unfold m_law_on
    refine post_bind (Q := fun r => r.1 = true ∧ BI r.2) ?_ fun r q => post_ok q
    refine post_bind (draw_ok hb (by decide) (by decide)) fun r1 q1 => ?_
    obtain ⟨⟨a1, b1⟩, c1⟩ := q1
    refine post_bindE rfl ?_
    refine post_bind (draw_ok c1 (by decide) (by decide)) fun r3 q3 => ?_
    refine post_jn (A := fun (s : Int × Bag) => (0 < s.1 ∧ s.1 < 10000) ∧ BI s.2) (post_if (fun _ => ?_) fun _ => post_ok ⟨⟨by show 0 < 1 + r1.1; omega, by show 1 + r1.1 < 10000; omega⟩, q3.2⟩) fun s6 q6 => ?_
    · refine post_bind (draw_ok q3.2 (by decide) (by decide)) fun r4 q4 => ?_
      obtain ⟨⟨a4, b4⟩, c4⟩ := q4
      exact post_bindE rfl (post_ok ⟨⟨by show 0 < 1 + r4.1; omega, by show 1 + r4.1 < 10000; omega⟩, c4⟩)
    obtain ⟨⟨a6, b6⟩, c6⟩ := q6
    refine post_bindE (modP_ok a6) ?_
    refine post_bind (draw_ok c6 (by decide) (by decide)) fun r8 q8 => ?_
    refine post_jn (A := fun (s : Int × Bag) => BI s.2) (post_if (fun _ => ?_) fun _ => post_ok q8.2) fun s10 q10 => ?_
    · exact post_bind (draw_ok q8.2 a6 (by omega)) fun r9 q9 => post_ok q9.2
    refine post_bindE (modP_ok a6) ?_
    refine post_bindE (a := true) ?_ (post_ok ⟨rfl, q10⟩)
    have hv : ∀ b : Bool, ((2 : Int) * (if b = true then 1 else 0)) = if b = true then 2 else 0 := fun b => by cases b <;> rfl
    rw [hv]
    refine both_of (by split <;> decide) fun b => ?_
    unfold m_known_value
    simp only [decide_true, if_true]
    rw [modP_ok a6, ok_bind, ok_bind, ok_bind]
    exact pickV (by split <;> decide) b
  · have nf : f ≠ [111, 110] := fun z => ne (by rw [z]; rfl)
    refine post_bind (draw_ok hb (by decide) (by decide)) fun r2 q2 => ?_
    obtain ⟨⟨a2, b2⟩, c2⟩ := q2
    obtain ⟨a, ra, ga, gra, za⟩ := at_ok w a2 b2
    refine post_if (fun e => ?_) fun ne2 => ?_
    · have hf' : f = [115, 105, 110, 99, 101] ∨ f = [104, 101, 108, 100] := by simpa using e
      refine post_bind (draw_ok c2 (by decide) (by decide)) fun r3 q3 => ?_
      obtain ⟨⟨a3, b3⟩, c3⟩ := q3
      obtain ⟨b, rb, gb, grb, zb⟩ := at_ok w a3 b3
      obtain ⟨v, e1, e2, e3⟩ := carried_ok w za zb h0 hd hf'
      refine post_bindE gra (post_bindE grb (post_bindE e2 (post_bindE ga (post_bindE gb (post_bindE (a := true) ?_ (post_ok ⟨rfl, c3⟩))))))
      refine both_of e3 fun bb => ?_
      have hk : decide (f = [111, 110]) = false ∧ decide (f = [97, 116]) = false ∧ decide (f = [119, 105, 116, 104, 105, 110]) = false ∧ decide (f = [116, 104, 114, 111, 117, 103, 104]) = false := by
        rcases hf' with rfl | rfl <;> decide
      obtain ⟨k1, k2, k3, k4⟩ := hk
      unfold m_known_value
      simp only [k1, k2, k3, k4, Bool.false_eq_true, if_false]
      rw [e1, ok_bind]
      exact pickV e3 bb
    · have ns : f ≠ [115, 105, 110, 99, 101] ∧ f ≠ [104, 101, 108, 100] := by simpa using ne2
      refine post_bind (draw_ok c2 (by decide) (by decide)) fun r10 q10 => ?_
      obtain ⟨⟨a10, b10⟩, c10⟩ := q10
      refine post_bindE rfl ?_
      refine post_jn (A := fun (s : Int × Bag) => ((0 ≤ s.1 ∧ s.1 < 10) ∧ (f ≠ [97, 116] → 0 < s.1)) ∧ BI s.2) (post_if (fun e => ?_) fun ne3 => post_ok ⟨⟨⟨by show 0 ≤ 1 + r10.1; omega, by show 1 + r10.1 < 10; omega⟩, fun _ => by show 0 < 1 + r10.1; omega⟩, c10⟩) fun s13 q13 => ?_
      · refine post_bind (draw_ok c10 (by decide) (by decide)) fun r12 q12 => ?_
        obtain ⟨⟨a12, b12⟩, c12⟩ := q12
        exact post_ok ⟨⟨⟨a12, by show r12.1 < 10; omega⟩, fun z => absurd (of_decide_eq_true e) z⟩, c12⟩
      obtain ⟨⟨⟨a13, b13⟩, p13⟩, c13⟩ := q13
      refine post_bindE gra ?_
      have rk : ∀ x, 0 ≤ x → m_rank a (d - x) (tabP (atoms.zip rows)) = .ok (W ra (d - x)) ∧ m_law_worth ra (d - x) = .ok (W ra (d - x)) ∧ 0 ≤ W ra (d - x) ∧ W ra (d - x) ≤ 2 := fun x hx => rank_ok w za (by omega)
      have main : ∃ v, m_law_due f ra [] s13.1 d = .ok v ∧ (0 ≤ v ∧ v ≤ 2) ∧ ∀ b, m_known_value (f, a, s13.1, b) d (tabP (atoms.zip rows)) = .ok (valO (if b = true then v else 2 - v)) := by
        have hmap : mapR (fun x4 => m_law_worth ra (d - x4) >>= fun r5 => .ok r5) (rngI 0 s13.1) = .ok ((rngI 0 s13.1).map fun x => W ra (d - x)) := mapR_ok fun x hx => by
          rw [(rk x (mem_rngI.mp hx).1).2.1, ok_bind]
        have hmap2 : mapR (fun x6 => m_rank a (d - x6) (tabP (atoms.zip rows)) >>= fun r7 => .ok r7) (rngI 0 s13.1) = .ok ((rngI 0 s13.1).map fun x => W ra (d - x)) := mapR_ok fun x hx => by
          rw [(rk x (mem_rngI.mp hx).1).1, ok_bind]
        have hin : ∀ v ∈ (rngI 0 s13.1).map (fun x => W ra (d - x)), 0 ≤ v ∧ v ≤ 2 := fun v hv => by
          obtain ⟨x, hx, rfl⟩ := List.mem_map.mp hv
          exact (rk x (mem_rngI.mp hx).1).2.2
        have hne : f ≠ [97, 116] → (rngI 0 s13.1).map (fun x => W ra (d - x)) ≠ [] := fun z h => by
          have := congrArg List.length h
          rw [List.length_map, rngI_len] at this
          have := p13 z
          simp at *
          omega
        rcases hf with rfl | rfl | rfl | rfl | rfl | rfl
        · refine ⟨_, ?_, (rk s13.1 a13).2.2, fun b => ?_⟩
          · unfold m_law_due
            simp only [decide_true, if_true]
            rw [(rk s13.1 a13).2.1, ok_bind]
          · unfold m_known_value
            simp only [show decide (([97, 116] : List Nat) = [111, 110]) = false from rfl, Bool.false_eq_true, if_false, decide_true, if_true]
            rw [(rk s13.1 a13).1, ok_bind, ok_bind]
            exact pickV (rk s13.1 a13).2.2 b
        · exact absurd rfl ns.1
        · exact absurd rfl ns.2
        · obtain ⟨v, ev, hv⟩ := maxL_ok (hne (by decide)) hin
          refine ⟨v, ?_, hv, fun b => ?_⟩
          · unfold m_law_due
            simp only [show decide (([119, 105, 116, 104, 105, 110] : List Nat) = [97, 116]) = false from rfl, Bool.false_eq_true, if_false, decide_true, if_true]
            rw [rngP_pos (by decide) (by decide) (by omega) (by omega), ok_bind, sizeP_ok (by rw [rngI_len]; omega), ok_bind, hmap, ok_bind, ev, ok_bind]
          · unfold m_known_value
            simp only [show decide (([119, 105, 116, 104, 105, 110] : List Nat) = [97, 116]) = false from rfl, show decide (([119, 105, 116, 104, 105, 110] : List Nat) = [111, 110]) = false from rfl, Bool.false_eq_true, if_false, decide_true, if_true]
            rw [rngP_pos (by decide) (by decide) (by omega) (by omega), ok_bind, sizeP_ok (by rw [rngI_len]; omega), ok_bind, hmap2, ok_bind, ev, ok_bind, ok_bind]
            exact pickV hv b
        · obtain ⟨v, ev, hv⟩ := minL_ok (hne (by decide)) hin
          refine ⟨v, ?_, hv, fun b => ?_⟩
          · unfold m_law_due
            simp only [show decide (([116, 104, 114, 111, 117, 103, 104] : List Nat) = [97, 116]) = false from rfl, show decide (([116, 104, 114, 111, 117, 103, 104] : List Nat) = [119, 105, 116, 104, 105, 110]) = false from rfl, Bool.false_eq_true, if_false, decide_true, if_true]
            rw [rngP_pos (by decide) (by decide) (by omega) (by omega), ok_bind, sizeP_ok (by rw [rngI_len]; omega), ok_bind, hmap, ok_bind, ev, ok_bind]
          · unfold m_known_value
            simp only [show decide (([116, 104, 114, 111, 117, 103, 104] : List Nat) = [97, 116]) = false from rfl, show decide (([116, 104, 114, 111, 117, 103, 104] : List Nat) = [119, 105, 116, 104, 105, 110]) = false from rfl, show decide (([116, 104, 114, 111, 117, 103, 104] : List Nat) = [111, 110]) = false from rfl, Bool.false_eq_true, if_false, decide_true, if_true]
            rw [rngP_pos (by decide) (by decide) (by omega) (by omega), ok_bind, sizeP_ok (by rw [rngI_len]; omega), ok_bind, hmap2, ok_bind, ev, ok_bind, ok_bind]
            exact pickV hv b
        · exact absurd rfl nf
      obtain ⟨v, e1, e2, e3⟩ := main
      exact post_bindE e1 (post_bindE ga (post_bindE (both_of e2 e3) (post_ok ⟨rfl, c13⟩)))
end
theorem erase_perm : ∀ (xs : List Int) (n : Nat) {x : Int}, xs[n]? = some x → xs.Perm (x :: xs.eraseIdx n)
  | [], n, x, h => by simp at h
  | y :: xs, 0, x, h => by
    have h : y = x := by simpa using h
    subst h
    exact List.Perm.refl _
  | y :: xs, n + 1, x, h => by
    have h : xs[n]? = some x := by simpa using h
    exact (List.Perm.cons y (erase_perm xs n h)).trans (List.Perm.swap ..)
theorem law_true (ns : List Int) (_hl : ns.length ≤ 63) : m_law ns = .ok true := by
  have : Post (m_law ns) (· = true) := by
    unfold m_law
    refine post_bind (bag_ok ns) fun r1 q1 => ?_
    refine post_bindE rfl (post_bindE rfl ?_)
    refine post_stp (A := fun (s : Bag × List Int × List Int) => BI s.1 ∧ s.2.2.length = 3 ∧ s.2.2.Nodup) (post_rng (fun k (s : Bag × List Int × List Int) => BI s.1 ∧ (s.2.1.length : Int) = 64 - k ∧ (s.2.2.length : Int) = k ∧ (s.2.1 ++ s.2.2).Nodup) (by decide) ⟨q1, (by show ((rngI 0 64).length : Int) = 64 - 0; decide), rfl, (by show (rngI 0 64 ++ ([] : List Int)).Nodup; decide)⟩ (fun k s k0 k1 hs => ?_) fun s hs => ⟨hs.1, by omega, (List.nodup_append.mp hs.2.2.2).2.1⟩) fun s4 q4 => ?_
    · obtain ⟨h1, h2, h3, h4⟩ := hs
      refine post_bind (draw_ok h1 (by omega) (by omega)) fun r6 q6 => ?_
      obtain ⟨⟨a6, b6⟩, c6⟩ := q6
      have hp : ∃ x, s.2.1[r6.1.toNat]? = some x ∧ popI s.2.1 r6.1 = .ok (x, s.2.1.eraseIdx r6.1.toNat) := by
        have hj : r6.1.toNat < s.2.1.length := by omega
        refine ⟨s.2.1[r6.1.toNat], by simp [hj], ?_⟩
        have e0 := ixQ_nat hj
        rw [Int.toNat_of_nonneg a6] at e0
        unfold popI
        rw [e0]
        simp [hj]
      obtain ⟨x, ex, ep⟩ := hp
      refine post_bindE ep (post_bindE (growOk_ok (by omega)) (post_ok ⟨c6, ?_, ?_, ?_⟩))
      · show ((s.2.1.eraseIdx r6.1.toNat).length : Int) = 64 - (k + 1)
        rw [List.length_eraseIdx, if_pos (by omega)]
        omega
      · show ((s.2.2 ++ [x]).length : Int) = k + 1
        rw [List.length_append]
        simp
        omega
      · show (s.2.1.eraseIdx r6.1.toNat ++ (s.2.2 ++ [x])).Nodup
        have hp : (s.2.1.eraseIdx r6.1.toNat ++ (s.2.2 ++ [x])).Perm (s.2.1 ++ s.2.2) := by
          have hj : r6.1.toNat < s.2.1.length := by omega
          have e1 : s.2.1.Perm (x :: s.2.1.eraseIdx r6.1.toNat) := erase_perm _ _ ex
          have e2 : (s.2.1.eraseIdx r6.1.toNat ++ (s.2.2 ++ [x])).Perm (x :: (s.2.1.eraseIdx r6.1.toNat ++ s.2.2)) := by
            rw [← List.append_assoc]
            exact List.perm_append_singleton _ _
          exact e2.trans ((List.Perm.append_right s.2.2 e1).symm)
        exact hp.nodup_iff.mpr h4
    obtain ⟨h1, l3, nd⟩ := q4
    refine post_bind (draw_ok h1 (by decide) (by decide)) fun r9 q9 => ?_
    refine post_bind (post_ok (Q := fun _ => True) trivial) fun far _ => ?_
    refine post_bind (draw_ok q9.2 (by decide) (by decide)) fun r11 q11 => ?_
    obtain ⟨⟨a11, b11⟩, c11⟩ := q11
    refine post_bind (Q := fun (m : List Int) => m.length = 3 ∧ ∀ v ∈ m, v ≤ 2) (post_ok ⟨rfl, by decide⟩) fun st hst => ?_
    refine post_jn (A := fun (s : Int × List Int × Bag) => (0 ≤ s.1 ∧ s.1 ≤ 5000) ∧ (s.2.1.length = 3 ∧ ∀ v ∈ s.2.1, v ≤ 2) ∧ BI s.2.2) (post_if (fun _ => ?_) fun _ => post_ok ⟨⟨a11, by show r11.1 ≤ 5000; omega⟩, hst, c11⟩) fun s16 q16 => ?_
    · refine post_bind (draw_ok c11 (by decide) (by decide)) fun r13 q13 => ?_
      obtain ⟨⟨a13, b13⟩, c13⟩ := q13
      refine post_bind (draw_ok c13 (by decide) (by decide)) fun r14 q14 => ?_
      exact post_if (fun _ => post_bindE rfl (post_ok ⟨⟨a13, by show r13.1 ≤ 5000; omega⟩, ⟨rfl, (by show ∀ v ∈ ([2, 0, -1] : List Int), v ≤ 2; decide)⟩, q14.2⟩)) fun _ => post_ok ⟨⟨a13, by show r13.1 ≤ 5000; omega⟩, hst, q14.2⟩
    obtain ⟨⟨a16, b16⟩, ⟨s3, sv⟩, c16⟩ := q16
    refine post_bindE rfl ?_
    have hN : 0 < (if (5001 : Int) < (s16.1 + (3 : Int)) then (5001 : Int) else (s16.1 + (3 : Int))) ∧ (if (5001 : Int) < (s16.1 + (3 : Int)) then (5001 : Int) else (s16.1 + (3 : Int))) < 10000 ∧ s16.1 < (if (5001 : Int) < (s16.1 + (3 : Int)) then (5001 : Int) else (s16.1 + (3 : Int))) := by
      split <;> omega
    generalize (if (5001 : Int) < (s16.1 + (3 : Int)) then (5001 : Int) else (s16.1 + (3 : Int))) = N at hN ⊢
    obtain ⟨n0, n1, nd1⟩ := hN
    refine post_stp (A := fun (s : Bag × List (List Int)) => BI s.1 ∧ s.2.length = 3 ∧ ∀ r ∈ s.2, (r.length : Int) = N ∧ R3 r) (post_rng (fun k (s : Bag × List (List Int)) => BI s.1 ∧ (s.2.length : Int) = k ∧ ∀ r ∈ s.2, (r.length : Int) = N ∧ R3 r) (by decide) ⟨c16, rfl, fun _ h => nomatch h⟩ (fun k s k0 k1 hs => ?_) fun s hs => ⟨hs.1, by omega, hs.2.2⟩) fun s18 q18 => ?_
    · obtain ⟨h1, h2, h3⟩ := hs
      refine post_bind (post_getI k0 (by omega)) fun r20 e20 => ?_
      have := sv r20 (List.mem_of_getElem? e20)
      refine post_bind (row_ok h1 n0 n1 this) fun r21 q21 => ?_
      refine post_bindE (growOk_ok (by omega)) (post_ok ⟨q21.2, ?_, ?_⟩)
      · show ((s.2 ++ [r21.1]).length : Int) = k + 1
        rw [List.length_append]
        simp
        omega
      · intro r hr
        rcases List.mem_append.mp hr with hr | hr
        · exact h3 r hr
        · rw [List.mem_singleton] at hr
          subst hr
          exact q21.1
    have w : Rows N s4.2.2 s18.2 := ⟨l3, q18.2.1, nd, fun r hr => (q18.2.2 r hr).1, fun r hr => (q18.2.2 r hr).2, n0, n1⟩
    refine post_bind (known_ok w) fun kn ekn => ?_
    subst ekn
    let GF := fun (f : List Nat) => f = [97, 116] ∨ f = [115, 105, 110, 99, 101] ∨ f = [104, 101, 108, 100] ∨ f = [119, 105, 116, 104, 105, 110] ∨ f = [116, 104, 114, 111, 117, 103, 104] ∨ f = [111, 110]
    refine post_bind (Q := fun (m : List (List Nat)) => m.length = 6 ∧ ∀ f ∈ m, GF f) (post_ok ⟨rfl, fun f hf => by simpa [GF] using hf⟩) fun forms hforms => ?_
    refine post_bind (draw_ok q18.1 (by decide) (by decide)) fun r25 q25 => ?_
    obtain ⟨⟨a25, b25⟩, c25⟩ := q25
    refine post_bindE (rngP_pos (by decide) (by decide) (by omega) (by omega)) ?_
    refine post_stp (A := fun (s : Bag × List (List Nat)) => BI s.1 ∧ ∀ f ∈ s.2, GF f) (post_rng (fun k (s : Bag × List (List Nat)) => BI s.1 ∧ (s.2.length : Int) = 6 + k ∧ ∀ f ∈ s.2, GF f) a25 ⟨c25, by have := hforms.1; show ((forms.length : Nat) : Int) = 6 + 0; omega, hforms.2⟩ (fun k s k0 k1 hs => ?_) fun s hs => ⟨hs.1, hs.2.2⟩) fun s27 q27 => ?_
    · obtain ⟨h1, h2, h3⟩ := hs
      refine post_bind (draw_ok h1 (by decide) (by decide)) fun r29 q29 => ?_
      obtain ⟨⟨a29, b29⟩, c29⟩ := q29
      refine post_bind (post_getI a29 (by omega)) fun r30 e30 => ?_
      refine post_bindE (growOk_ok (by omega)) (post_ok ⟨c29, ?_, ?_⟩)
      · show ((s.2 ++ [r30]).length : Int) = 6 + (k + 1)
        rw [List.length_append]
        simp
        omega
      · intro f hf
        rcases List.mem_append.mp hf with hf | hf
        · exact h3 f hf
        · rw [List.mem_singleton] at hf
          subst hf
          exact h3 _ (List.mem_of_getElem? e30)
    refine post_stp (A := fun _ => True) (post_mono (post_forI (I := BI) (W := (· = true)) q27.1 fun s f hf hs => ?_) fun j hj => ?_) fun s _ => ?_
    · refine post_bind (draw_ok hs (by decide) (by decide)) fun r34 q34 => ?_
      obtain ⟨⟨a34, b34⟩, c34⟩ := q34
      refine post_bindE rfl ?_
      refine post_bind (asked_ok w c34 (by split <;> omega) (by split <;> omega) (q27.2 f hf)) fun r36 q36 => ?_
      rw [q36.1]
      exact post_if (fun z => by cases z) fun _ => post_ok q36.2
    · cases j <;> first | trivial | exact hj
    · exact post_bindE (still_ok w) (post_ok rfl)
  obtain ⟨a, e, rfl⟩ := this
  exact e
end K18

namespace K18
open PySem PySem.Spec PyProof.Rows L2 TL
def top (i : Nat) : Stmt := PySem.Challenge.pw_rulewheel_k18_known_values.main.body.getD i (.Pass ⟨0, 0, 0, 0⟩)
abbrev keys_Bag : List Key := [.inr "cells", .inr "at", .inr "rest", .inr "left", .inr "turn"]
theorem nd_Bag : keys_Bag.Nodup := by decide +kernel
abbrev mv_Bag (p : Bag) : MV := mRd keys_Bag [tv (rSq .l rInt) p.cells, tv rInt p.at_, tv rInt p.rest, tv rInt p.left, tv rInt p.turn]
def d0 : He.DefD := ⟨("_law_bag", none), "_law_bag", "_law_bag", defArgs (top 9), defBody (top 9), defScope (top 9), [], []⟩
def d1 : He.DefD := ⟨("_law_mixed", none), "_law_mixed", "_law_mixed", defArgs (top 10), defBody (top 10), defScope (top 10), [], []⟩
def d2 : He.DefD := ⟨("_law_take", none), "_law_take", "_law_take", defArgs (top 11), defBody (top 11), defScope (top 11), [], []⟩
def d3 : He.DefD := ⟨("_law_row", none), "_law_row", "_law_row", defArgs (top 12), defBody (top 12), defScope (top 12), [], []⟩
def d4 : He.DefD := ⟨("_law_known", none), "_law_known", "_law_known", defArgs (top 13), defBody (top 13), defScope (top 13), [], []⟩
def d5 : He.DefD := ⟨("_law_same", none), "_law_same", "_law_same", defArgs (top 15), defBody (top 15), defScope (top 15), [], []⟩
def d6 : He.DefD := ⟨("_rank", none), "_rank", "_rank", defArgs (top 6), defBody (top 6), defScope (top 6), [], []⟩
def d7 : He.DefD := ⟨("_carried_rank", none), "_carried_rank", "_carried_rank", defArgs (top 7), defBody (top 7), defScope (top 7), [], []⟩
def d8 : He.DefD := ⟨("known_value", none), "known_value", "known_value", defArgs (top 5), defBody (top 5), defScope (top 5), [], []⟩
def d9 : He.DefD := ⟨("_law_both", none), "_law_both", "_law_both", defArgs (top 18), defBody (top 18), defScope (top 18), [], []⟩
def d10 : He.DefD := ⟨("_law_on", none), "_law_on", "_law_on", defArgs (top 19), defBody (top 19), defScope (top 19), [], []⟩
def d11 : He.DefD := ⟨("_law_worth", none), "_law_worth", "_law_worth", defArgs (top 16), defBody (top 16), defScope (top 16), [], []⟩
def d12 : He.DefD := ⟨("_law_due", none), "_law_due", "_law_due", defArgs (top 17), defBody (top 17), defScope (top 17), [], []⟩
def d13 : He.DefD := ⟨("_law_asked", none), "_law_asked", "_law_asked", defArgs (top 20), defBody (top 20), defScope (top 20), [], []⟩
def d14 : He.DefD := ⟨("_law_still", none), "_law_still", "_law_still", defArgs (top 14), defBody (top 14), defScope (top 14), [], []⟩
def d15 : He.DefD := ⟨("law", none), "law", "law", defArgs (top 21), defBody (top 21), defScope (top 21), [], []⟩
def fa : List Fx := [.fa (.free "int"), .fa (.glo "_law_bag"), .fa (.free "list"), .fa (.free "range"), .fa (.free "len"), .fa (.glo "_law_mixed"), .fa (.glo "_law_take"), .fa (.glo "_law_row"), .fa (.free "min"), .fa (.glo "_law_known"), .fa (.free "max"), .fa (.glo "_law_same"), .fa (.int "HOLDS" 2), .fa (.int "FAILS" 0), .fa (.int "UNDECIDED" 1), .fa (.glo "_rank"), .fa (.glo "_carried_rank"), .tup "VALUES" [.bl false, .non, .bl true], .fa (.glo "known_value"), .fa (.glo "_law_both"), .fa (.glo "_law_on"), .fa (.glo "_law_worth"), .fa (.glo "_law_due"), .fa (.glo "_law_asked"), .fa (.glo "_law_still"), .fa (.glo "law")]
def fn : List He.DefD := [d0, d1, d2, d3, d4, d5, d6, d7, d8, d9, d10, d11, d12, d13, d14, d15]
abbrev st__law_bag : Stmt := top 9
abbrev NN__law_bag : List Str := ["script", "cells", "cell"]
theorem sc__law_bag : FnScope NN__law_bag ["script"] (defScope st__law_bag) := ⟨rfl, rfl, rfl, by decide +kernel, rfl, by decide +kernel, by decide +kernel⟩
abbrev F_law_bag : FS (List Int) (Bag) where
  ins := fun x => [.val (tv (rSq .q rInt) x)]
  cells := fun x => []
  m := fun x => m_law_bag x
  out := fun x w => .rf (mv_Bag w) []
section
variable {P : Program} {w : World} {K : PySem.W.Frag} {mg : Str → Option Value} {base : Heap}
set_option maxHeartbeats 4000000 in
theorem fn__law_bag {fd : FuncData} (T : Txt fa fn K mg) (F : FunD K d0.name d0.qual d0.params d0.body d0.scope (d0.dvs K) (d0.kws K) (He.fAd K d0.at_) fd) : FnOk P w K mg base CX0 1 (He.ga K "_law_bag") fd ["script"] (spT K F_law_bag) := by
  have sc := sc__law_bag
  refine F.ok sc (sp_len fun _ => rfl) (fun cdv A outer s H vs Q E hr h => ?_)
  refine ⟨_, PSs.nox (pss_cons (ps_setLc (i := 1) (own := [("cell", 2)]) (g := _) (tt := _) rfl sc.nd rfl rfl (sw_true rfl rfl rfl (by decide +kernel)) (kPiL (K := K) (pe_slice (kSlL (K := K)) (pv 0) po_none (po_some pe_int))) (blkOk_by (N := NN__law_bag) (sc := defScope st__law_bag) (by decide +kernel)) (fun _ _ _ _ _ => (pg_name (i := 2) sc.nd rfl (Or.inl rfl))) (fun _ _ _ _ _ => pts_nil) (fun _ _ _ _ _ => (pe_callTy call_int1 (by rfl) (T.free 0) (by decide +kernel) (pa_cons (pv 2) pa_nil)))) (pss_cons (ps_if (pt_cmpR (kEqD (K := K) hr.units) (pv 1) (pe_lst pa_nil) (nomark _)) (pss_cons (ps_set (i := 1) sc.nd rfl (Or.inl rfl) (pe_lst (pa_cons pe_int pa_nil))) pss_nil) pss_nil) (pss_cons (ps_ret (pe_disp (pps_cons pe_str (pv 1) (pps_cons pe_str pe_int (pps_cons pe_str pe_int (pps_cons pe_str pe_int (pps_cons pe_str pe_int pps_nil))))) rfl rfl (fun z => nomatch z) (by decide))) pss_nil))), ?_⟩
  refine sp_body h fun script => ?_
  show EvB K 0 _ [some (.val (tv (rSq .q rInt) script)), none, none] [] (fun (w : Bag) => OS.rf (mv_Bag w) []) (m_law_bag script)
  unfold m_law_bag
  exact (eb_bind fun cells2 h2 => (eb_asg (ev_lstR (oeF (R := rInt) h2 (ef_map (R' := rInt) (ei_L (ev_lstR (ef_slR (ev_var rfl) eo_none (eo_some ev_int) is_seq))) (fun z => hz_map z) trivial (fun _ => ego_name) (fun x1 => (ev_cb1 (ev_var rfl) rc_int)))))
(eb_ifj (g := fun (s4 : List Int) => [some (.val (tv (rSq .q rInt) script)), some (.val (tv (rSq .l rInt) s4)), none]) (mu := fun (s4 : List Int) => []) (et_test (ev_op (ev_var rfl) (ev_lstR (ef_mkL (R := rInt) (xs := ([] : List Int)) ea_nil)) (rv_eqD (drL drInt) (by decide)))) (fun _ => (eb_bind fun cells3 h3 => (eb_asg (ev_lstR (oeF (R := rInt) h3 (ef_mkL (R := rInt) (xs := ([(0 : Int)] : List Int)) (ea_cons ev_int ea_nil))))
(eb_nil rfl (.keep (.keep (.keep .nil))) rfl (Nat.le_of_ble_eq_true rfl) rfl))))
(fun _ => (eb_nil rfl (.keep (.keep (.keep .nil))) rfl (Nat.le_of_ble_eq_true rfl) rfl)) (fun _ => Nat.le_of_ble_eq_true rfl)
(fun s4 => (eb_retF (ef_rdisp (ts := [tv (rSq .l rInt) s4, tv rInt (0 : Int), tv rInt (0 : Int), tv rInt (0 : Int), tv rInt (0 : Int)]) (ep_cons (ev_var rfl) (ep_cons ev_int (ep_cons ev_int (ep_cons ev_int (ep_cons ev_int ep_nil))))) rfl nd_Bag rfl) rfl rfl)))))
theorem ok__law_bag (T : Txt fa fn K mg) : OkF P w K mg base "_law_bag" ["script"] 1 (spT K F_law_bag) := by
  obtain ⟨fd, F⟩ := T.c.def_ 0 rfl
  exact ⟨fd, fn__law_bag T F, FunD.bindsN F fun _ _ _ _ _ _ us hl => match us, hl with | [_], _ => rfl, F.kp, T.glob 1 rfl⟩
end
abbrev st__law_mixed : Stmt := top 10
abbrev NN__law_mixed : List Str := ["cell", "at", "turn", "number", "first", "second", "third"]
theorem sc__law_mixed : FnScope NN__law_mixed ["cell", "at", "turn"] (defScope st__law_mixed) := ⟨rfl, rfl, rfl, by decide +kernel, rfl, by decide +kernel, by decide +kernel⟩
abbrev F_law_mixed : FS (Int × Int × Int) (Int) where
  ins := fun x => [.val (tv rInt x.1), .val (tv rInt x.2.1), .val (tv rInt x.2.2)]
  cells := fun x => []
  m := fun x => m_law_mixed x.1 x.2.1 x.2.2
  out := fun x w => .rt (tv rInt w) []
section
variable {P : Program} {w : World} {K : PySem.W.Frag} {mg : Str → Option Value} {base : Heap}
set_option maxHeartbeats 4000000 in
theorem fn__law_mixed {fd : FuncData} (T : Txt fa fn K mg) (F : FunD K d1.name d1.qual d1.params d1.body d1.scope (d1.dvs K) (d1.kws K) (He.fAd K d1.at_) fd) : FnOk P w K mg base CX0 1 (He.ga K "_law_mixed") fd ["cell", "at", "turn"] (spT K F_law_mixed) := by
  have sc := sc__law_mixed
  refine F.ok sc (sp_len fun _ => rfl) (fun cdv A outer s H vs Q E hr h => ?_)
  refine ⟨_, PSs.nox (pss_cons (ps_set (i := 3) sc.nd rfl (Or.inl rfl) (pe_op op_mod (pe_callTy call_int1 (by rfl) (T.free 0) (by decide +kernel) (pa_cons (pv 0) pa_nil)) pe_int)) (pss_cons (ps_set (i := 4) sc.nd rfl (Or.inl rfl) (pe_op op_mod (pe_callTy call_int1 (by rfl) (T.free 0) (by decide +kernel) (pa_cons (pe_op op_add (pe_op op_add (pe_op op_add (pe_op op_mul (pv 3) pe_int) (pe_op op_mul (pv 2) pe_int)) (pe_op op_mul (pv 1) pe_int)) pe_int) pa_nil)) pe_int)) (pss_cons (ps_set (i := 5) sc.nd rfl (Or.inl rfl) (pe_op op_mod (pe_callTy call_int1 (by rfl) (T.free 0) (by decide +kernel) (pa_cons (pe_op op_add (pe_op op_add (pe_op op_mulX (pv 4) (pv 4)) (pe_op op_mul (pv 2) pe_int)) (pv 3)) pa_nil)) pe_int)) (pss_cons (ps_set (i := 6) sc.nd rfl (Or.inl rfl) (pe_op op_mod (pe_callTy call_int1 (by rfl) (T.free 0) (by decide +kernel) (pa_cons (pe_op op_add (pe_op op_mulX (pv 5) (pv 5)) (pv 4)) pa_nil)) pe_int)) (pss_cons (ps_ret (pe_op op_fdivW (pv 6) pe_int)) pss_nil))))), ?_⟩
  refine sp_body h fun x => ?_
  obtain ⟨cell, at_, turn⟩ := x
  show EvB K 0 _ [some (.val (tv rInt cell)), some (.val (tv rInt at_)), some (.val (tv rInt turn)), none, none, none, none] [] (fun (w : Int) => OS.rt (tv rInt w) []) (m_law_mixed cell at_ turn)
  unfold m_law_mixed
  exact (eb_bind fun number1 h1 => (eb_asg (oeV h1 (ev_op (ev_cb1 (ev_var rfl) rc_int) ev_int (rv_mod (by decide))))
(eb_bind fun first2 h2 => (eb_asg (oeV h2 (ev_op (ev_cb1 (ev_op (ev_op (ev_op (ev_op (ev_var rfl) ev_int (rv_mulC (.inr ⟨by decide, by decide⟩))) (ev_op (ev_var rfl) ev_int (rv_mulC (.inr ⟨by decide, by decide⟩))) rv_add) (ev_op (ev_var rfl) ev_int (rv_mulC (.inr ⟨by decide, by decide⟩))) rv_add) ev_int rv_add) rc_int) ev_int (rv_mod (by decide))))
(eb_bind fun r3 h3 => eb_bind fun second4 h4 => (eb_asg (oeV h4 (ev_op (ev_cb1 (ev_op (ev_op (ev_op (ev_var rfl) (ev_var rfl) (rv_mulP h3)) (ev_op (ev_var rfl) ev_int (rv_mulC (.inr ⟨by decide, by decide⟩))) rv_add) (ev_var rfl) rv_add) rc_int) ev_int (rv_mod (by decide))))
(eb_bind fun r5 h5 => eb_bind fun third6 h6 => (eb_asg (oeV h6 (ev_op (ev_cb1 (ev_op (ev_op (ev_var rfl) (ev_var rfl) (rv_mulP h5)) (ev_var rfl) rv_add) rc_int) ev_int (rv_mod (by decide))))
(eb_ret (ev_op (ev_var rfl) ev_int (rv_fdiv ⟨by decide, by decide +kernel⟩)) rfl rfl)))))))))
theorem ok__law_mixed (T : Txt fa fn K mg) : OkF P w K mg base "_law_mixed" ["cell", "at", "turn"] 1 (spT K F_law_mixed) := by
  obtain ⟨fd, F⟩ := T.c.def_ 1 rfl
  exact ⟨fd, fn__law_mixed T F, FunD.bindsN F fun _ _ _ _ _ _ us hl => match us, hl with | [_, _, _], _ => rfl, F.kp, T.glob 5 rfl⟩
end
abbrev st__law_take : Stmt := top 11
abbrev NN__law_take : List Str := ["bag", "size", "digit", "at", "cell"]
theorem sc__law_take : FnScope NN__law_take ["bag", "size"] (defScope st__law_take) := ⟨rfl, rfl, rfl, by decide +kernel, rfl, by decide +kernel, by decide +kernel⟩
abbrev F_law_take : FS (Bag × Int) (Int × Bag) where
  ins := fun x => [.cell 0, .val (tv rInt x.2)]
  cells := fun x => [some (mv_Bag x.1)]
  m := fun x => m_law_take x.1 x.2
  out := fun x w => .rt (tv rInt w.1) [some (mv_Bag w.2)]
section
variable {P : Program} {w : World} {K : PySem.W.Frag} {mg : Str → Option Value} {base : Heap}
set_option maxHeartbeats 4000000 in
theorem fn__law_take {fd : FuncData} (T : Txt fa fn K mg) (F : FunD K d2.name d2.qual d2.params d2.body d2.scope (d2.dvs K) (d2.kws K) (He.fAd K d2.at_) fd) : FnOk P w K mg base CX0 2 (He.ga K "_law_take") fd ["bag", "size"] (spT K F_law_take) := by
  have sc := sc__law_take
  obtain ⟨fd0, G0, b0, k0, g0⟩ := ok__law_mixed (P := P) (w := w) (base := base) T
  refine F.ok sc (sp_len fun _ => rfl) (fun cdv A outer s H vs Q E hr h => ?_)
  refine ⟨_, PSs.nox (pss_cons (ps_dput (Nat.lt_of_le_of_lt (Nat.add_le_add_left (by decide) _) hr.units) (pv 0) pe_str (pe_op op_add (pe_dget (Nat.lt_of_le_of_lt (Nat.add_le_add_left (by decide) _) hr.units) (pv 0) pe_str (fun _ _ => rfl)) pe_int) (by rfl)) (pss_cons (ps_if (PW.pt (pw_or (pt_cmpR op_eq (pe_dget (Nat.lt_of_le_of_lt (Nat.add_le_add_left (by decide) _) hr.units) (pv 0) pe_str (fun _ _ => rfl)) pe_int (nomark _)) (pw_or1 (pt_cmpR op_eq (pe_dget (Nat.lt_of_le_of_lt (Nat.add_le_add_left (by decide) _) hr.units) (pv 0) pe_str (fun _ _ => rfl)) pe_int (nomark _))))) (pss_cons (ps_set (i := 3) sc.nd rfl (Or.inl rfl) (pe_dget (Nat.lt_of_le_of_lt (Nat.add_le_add_left (by decide) _) hr.units) (pv 0) pe_str (fun _ _ => rfl))) (pss_cons (ps_set (i := 4) sc.nd rfl (Or.inl rfl) (pe_ix (kIxL (K := K)) (pe_dget (Nat.lt_of_le_of_lt (Nat.add_le_add_left (by decide) _) hr.units) (pv 0) pe_str (fun _ _ => rfl)) (pe_op op_mod (pe_callTy call_int1 (by rfl) (T.free 0) (by decide +kernel) (pa_cons (pv 3) pa_nil)) (pe_callB (kLen (K := K)) (by rfl) (T.free 4) (by decide +kernel) (pa_cons (pe_dget (Nat.lt_of_le_of_lt (Nat.add_le_add_left (by decide) _) hr.units) (pv 0) pe_str (fun _ _ => rfl)) pa_nil))) (fun _ _ => rfl))) (pss_cons (ps_dput (Nat.lt_of_le_of_lt (Nat.add_le_add_left (by decide) _) hr.units) (pv 0) pe_str (pe_op op_add (pv 3) pe_int) (by rfl)) (pss_cons (ps_if (PW.pt (pw_or (pt_cmpR op_ge (pv 3) (pe_callB (kLen (K := K)) (by rfl) (T.free 4) (by decide +kernel) (pa_cons (pe_dget (Nat.lt_of_le_of_lt (Nat.add_le_add_left (by decide) _) hr.units) (pv 0) pe_str (fun _ _ => rfl)) pa_nil)) (nomark _)) (pw_or1 (pt_cmpR op_lt (pv 4) (pe_op op_powW pe_int pe_int) (nomark _))))) (pss_cons (ps_ret (pe_op op_mod (pe_callTy call_int1 (by rfl) (T.free 0) (by decide +kernel) (pa_cons (pe_call G0 (hr.mono (by decide)) rfl g0 k0 b0 .nil pass0 (pa_cons (pv 4) (pa_cons (pv 3) (pa_cons (pe_dget (Nat.lt_of_le_of_lt (Nat.add_le_add_left (by decide) _) hr.units) (pv 0) pe_str (fun _ _ => rfl)) pa_nil)))) pa_nil)) (pv 1))) pss_nil) pss_nil) (pss_cons (ps_dput (Nat.lt_of_le_of_lt (Nat.add_le_add_left (by decide) _) hr.units) (pv 0) pe_str (pe_op op_mod (pe_callTy call_int1 (by rfl) (T.free 0) (by decide +kernel) (pa_cons (pv 4) pa_nil)) (pe_op op_mulX (pe_op op_powW pe_int pe_int) (pe_op op_powW pe_int pe_int))) (by rfl)) (pss_cons (ps_dput (Nat.lt_of_le_of_lt (Nat.add_le_add_left (by decide) _) hr.units) (pv 0) pe_str pe_int (by rfl)) pss_nil)))))) pss_nil) (pss_cons (ps_set (i := 2) sc.nd rfl (Or.inl rfl) (pe_op op_mod (pe_callTy call_int1 (by rfl) (T.free 0) (by decide +kernel) (pa_cons (pe_dget (Nat.lt_of_le_of_lt (Nat.add_le_add_left (by decide) _) hr.units) (pv 0) pe_str (fun _ _ => rfl)) pa_nil)) (pv 1))) (pss_cons (ps_dput (Nat.lt_of_le_of_lt (Nat.add_le_add_left (by decide) _) hr.units) (pv 0) pe_str (pe_op op_fdivW (pe_callTy call_int1 (by rfl) (T.free 0) (by decide +kernel) (pa_cons (pe_dget (Nat.lt_of_le_of_lt (Nat.add_le_add_left (by decide) _) hr.units) (pv 0) pe_str (fun _ _ => rfl)) pa_nil)) (pv 1)) (by rfl)) (pss_cons (ps_dput (Nat.lt_of_le_of_lt (Nat.add_le_add_left (by decide) _) hr.units) (pv 0) pe_str (pe_op op_sub (pe_dget (Nat.lt_of_le_of_lt (Nat.add_le_add_left (by decide) _) hr.units) (pv 0) pe_str (fun _ _ => rfl)) pe_int) (by rfl)) (pss_cons (ps_ret (pv 2)) pss_nil)))))), ?_⟩
  refine sp_body h fun x => ?_
  obtain ⟨bag, size⟩ := x
  show EvB K 1 _ [some (.cell 0), some (.val (tv rInt size)), none, none, none] [some (mv_Bag bag)] (fun (w : Int × Bag) => OS.rt (tv rInt w.1) [some (mv_Bag w.2)]) (m_law_take bag size)
  unfold m_law_take
  exact (eb_rput (i := 4) (ev_op (ev_rget (i := 4) (ev_var rfl) rfl nd_Bag rfl rfl) ev_int rv_add) (ev_var rfl) rfl nd_Bag rfl rfl
(eb_ifj (g := fun (s7 : Bag) => [some (.cell 0), some (.val (tv rInt size)), none, none, none]) (mu := fun (s7 : Bag) => [some (mv_Bag s7)]) (et_or0 (et_test (ev_op (ev_rget (i := 3) (ev_var rfl) rfl nd_Bag rfl rfl) ev_int rv_eqI)) (et_test (ev_op (ev_rget (i := 2) (ev_var rfl) rfl nd_Bag rfl rfl) ev_int rv_eqI))) (fun _ => (eb_asg (ev_rget (i := 1) (ev_var rfl) rfl nd_Bag rfl rfl)
(eb_bind fun r1 h1 => eb_bind fun r2 h2 => (eb_asg (ev_op (ev_rget (i := 0) (ev_var rfl) rfl nd_Bag rfl rfl) (ev_op (ev_cb1 (ev_var rfl) rc_int) (ev_cb1 (ev_rget (i := 0) (ev_var rfl) rfl nd_Bag rfl rfl) (rc_lenL is_seq)) (rv_modP h1)) (rv_ixL is_seq (at_map h2)))
(eb_rput (i := 1) (ev_op (ev_var rfl) ev_int rv_add) (ev_var rfl) rfl nd_Bag rfl rfl
(eb_ifr (et_or0 (et_test (ev_op (ev_var rfl) (ev_cb1 (ev_rget (i := 0) (ev_var rfl) rfl nd_Bag rfl rfl) (rc_lenL is_seq)) rv_ge)) (et_test (ev_op (ev_var rfl) (ev_as (s' := vI ((10 : Int) ^ 18)) (ev_op ev_int ev_int (rv_pow ⟨by decide, by decide +kernel⟩)) rfl) rv_lt))) (fun _ => eb_bind fun r3 h3 => eb_bind fun r4 h4 => (eb_ret (ev_op (ev_cb1 (ev_call (ts := [tv rInt r2, tv rInt bag.at_, tv rInt (bag.turn + (1 : Int))]) (x := (r2, bag.at_, (bag.turn + (1 : Int)))) (ea_cons (ev_var rfl) (ea_cons (ev_var rfl) (ea_cons (ev_rget (i := 4) (ev_var rfl) rfl nd_Bag rfl rfl) ea_nil))) (hm := h3)) rc_int) (ev_var rfl) (rv_modP h4)) rfl rfl))
(fun _ => (eb_bind fun r5 h5 => eb_bind fun r6 h6 => (eb_rput (i := 2) (ev_op (ev_cb1 (ev_var rfl) rc_int) (ev_op (ev_as (s' := vI ((10 : Int) ^ 60)) (ev_op ev_int ev_int (rv_pow ⟨by decide, by decide +kernel⟩)) rfl) (ev_as (s' := vI ((10 : Int) ^ 40)) (ev_op ev_int ev_int (rv_pow ⟨by decide, by decide +kernel⟩)) rfl) (rv_mulP h5)) (rv_modP h6)) (ev_var rfl) rfl nd_Bag rfl rfl
(eb_rput (i := 3) ev_int (ev_var rfl) rfl nd_Bag rfl rfl
(eb_nil rfl (.keep (.keep (.keep (.drop (.drop .nil))))) rfl (Nat.le_of_ble_eq_true rfl) rfl)))))))))))
(fun _ => (eb_nil rfl (.keep (.keep (.keep (.keep (.keep .nil))))) rfl (Nat.le_of_ble_eq_true rfl) rfl)) (fun _ => Nat.le_of_ble_eq_true rfl)
(fun s7 => (eb_bind fun r8 h8 => (eb_asg (ev_op (ev_cb1 (ev_rget (i := 2) (ev_var rfl) rfl nd_Bag rfl rfl) rc_int) (ev_var rfl) (rv_modP h8))
(eb_bind fun r9 h9 => (eb_rput (i := 2) (ev_op (ev_cb1 (ev_rget (i := 2) (ev_var rfl) rfl nd_Bag rfl rfl) rc_int) (ev_var rfl) (rv_fdivP h9)) (ev_var rfl) rfl nd_Bag rfl rfl
(eb_rput (i := 3) (ev_op (ev_rget (i := 3) (ev_var rfl) rfl nd_Bag rfl rfl) ev_int rv_sub) (ev_var rfl) rfl nd_Bag rfl rfl
(eb_ret (ev_var rfl) rfl rfl)))))))))
theorem ok__law_take (T : Txt fa fn K mg) : OkF P w K mg base "_law_take" ["bag", "size"] 2 (spT K F_law_take) := by
  obtain ⟨fd, F⟩ := T.c.def_ 2 rfl
  exact ⟨fd, fn__law_take T F, FunD.bindsN F fun _ _ _ _ _ _ us hl => match us, hl with | [_, _], _ => rfl, F.kp, T.glob 6 rfl⟩
end
abbrev st__law_row : Stmt := top 12
abbrev NN__law_row : List Str := ["bag", "size", "far", "steady", "lean", "menu", "many", "pattern", "row", "k", "when"]
theorem sc__law_row : FnScope NN__law_row ["bag", "size", "far", "steady"] (defScope st__law_row) := ⟨rfl, rfl, rfl, by decide +kernel, rfl, by decide +kernel, by decide +kernel⟩
abbrev F_law_row : FS (Bag × Int × Bool × Int) ((List Int) × Bag) where
  ins := fun x => [.cell 0, .val (tv rInt x.2.1), .val (tv rBool x.2.2.1), .val (tv rInt x.2.2.2)]
  cells := fun x => [some (mv_Bag x.1)]
  m := fun x => m_law_row x.1 x.2.1 x.2.2.1 x.2.2.2
  out := fun x w => .rf (mL (w.1.map (tv rInt))) [some (mv_Bag w.2)]
section
variable {P : Program} {w : World} {K : PySem.W.Frag} {mg : Str → Option Value} {base : Heap}
set_option maxHeartbeats 4000000 in
theorem fn__law_row {fd : FuncData} (T : Txt fa fn K mg) (F : FunD K d3.name d3.qual d3.params d3.body d3.scope (d3.dvs K) (d3.kws K) (He.fAd K d3.at_) fd) : FnOk P w K mg base CX0 3 (He.ga K "_law_row") fd ["bag", "size", "far", "steady"] (spT K F_law_row) := by
  have sc := sc__law_row
  obtain ⟨fd0, G0, b0, k0, g0⟩ := ok__law_take (P := P) (w := w) (base := base) T
  refine F.ok sc (sp_len fun _ => rfl) (fun cdv A outer s H vs Q E hr h => ?_)
  refine ⟨_, PSs.nox (pss_cons (ps_set (i := 4) sc.nd rfl (Or.inl rfl) (pe_call G0 (hr.mono (by decide)) rfl g0 k0 b0 .nil pass0 (pa_cons (pv 0) (pa_cons pe_int pa_nil)))) (pss_cons (ps_set (i := 5) sc.nd rfl (Or.inr rfl) (pe_lst (pa_cons pe_int (pa_cons pe_int (pa_cons pe_int (pa_cons (pv 4) (pa_cons (pv 4) (pa_cons (pv 4) (pa_cons (pv 4) pa_nil))))))))) (pss_cons (ps_if (pt_not (pt_val (pv 2))) (pss_cons (ps_ret (pe_lc (own := [("k", 9)]) (g := _) (tt := _) rfl sc.nd (pi_range1 rfl (T.free 3) (pa_cons (pv 1) pa_nil)) (blkOk_by (N := NN__law_row) (sc := defScope st__law_row) (by decide +kernel)) (fun _ _ _ _ _ => (pg_name (i := 9) sc.nd rfl (Or.inl rfl))) (fun _ _ _ _ _ => pts_nil) (fun _ _ _ _ _ => (pe_ix (kIxL (K := K)) (pv 5) (pe_call G0 (hr.mono (by decide)) rfl g0 k0 b0 .nil pass0 (pa_cons (pv 0) (pa_cons pe_int pa_nil))) (fun _ _ => rfl))))) pss_nil) pss_nil) (pss_cons (ps_set (i := 6) sc.nd rfl (Or.inr rfl) (pe_op op_add pe_int (pe_call G0 (hr.mono (by decide)) rfl g0 k0 b0 .nil pass0 (pa_cons (pv 0) (pa_cons pe_int pa_nil))))) (pss_cons (ps_set (i := 7) sc.nd rfl (Or.inr rfl) (pe_lc (own := [("k", 9)]) (g := _) (tt := _) rfl sc.nd (pi_range1 rfl (T.free 3) (pa_cons (pv 6) pa_nil)) (blkOk_by (N := NN__law_row) (sc := defScope st__law_row) (by decide +kernel)) (fun _ _ _ _ _ => (pg_name (i := 9) sc.nd rfl (Or.inl rfl))) (fun _ _ _ _ _ => pts_nil) (fun _ _ _ _ _ => (pe_ix (kIxL (K := K)) (pv 5) (pe_call G0 (hr.mono (by decide)) rfl g0 k0 b0 .nil pass0 (pa_cons (pv 0) (pa_cons pe_int pa_nil))) (fun _ _ => rfl))))) (pss_cons (ps_if (pt_cmpR op_ge (pv 3) pe_int (nomark _)) (pss_cons (ps_set (i := 7) sc.nd rfl (Or.inr rfl) (pe_lc (own := [("k", 9)]) (g := _) (tt := _) rfl sc.nd (pi_range1 rfl (T.free 3) (pa_cons (pv 6) pa_nil)) (blkOk_by (N := NN__law_row) (sc := defScope st__law_row) (by decide +kernel)) (fun _ _ _ _ _ => (pg_name (i := 9) sc.nd rfl (Or.inl rfl))) (fun _ _ _ _ _ => pts_nil) (fun _ _ _ _ _ => (pv 3)))) pss_nil) pss_nil) (pss_cons (ps_setLc (i := 8) (own := [("k", 9)]) (g := _) (tt := _) rfl sc.nd rfl rfl (sw_true rfl rfl rfl (by decide +kernel)) (pi_range1 rfl (T.free 3) (pa_cons (pv 1) pa_nil)) (blkOk_by (N := NN__law_row) (sc := defScope st__law_row) (by decide +kernel)) (fun _ _ _ _ _ => (pg_name (i := 9) sc.nd rfl (Or.inl rfl))) (fun _ _ _ _ _ => pts_nil) (fun _ _ _ _ _ => (pe_ix (kIxL (K := K)) (pv 7) (pe_op op_mod (pe_callTy call_int1 (by rfl) (T.free 0) (by decide +kernel) (pa_cons (pv 9) pa_nil)) (pv 6)) (fun _ _ => rfl)))) (pss_cons (ps_for PassesOwn.never rfl (pi_range1 rfl (T.free 3) (pa_cons (pe_call G0 (hr.mono (by decide)) rfl g0 k0 b0 .nil pass0 (pa_cons (pv 0) (pa_cons pe_int pa_nil))) pa_nil)) (pg_name (i := 9) sc.nd rfl (Or.inl rfl)) (pss_cons (ps_set (i := 10) sc.nd rfl (Or.inl rfl) (pe_call G0 (hr.mono (by decide)) rfl g0 k0 b0 .nil pass0 (pa_cons (pv 0) (pa_cons (pv 1) pa_nil)))) (pss_cons (ps_asg (pe_call G0 (hr.mono (by decide)) rfl g0 k0 b0 .nil pass0 (pa_cons (pv 0) (pa_cons pe_int pa_nil))) (pg_sub (pv 8) (pv 10) set_list)) pss_nil))) (pss_cons (ps_ret (pv 8)) pss_nil))))))))), ?_⟩
  refine sp_body h fun x => ?_
  obtain ⟨bag, size, far, steady⟩ := x
  show EvB K 1 _ [some (.cell 0), some (.val (tv rInt size)), some (.val (tv rBool far)), some (.val (tv rInt steady)), none, none, none, none, none, none, none] [some (mv_Bag bag)] (fun (w : (List Int) × Bag) => OS.rf (mL (w.1.map (tv rInt))) [some (mv_Bag w.2)]) (m_law_row bag size far steady)
  unfold m_law_row
  exact (eb_bind fun r1 h1 => (eb_asg (ev_call1 (k := 0) (x := (bag, (3 : Int))) (ea_cons (ev_var rfl) (ea_cons ev_int ea_nil)) rfl (hm := h1))
(eb_bind fun menu2 h2 => (eb_asg (ev_lstR (oeF (R := rInt) h2 (ef_mkL (R := rInt) (xs := ([(0 : Int), (1 : Int), (2 : Int), r1.1, r1.1, r1.1, r1.1] : List Int)) (ea_cons ev_int (ea_cons ev_int (ea_cons ev_int (ea_cons (ev_var rfl) (ea_cons (ev_var rfl) (ea_cons (ev_var rfl) (ea_cons (ev_var rfl) ea_nil))))))))))
(eb_ifr (et_not (et_B (ev_var rfl))) (fun _ => eb_bind fun r3 h3 => eb_bind fun r4 h4 => eb_bind fun r11 h11 => (eb_retF (ef_mapS (mu := fun s8 => [some (mv_Bag s8)]) (R' := rInt) (ei_rng1 (ea_cons (ev_var rfl) ea_nil) (rngP_ok h3).2) (fun _ => hz_size h4) (fun _ => trivial) (fun _ => rfl) (fun _ => ego_name) (fun s8 x5 y13 s14 e12 => bo e12 fun r9 h9 e12 => bo e12 fun r10 h10 e12 => oeP (mu := fun s8 => [some (mv_Bag s8)]) e12 (ev_op (ev_var rfl) (ev_call1 (k := 0) (x := (s8, (7 : Int))) (ea_cons (ev_var rfl) (ea_cons ev_int ea_nil)) rfl (hm := h9)) (rv_ixL is_seq (at_map h10)))) (pairR h11)) rfl rfl))
(fun _ => (eb_bind fun r15 h15 => eb_bind fun many16 h16 => (eb_asg (oeV h16 (ev_op ev_int (ev_call1 (k := 0) (x := (r1.2, (6 : Int))) (ea_cons (ev_var rfl) (ea_cons ev_int ea_nil)) rfl (hm := h15)) rv_add))
(eb_bind fun r17 h17 => eb_bind fun r18 h18 => eb_bind fun r25 h25 => (eb_asg (ev_lstR (ef_mapS (mu := fun s22 => [some (mv_Bag s22)]) (R' := rInt) (ei_rng1 (ea_cons (ev_var rfl) ea_nil) (rngP_ok h17).2) (fun _ => hz_size h18) (fun _ => trivial) (fun _ => rfl) (fun _ => ego_name) (fun s22 x19 y27 s28 e26 => bo e26 fun r23 h23 e26 => bo e26 fun r24 h24 e26 => oeP (mu := fun s22 => [some (mv_Bag s22)]) e26 (ev_op (ev_var rfl) (ev_call1 (k := 0) (x := (s22, (7 : Int))) (ea_cons (ev_var rfl) (ea_cons ev_int ea_nil)) rfl (hm := h23)) (rv_ixL is_seq (at_map h24)))) (pairR h25)))
(eb_ifj (g := fun (s33 : List Int) => [some (.cell 0), some (.val (tv rInt size)), some (.val (tv rBool far)), some (.val (tv rInt steady)), some (.val (tv rInt r1.1)), some (.val (tv (rSq .l rInt) menu2)), some (.val (tv rInt many16)), some (.val (tv (rSq .l rInt) s33)), none, none, none]) (mu := fun (s33 : List Int) => [some (mv_Bag r25.2)]) (et_test (ev_op (ev_var rfl) ev_int rv_ge)) (fun _ => (eb_bind fun r29 h29 => eb_bind fun r30 h30 => eb_bind fun pattern32 h32 => (eb_asg (ev_lstR (oeF (R := rInt) h32 (ef_map (R' := rInt) (ei_rng1 (ea_cons (ev_var rfl) ea_nil) (rngP_ok h29).2) (fun _ => hz_size h30) trivial (fun _ => ego_name) (fun x31 => (ev_var rfl)))))
(eb_nil rfl (.keep (.keep (.keep (.keep (.keep (.keep (.keep (.keep (.keep (.keep (.keep .nil))))))))))) rfl (Nat.le_of_ble_eq_true rfl) rfl))))
(fun _ => (eb_nil rfl (.keep (.keep (.keep (.keep (.keep (.keep (.keep (.keep (.keep (.keep (.keep .nil))))))))))) rfl (Nat.le_of_ble_eq_true rfl) rfl)) (fun _ => Nat.le_of_ble_eq_true rfl)
(fun s33 => (eb_bind fun r34 h34 => eb_bind fun r35 h35 => eb_bind fun r39 h39 => (eb_asg (ev_own (ef_mapR (R' := rInt) (ei_rng1 (ea_cons (ev_var rfl) ea_nil) (rngP_ok h34).2) (fun _ => hz_size h35) trivial (fun _ => ego_name) (fun x36 y41 e40 => bo e40 fun r37 h37 e40 => bo e40 fun r38 h38 e40 => oeV e40 (ev_op (ev_var rfl) (ev_op (ev_cb1 (ev_var rfl) rc_int) (ev_var rfl) (rv_modP h37)) (rv_ixL is_seq (at_map h38)))) h39))
(eb_bind fun r42 h42 => eb_bind fun r43 h43 => (eb_for (g := fun (s44 : Bag × (List Int)) => [some (.cell 0), some (.val (tv rInt size)), some (.val (tv rBool far)), some (.val (tv rInt steady)), some (.val (tv rInt r1.1)), some (.val (tv (rSq .l rInt) menu2)), some (.val (tv rInt many16)), some (.val (tv (rSq .l rInt) s33)), some (.cell 1), none, none]) (mu := fun (s44 : Bag × (List Int)) => [some (mv_Bag s44.1), some (mL (s44.2.map (tv rInt)))]) (ei_rng1 (ea_cons (ev_call1 (k := 0) (x := (r25.2, (5 : Int))) (ea_cons (ev_var rfl) (ea_cons ev_int ea_nil)) rfl (hm := h42)) ea_nil) (rngP_ok h43).2) (fun _ => trivial) (.keep (.keep (.keep (.keep (.keep (.keep (.keep (.keep (.keep (.keep (.keep .nil))))))))))) (fun _ => rfl) (fun _ _ => eg_name)
(fun s44 x45 => (eb_bind fun r46 h46 => (eb_asg (ev_call1 (k := 0) (x := (s44.1, size)) (ea_cons (ev_var rfl) (ea_cons (ev_var rfl) ea_nil)) rfl (hm := h46))
(eb_bind fun r47 h47 => eb_bind fun r48 h48 => (eb_setI (ev_call1 (k := 0) (x := (r46.2, (3 : Int))) (ea_cons (ev_var rfl) (ea_cons ev_int ea_nil)) rfl (hm := h47)) (ev_var rfl) (ev_var rfl) rfl h48
(eb_nil rfl (.keep (.keep (.keep (.keep (.keep (.keep (.keep (.keep (.keep (.drop (.drop .nil))))))))))) rfl (Nat.le_of_ble_eq_true rfl) rfl))))))
(fun s44 => (eb_retC (k := 1) (ev_var rfl) rfl rfl rfl (Nat.le_of_ble_eq_true rfl) (Nat.le_of_ble_eq_true rfl)))))))))))))))))))
theorem ok__law_row (T : Txt fa fn K mg) : OkF P w K mg base "_law_row" ["bag", "size", "far", "steady"] 3 (spT K F_law_row) := by
  obtain ⟨fd, F⟩ := T.c.def_ 3 rfl
  exact ⟨fd, fn__law_row T F, FunD.bindsN F fun _ _ _ _ _ _ us hl => match us, hl with | [_, _, _, _], _ => rfl, F.kp, T.glob 7 rfl⟩
end
abbrev st__law_known : Stmt := top 13
abbrev NN__law_known : List Str := ["atoms", "rows", "known", "k", "when"]
theorem sc__law_known : FnScope NN__law_known ["atoms", "rows"] (defScope st__law_known) := ⟨rfl, rfl, rfl, by decide +kernel, rfl, by decide +kernel, by decide +kernel⟩
abbrev F_law_known : FS ((List Int) × (List (List Int))) (List ((Int × Int) × Bool)) where
  ins := fun x => [.val (tv (rSq .l rInt) x.1), .val (tv (rSq .l (rSq .l rInt)) x.2)]
  cells := fun x => []
  m := fun x => m_law_known x.1 x.2
  out := fun x w => .rf (mD (ky2 keInt keInt) rBool w) []
section
variable {P : Program} {w : World} {K : PySem.W.Frag} {mg : Str → Option Value} {base : Heap}
set_option maxHeartbeats 4000000 in
theorem fn__law_known {fd : FuncData} (T : Txt fa fn K mg) (F : FunD K d4.name d4.qual d4.params d4.body d4.scope (d4.dvs K) (d4.kws K) (He.fAd K d4.at_) fd) : FnOk P w K mg base CX0 1 (He.ga K "_law_known") fd ["atoms", "rows"] (spT K F_law_known) := by
  have sc := sc__law_known
  refine F.ok sc (sp_len fun _ => rfl) (fun cdv A outer s H vs Q E hr h => ?_)
  refine ⟨_, PSs.nox (pss_cons (ps_set (i := 2) sc.nd rfl (Or.inl rfl) (pe_dnewT)) (pss_cons (ps_for PassesOwn.never rfl (pi_range1 rfl (T.free 3) (pa_cons (pe_callB (kLen (K := K)) (by rfl) (T.free 4) (by decide +kernel) (pa_cons (pv 0) pa_nil)) pa_nil)) (pg_name (i := 3) sc.nd rfl (Or.inl rfl)) (pss_cons (ps_for PassesOwn.never rfl (pi_range1 rfl (T.free 3) (pa_cons (pe_callB (kLen (K := K)) (by rfl) (T.free 4) (by decide +kernel) (pa_cons (pe_ix (kIxL (K := K)) (pv 1) (pv 3) (fun _ _ => rfl)) pa_nil)) pa_nil)) (pg_name (i := 4) sc.nd rfl (Or.inl rfl)) (pss_cons (ps_if (pt_cmpR op_ne (pe_ix (kIxL (K := K)) (pe_ix (kIxL (K := K)) (pv 1) (pv 3) (fun _ _ => rfl)) (pv 4) (fun _ _ => rfl)) pe_int (nomark _)) (pss_cons (ps_dput (Nat.lt_of_le_of_lt (Nat.add_le_add_left (by decide) _) hr.units) (pv 2) (pe_tup (pa_cons (pv 4) (pa_cons (pe_ix (kIxL (K := K)) (pv 0) (pv 3) (fun _ _ => rfl)) pa_nil))) (pe_cmpR op_eq (pe_ix (kIxL (K := K)) (pe_ix (kIxL (K := K)) (pv 1) (pv 3) (fun _ _ => rfl)) (pv 4) (fun _ _ => rfl)) pe_int (nomark _)) (by rfl)) pss_nil) pss_nil) pss_nil)) pss_nil)) (pss_cons (ps_ret (pv 2)) pss_nil))), ?_⟩
  refine sp_body h fun x => ?_
  obtain ⟨atoms, rows⟩ := x
  show EvB K 0 _ [some (.val (tv (rSq .l rInt) atoms)), some (.val (tv (rSq .l (rSq .l rInt)) rows)), none, none, none] [] (fun (w : List ((Int × Int) × Bool)) => OS.rf (mD (ky2 keInt keInt) rBool w) []) (m_law_known atoms rows)
  unfold m_law_known
  exact (eb_asg (ev_own (ef_dnewT (Y := (ky2 keInt keInt)) (R := rBool)))
(eb_bind fun r2 h2 => (eb_for (g := fun (s3 : List ((Int × Int) × Bool)) => [some (.val (tv (rSq .l rInt) atoms)), some (.val (tv (rSq .l (rSq .l rInt)) rows)), some (.cell 0), none, none]) (mu := fun (s3 : List ((Int × Int) × Bool)) => [some (mD (ky2 keInt keInt) rBool s3)]) (ei_rng1 (ea_cons (ev_cb1 (ev_var rfl) (rc_lenL is_seq)) ea_nil) (rngP_ok h2).2) (fun _ => trivial) (.keep (.keep (.keep (.keep (.keep .nil))))) (fun _ => rfl) (fun _ _ => eg_name)
(fun s3 x4 => (eb_bind fun r5 h5 => eb_bind fun r6 h6 => (eb_for (g := fun (s7 : List ((Int × Int) × Bool)) => [some (.val (tv (rSq .l rInt) atoms)), some (.val (tv (rSq .l (rSq .l rInt)) rows)), some (.cell 0), some (.val (tv rInt x4)), none]) (mu := fun (s7 : List ((Int × Int) × Bool)) => [some (mD (ky2 keInt keInt) rBool s7)]) (ei_rng1 (ea_cons (ev_cb1 (ev_op (ev_var rfl) (ev_var rfl) (rv_ixL is_seq (at_map h5))) (rc_lenL is_seq)) ea_nil) (rngP_ok h6).2) (fun _ => trivial) (.keep (.keep (.keep (.keep (.keep .nil))))) (fun _ => rfl) (fun _ _ => eg_name)
(fun s7 x8 => (eb_bind fun r9 h9 => eb_bind fun r10 h10 => (eb_ifl (et_test (ev_op (ev_op (ev_op (ev_var rfl) (ev_var rfl) (rv_ixL is_seq (at_map h9))) (ev_var rfl) (rv_ixL is_seq (at_map h10))) ev_int rv_neI)) (fun _ => (eb_bind fun r11 h11 => eb_bind fun r12 h12 => eb_bind fun r13 h13 => eb_bind fun r14 h14 => (eb_dput (ev_op (ev_op (ev_op (ev_var rfl) (ev_var rfl) (rv_ixL is_seq (at_map h11))) (ev_var rfl) (rv_ixL is_seq (at_map h12))) ev_int rv_eqI) (ev_var rfl) (ev_mk2 (ea_cons (ev_var rfl) (ea_cons (ev_op (ev_var rfl) (ev_var rfl) (rv_ixL is_seq (at_map h13))) ea_nil))) rfl h14
(eb_nil rfl (.keep (.keep (.keep (.keep (.drop .nil))))) rfl (Nat.le_of_ble_eq_true rfl) rfl))))
(fun _ => (eb_nil rfl (.keep (.keep (.keep (.keep (.drop .nil))))) rfl (Nat.le_of_ble_eq_true rfl) rfl)))))
(fun s7 => (eb_nil rfl (.keep (.keep (.keep (.drop (.keep .nil))))) rfl (Nat.le_of_ble_eq_true rfl) rfl)))))
(fun s3 => (eb_retC (k := 0) (ev_var rfl) rfl rfl rfl (Nat.le_of_ble_eq_true rfl) (Nat.le_of_ble_eq_true rfl))))))
theorem ok__law_known (T : Txt fa fn K mg) : OkF P w K mg base "_law_known" ["atoms", "rows"] 1 (spT K F_law_known) := by
  obtain ⟨fd, F⟩ := T.c.def_ 4 rfl
  exact ⟨fd, fn__law_known T F, FunD.bindsN F fun _ _ _ _ _ _ us hl => match us, hl with | [_, _], _ => rfl, F.kp, T.glob 9 rfl⟩
end
abbrev st__law_same : Stmt := top 15
abbrev NN__law_same : List Str := ["value", "due"]
theorem sc__law_same : FnScope NN__law_same ["value", "due"] (defScope st__law_same) := ⟨rfl, rfl, rfl, by decide +kernel, rfl, by decide +kernel, by decide +kernel⟩
abbrev F_law_same : FS ((Option Bool) × Int) (Bool) where
  ins := fun x => [.val (tv (rOpt rBool) x.1), .val (tv rInt x.2)]
  cells := fun x => []
  m := fun x => m_law_same x.1 x.2
  out := fun x w => .rt (tv rBool w) []
section
variable {P : Program} {w : World} {K : PySem.W.Frag} {mg : Str → Option Value} {base : Heap}
set_option maxHeartbeats 4000000 in
theorem fn__law_same {fd : FuncData} (T : Txt fa fn K mg) (F : FunD K d5.name d5.qual d5.params d5.body d5.scope (d5.dvs K) (d5.kws K) (He.fAd K d5.at_) fd) : FnOk P w K mg base CX0 1 (He.ga K "_law_same") fd ["value", "due"] (spT K F_law_same) := by
  have sc := sc__law_same
  refine F.ok sc (sp_len fun _ => rfl) (fun cdv A outer s H vs Q E hr h => ?_)
  refine ⟨_, PSs.nox (pss_cons (ps_if (pt_cmpR op_eq (pv 1) pe_int (nomark _)) (pss_cons (ps_ret (pe_cmpR op_isN1 (pv 0) pe_non (nomark _))) pss_nil) pss_nil) (pss_cons (ps_if (pt_cmpR op_eq (pv 1) pe_int (nomark _)) (pss_cons (ps_ret (pe_cmpR op_isBl (pv 0) pe_bl (nomark _))) pss_nil) pss_nil) (pss_cons (ps_ret (pe_cmpR op_isBl (pv 0) pe_bl (nomark _))) pss_nil))), ?_⟩
  refine sp_body h fun x => ?_
  obtain ⟨value, due⟩ := x
  show EvB K 0 _ [some (.val (tv (rOpt rBool) value)), some (.val (tv rInt due))] [] (fun (w : Bool) => OS.rt (tv rBool w) []) (m_law_same value due)
  unfold m_law_same
  exact (eb_ifr (et_test (ev_op (ev_var rfl) ev_int rv_eqI)) (fun _ => (eb_ret (ev_op (ev_var rfl) ev_none (rv_isN non_bool)) rfl rfl))
(fun _ => (eb_ifr (et_test (ev_op (ev_var rfl) ev_int rv_eqI)) (fun _ => eb_bind fun r1 h1 => (eb_ret (ev_op (ev_oget (ev_var rfl) h1) ev_bool rv_isBB) rfl rfl))
(fun _ => eb_bind fun r2 h2 => (eb_ret (ev_op (ev_oget (ev_var rfl) h2) ev_bool rv_isBB) rfl rfl)))))
theorem ok__law_same (T : Txt fa fn K mg) : OkF P w K mg base "_law_same" ["value", "due"] 1 (spT K F_law_same) := by
  obtain ⟨fd, F⟩ := T.c.def_ 5 rfl
  exact ⟨fd, fn__law_same T F, FunD.bindsN F fun _ _ _ _ _ _ us hl => match us, hl with | [_, _], _ => rfl, F.kp, T.glob 11 rfl⟩
end
abbrev st__rank : Stmt := top 6
abbrev NN__rank : List Str := ["atom", "day", "known", "value"]
theorem sc__rank : FnScope NN__rank ["atom", "day", "known"] (defScope st__rank) := ⟨rfl, rfl, rfl, by decide +kernel, rfl, by decide +kernel, by decide +kernel⟩
abbrev F_rank : FS (Int × Int × (List ((Int × Int) × Bool))) (Int) where
  ins := fun x => [.val (tv rInt x.1), .val (tv rInt x.2.1), .val (tv (rD (ky2 keInt keInt) rBool) x.2.2)]
  cells := fun x => []
  m := fun x => m_rank x.1 x.2.1 x.2.2
  out := fun x w => .rt (tv rInt w) []
section
variable {P : Program} {w : World} {K : PySem.W.Frag} {mg : Str → Option Value} {base : Heap}
set_option maxHeartbeats 4000000 in
theorem fn__rank {fd : FuncData} (T : Txt fa fn K mg) (F : FunD K d6.name d6.qual d6.params d6.body d6.scope (d6.dvs K) (d6.kws K) (He.fAd K d6.at_) fd) : FnOk P w K mg base CX0 1 (He.ga K "_rank") fd ["atom", "day", "known"] (spT K F_rank) := by
  have sc := sc__rank
  refine F.ok sc (sp_len fun _ => rfl) (fun cdv A outer s H vs Q E hr h => ?_)
  refine ⟨_, PSs.nox (pss_cons (ps_if (pt_cmpR op_lt (pv 1) pe_int (nomark _)) (pss_cons (ps_ret (pe_gcT rfl (T.int 13 rfl))) pss_nil) pss_nil) (pss_cons (ps_set (i := 3) sc.nd rfl (Or.inl rfl) (pe_dget1 (Nat.lt_of_le_of_lt (Nat.add_le_add_left (by decide) _) hr.units) (pv 2) (pe_tup (pa_cons (pv 1) (pa_cons (pv 0) pa_nil))) ⟨rfl, rfl, rfl, rfl⟩)) (pss_cons (ps_if (pt_cmpR op_isN1 (pv 3) pe_non (nomark _)) (pss_cons (ps_ret (pe_gcT rfl (T.int 14 rfl))) pss_nil) pss_nil) (pss_cons (ps_ret (pe_ifExp (pt_val (pv 3)) (pe_gcT rfl (T.int 12 rfl)) (pe_gcT rfl (T.int 13 rfl)))) pss_nil)))), ?_⟩
  refine sp_body h fun x => ?_
  obtain ⟨atom, day, known⟩ := x
  show EvB K 0 _ [some (.val (tv rInt atom)), some (.val (tv rInt day)), some (.val (tv (rD (ky2 keInt keInt) rBool) known)), none] [] (fun (w : Int) => OS.rt (tv rInt w) []) (m_rank atom day known)
  unfold m_rank
  exact (eb_ifr (et_test (ev_op (ev_var rfl) ev_int rv_lt)) (fun _ => (eb_ret ev_int rfl rfl))
(fun _ => (eb_bind fun value1 h1 => (eb_asg (oeV h1 (ev_dget1 (ev_var rfl) (ev_mk2 (ea_cons (ev_var rfl) (ea_cons (ev_var rfl) ea_nil))) ⟨_, is_dv⟩ is_dv))
(eb_ifr (et_test (ev_op (ev_var rfl) ev_none (rv_isN non_bool))) (fun _ => (eb_ret ev_int rfl rfl))
(fun _ => eb_bind fun r2 h2 => (eb_ret (ev_ite (et_B (ev_oget (ev_var rfl) h2)) (fun _ => ev_int) (fun _ => ev_int)) rfl rfl)))))))
theorem ok__rank (T : Txt fa fn K mg) : OkF P w K mg base "_rank" ["atom", "day", "known"] 1 (spT K F_rank) := by
  obtain ⟨fd, F⟩ := T.c.def_ 6 rfl
  exact ⟨fd, fn__rank T F, FunD.bindsN F fun _ _ _ _ _ _ us hl => match us, hl with | [_, _, _], _ => rfl, F.kp, T.glob 15 rfl⟩
end
abbrev st__carried_rank : Stmt := top 7
abbrev NN__carried_rank : List Str := ["form", "first", "second", "day", "known", "found", "rest", "at", "origin", "keep"]
theorem sc__carried_rank : FnScope NN__carried_rank ["form", "first", "second", "day", "known"] (defScope st__carried_rank) := ⟨rfl, rfl, rfl, by decide +kernel, rfl, by decide +kernel, by decide +kernel⟩
abbrev F_carried_rank : FS ((List Nat) × Int × Int × Int × (List ((Int × Int) × Bool))) (Int) where
  ins := fun x => [.val (tv rTxt x.1), .val (tv rInt x.2.1), .val (tv rInt x.2.2.1), .val (tv rInt x.2.2.2.1), .val (tv (rD (ky2 keInt keInt) rBool) x.2.2.2.2)]
  cells := fun x => []
  m := fun x => m_carried_rank x.1 x.2.1 x.2.2.1 x.2.2.2.1 x.2.2.2.2
  out := fun x w => .rt (tv rInt w) []
section
variable {P : Program} {w : World} {K : PySem.W.Frag} {mg : Str → Option Value} {base : Heap}
set_option maxHeartbeats 4000000 in
theorem fn__carried_rank {fd : FuncData} (T : Txt fa fn K mg) (F : FunD K d7.name d7.qual d7.params d7.body d7.scope (d7.dvs K) (d7.kws K) (He.fAd K d7.at_) fd) : FnOk P w K mg base CX0 2 (He.ga K "_carried_rank") fd ["form", "first", "second", "day", "known"] (spT K F_carried_rank) := by
  have sc := sc__carried_rank
  obtain ⟨fd0, G0, b0, k0, g0⟩ := ok__rank (P := P) (w := w) (base := base) T
  refine F.ok sc (sp_len fun _ => rfl) (fun cdv A outer s H vs Q E hr h => ?_)
  refine ⟨_, PSs.nox (pss_cons (ps_set (i := 5) sc.nd rfl (Or.inl rfl) (pe_gcT rfl (T.int 13 rfl))) (pss_cons (ps_set (i := 6) sc.nd rfl (Or.inl rfl) (pe_gcT rfl (T.int 12 rfl))) (pss_cons (ps_for PassesOwn.never rfl (pi_range3 rfl (T.free 3) (pa_cons (pv 3) (pa_cons (pe_un un_neg pe_int) (pa_cons (pe_un un_neg pe_int) pa_nil)))) (pg_name (i := 7) sc.nd rfl (Or.inl rfl)) (pss_cons (ps_if (pt_cmpR op_eq (pv 0) pe_str (nomark _)) (pss_cons (ps_set (i := 8) sc.nd rfl (Or.inl rfl) (pe_call G0 (hr.mono (by decide)) rfl g0 k0 b0 .nil pass0 (pa_cons (pv 2) (pa_cons (pv 7) (pa_cons (pv 4) pa_nil))))) (pss_cons (ps_set (i := 9) sc.nd rfl (Or.inl rfl) (pe_call G0 (hr.mono (by decide)) rfl g0 k0 b0 .nil pass0 (pa_cons (pv 1) (pa_cons (pv 7) (pa_cons (pv 4) pa_nil))))) pss_nil)) (pss_cons (ps_set (i := 8) sc.nd rfl (Or.inl rfl) (pe_call G0 (hr.mono (by decide)) rfl g0 k0 b0 .nil pass0 (pa_cons (pv 1) (pa_cons (pv 7) (pa_cons (pv 4) pa_nil))))) (pss_cons (ps_set (i := 9) sc.nd rfl (Or.inl rfl) (pe_op op_sub (pe_gcT rfl (T.int 12 rfl)) (pe_call G0 (hr.mono (by decide)) rfl g0 k0 b0 .nil pass0 (pa_cons (pv 2) (pa_cons (pv 7) (pa_cons (pv 4) pa_nil)))))) pss_nil))) (pss_cons (ps_set (i := 5) sc.nd rfl (Or.inl rfl) (pe_callB (call_max2 rfl) (by rfl) (T.free 10) (by decide +kernel) (pa_cons (pv 5) (pa_cons (pe_callB (call_min2 rfl) (by rfl) (T.free 8) (by decide +kernel) (pa_cons (pv 6) (pa_cons (pv 8) pa_nil))) pa_nil)))) (pss_cons (ps_set (i := 6) sc.nd rfl (Or.inl rfl) (pe_callB (call_min2 rfl) (by rfl) (T.free 8) (by decide +kernel) (pa_cons (pv 6) (pa_cons (pv 9) pa_nil)))) (pss_cons (ps_if (pt_cmpR op_ge (pv 5) (pv 6) (nomark _)) (pss_cons (ps_ret (pv 5)) pss_nil) pss_nil) pss_nil))))) (pss_cons (ps_ret (pv 5)) pss_nil)))), ?_⟩
  refine sp_body h fun x => ?_
  obtain ⟨form, first, second, day, known⟩ := x
  show EvB K 0 _ [some (.val (tv rTxt form)), some (.val (tv rInt first)), some (.val (tv rInt second)), some (.val (tv rInt day)), some (.val (tv (rD (ky2 keInt keInt) rBool) known)), none, none, none, none, none] [] (fun (w : Int) => OS.rt (tv rInt w) []) (m_carried_rank form first second day known)
  unfold m_carried_rank
  exact (eb_bind fun found1 h1 => (eb_asg (oeV h1 ev_int)
(eb_bind fun rest2 h2 => (eb_asg (oeV h2 ev_int)
(eb_bind fun r3 h3 => (eb_for (g := fun (s4 : Int × Int) => [some (.val (tv rTxt form)), some (.val (tv rInt first)), some (.val (tv rInt second)), some (.val (tv rInt day)), some (.val (tv (rD (ky2 keInt keInt) rBool) known)), some (.val (tv rInt s4.1)), some (.val (tv rInt s4.2)), none, none, none]) (mu := fun (s4 : Int × Int) => []) (ei_rngD (ea_cons (ev_var rfl) (ea_cons ev_neg1 (ea_cons ev_neg1 ea_nil))) (rngP_ok h3).1 (rngP_ok h3).2) (fun _ => trivial) (.keep (.keep (.keep (.keep (.keep (.keep (.keep (.keep (.keep (.keep .nil)))))))))) (fun _ => rfl) (fun _ _ => eg_name)
(fun s4 x5 => (eb_ifj (g := fun (s11 : Int × Int) => [some (.val (tv rTxt form)), some (.val (tv rInt first)), some (.val (tv rInt second)), some (.val (tv rInt day)), some (.val (tv (rD (ky2 keInt keInt) rBool) known)), some (.val (tv rInt s4.1)), some (.val (tv rInt s4.2)), some (.val (tv rInt x5)), some (.val (tv rInt s11.1)), some (.val (tv rInt s11.2))]) (mu := fun (s11 : Int × Int) => []) (et_test (ev_op (ev_var rfl) (ev_txt (l := [115, 105, 110, 99, 101]) (by decide +kernel)) rv_eqX)) (fun _ => (eb_bind fun r6 h6 => (eb_asg (ev_call (ts := [tv rInt second, tv rInt x5, tv (rD (ky2 keInt keInt) rBool) known]) (x := (second, x5, known)) (ea_cons (ev_var rfl) (ea_cons (ev_var rfl) (ea_cons (ev_var rfl) ea_nil))) (hm := h6))
(eb_bind fun r7 h7 => (eb_asg (ev_call (ts := [tv rInt first, tv rInt x5, tv (rD (ky2 keInt keInt) rBool) known]) (x := (first, x5, known)) (ea_cons (ev_var rfl) (ea_cons (ev_var rfl) (ea_cons (ev_var rfl) ea_nil))) (hm := h7))
(eb_nil rfl (.keep (.keep (.keep (.keep (.keep (.keep (.keep (.keep (.keep (.keep .nil)))))))))) rfl (Nat.le_of_ble_eq_true rfl) rfl))))))
(fun _ => (eb_bind fun r8 h8 => (eb_asg (ev_call (ts := [tv rInt first, tv rInt x5, tv (rD (ky2 keInt keInt) rBool) known]) (x := (first, x5, known)) (ea_cons (ev_var rfl) (ea_cons (ev_var rfl) (ea_cons (ev_var rfl) ea_nil))) (hm := h8))
(eb_bind fun r9 h9 => eb_bind fun keep10 h10 => (eb_asg (oeV h10 (ev_op ev_int (ev_call (ts := [tv rInt second, tv rInt x5, tv (rD (ky2 keInt keInt) rBool) known]) (x := (second, x5, known)) (ea_cons (ev_var rfl) (ea_cons (ev_var rfl) (ea_cons (ev_var rfl) ea_nil))) (hm := h9)) rv_sub))
(eb_nil rfl (.keep (.keep (.keep (.keep (.keep (.keep (.keep (.keep (.keep (.keep .nil)))))))))) rfl (Nat.le_of_ble_eq_true rfl) rfl)))))) (fun _ => Nat.le_of_ble_eq_true rfl)
(fun s11 => (eb_bind fun found12 h12 => (eb_asg (oeV h12 (ev_cb2 (ev_var rfl) (ev_cb2 (ev_var rfl) (ev_var rfl) rc_min2) rc_max2))
(eb_bind fun rest13 h13 => (eb_asg (oeV h13 (ev_cb2 (ev_var rfl) (ev_var rfl) rc_min2))
(eb_ifl (et_test (ev_op (ev_var rfl) (ev_var rfl) rv_ge)) (fun _ => (eb_ret (ev_var rfl) rfl rfl))
(fun _ => (eb_nil rfl (.keep (.keep (.keep (.keep (.keep (.keep (.keep (.drop (.drop (.drop .nil)))))))))) rfl (Nat.le_of_ble_eq_true rfl) rfl))))))))))
(fun s4 => (eb_ret (ev_var rfl) rfl rfl))))))))
theorem ok__carried_rank (T : Txt fa fn K mg) : OkF P w K mg base "_carried_rank" ["form", "first", "second", "day", "known"] 2 (spT K F_carried_rank) := by
  obtain ⟨fd, F⟩ := T.c.def_ 7 rfl
  exact ⟨fd, fn__carried_rank T F, FunD.bindsN F fun _ _ _ _ _ _ us hl => match us, hl with | [_, _, _, _, _], _ => rfl, F.kp, T.glob 16 rfl⟩
end
abbrev st_known_value : Stmt := top 5
abbrev NN_known_value : List Str := ["condition", "day", "known", "form", "first", "second", "wanted", "rank", "back"]
theorem sc_known_value : FnScope NN_known_value ["condition", "day", "known"] (defScope st_known_value) := ⟨rfl, rfl, rfl, by decide +kernel, rfl, by decide +kernel, by decide +kernel⟩
abbrev F_known_value : FS (((List Nat) × Int × Int × Bool) × Int × (List ((Int × Int) × Bool))) (Option Bool) where
  ins := fun x => [.val (tv (rP4 rTxt rInt rInt rBool) x.1), .val (tv rInt x.2.1), .val (tv (rD (ky2 keInt keInt) rBool) x.2.2)]
  cells := fun x => []
  m := fun x => m_known_value x.1 x.2.1 x.2.2
  out := fun x w => .rt (tv (rOpt rBool) w) []
section
variable {P : Program} {w : World} {K : PySem.W.Frag} {mg : Str → Option Value} {base : Heap}
set_option maxHeartbeats 4000000 in
theorem fn_known_value {fd : FuncData} (T : Txt fa fn K mg) (F : FunD K d8.name d8.qual d8.params d8.body d8.scope (d8.dvs K) (d8.kws K) (He.fAd K d8.at_) fd) : FnOk P w K mg base CX0 3 (He.ga K "known_value") fd ["condition", "day", "known"] (spT K F_known_value) := by
  have sc := sc_known_value
  obtain ⟨fd0, G0, b0, k0, g0⟩ := ok__rank (P := P) (w := w) (base := base) T
  obtain ⟨fd1, G1, b1, k1, g1⟩ := ok__carried_rank (P := P) (w := w) (base := base) T
  refine F.ok sc (sp_len fun _ => rfl) (fun cdv A outer s H vs Q E hr h => ?_)
  refine ⟨_, PSs.nox (pss_cons (ps_asg (pv 0) (pg_tup rfl (pgs_cons (pg_name (i := 3) sc.nd rfl (Or.inl rfl)) (pgs_cons (pg_name (i := 4) sc.nd rfl (Or.inr rfl)) (pgs_cons (pg_name (i := 5) sc.nd rfl (Or.inl rfl)) (pgs_cons (pg_name (i := 6) sc.nd rfl (Or.inl rfl)) pgs_nil)))))) (pss_cons (ps_if (pt_cmpR op_eq (pv 3) pe_str (nomark _)) (pss_cons (ps_set (i := 7) sc.nd rfl (Or.inl rfl) (pe_ifExp (pt_cmpR op_eq (pe_op op_mod (pv 1) (pv 4)) (pv 5) (nomark _)) (pe_gcT rfl (T.int 12 rfl)) (pe_gcT rfl (T.int 13 rfl)))) pss_nil) (pss_cons (ps_if (pt_cmpR op_eq (pv 3) pe_str (nomark _)) (pss_cons (ps_set (i := 7) sc.nd rfl (Or.inl rfl) (pe_call G0 (hr.mono (by decide)) rfl g0 k0 b0 .nil pass0 (pa_cons (pv 4) (pa_cons (pe_op op_sub (pv 1) (pv 5)) (pa_cons (pv 2) pa_nil))))) pss_nil) (pss_cons (ps_if (pt_cmpR op_eq (pv 3) pe_str (nomark _)) (pss_cons (ps_set (i := 7) sc.nd rfl (Or.inl rfl) (pe_callB (kMaxL (K := K) rfl) (by rfl) (T.free 10) (by decide +kernel) (pa_cons (pe_lc (own := [("back", 8)]) (g := _) (tt := _) rfl sc.nd (pi_range1 rfl (T.free 3) (pa_cons (pv 5) pa_nil)) (blkOk_by (N := NN_known_value) (sc := defScope st_known_value) (by decide +kernel)) (fun _ _ _ _ _ => (pg_name (i := 8) sc.nd rfl (Or.inl rfl))) (fun _ _ _ _ _ => pts_nil) (fun _ _ _ _ _ => (pe_call G0 (hr.mono (by decide)) rfl g0 k0 b0 .nil pass0 (pa_cons (pv 4) (pa_cons (pe_op op_sub (pv 1) (pv 8)) (pa_cons (pv 2) pa_nil)))))) pa_nil))) pss_nil) (pss_cons (ps_if (pt_cmpR op_eq (pv 3) pe_str (nomark _)) (pss_cons (ps_set (i := 7) sc.nd rfl (Or.inl rfl) (pe_callB (kMinL (K := K) rfl) (by rfl) (T.free 8) (by decide +kernel) (pa_cons (pe_lc (own := [("back", 8)]) (g := _) (tt := _) rfl sc.nd (pi_range1 rfl (T.free 3) (pa_cons (pv 5) pa_nil)) (blkOk_by (N := NN_known_value) (sc := defScope st_known_value) (by decide +kernel)) (fun _ _ _ _ _ => (pg_name (i := 8) sc.nd rfl (Or.inl rfl))) (fun _ _ _ _ _ => pts_nil) (fun _ _ _ _ _ => (pe_call G0 (hr.mono (by decide)) rfl g0 k0 b0 .nil pass0 (pa_cons (pv 4) (pa_cons (pe_op op_sub (pv 1) (pv 8)) (pa_cons (pv 2) pa_nil)))))) pa_nil))) pss_nil) (pss_cons (ps_set (i := 7) sc.nd rfl (Or.inl rfl) (pe_call G1 (hr.mono (by decide)) rfl g1 k1 b1 .nil pass0 (pa_cons (pv 3) (pa_cons (pv 4) (pa_cons (pv 5) (pa_cons (pv 1) (pa_cons (pv 2) pa_nil))))))) pss_nil)) pss_nil)) pss_nil)) pss_nil)) (pss_cons (ps_ret (pe_ix (kIxT (K := K)) (pe_gcT rfl (T.tup 17 rfl).2) (pe_ifExp (pt_val (pv 6)) (pv 7) (pe_op op_sub (pe_gcT rfl (T.int 12 rfl)) (pv 7))) (fun _ _ => rfl))) pss_nil))), ?_⟩
  refine sp_body h fun x => ?_
  obtain ⟨condition, day, known⟩ := x
  show EvB K 0 _ [some (.val (tv (rP4 rTxt rInt rInt rBool) condition)), some (.val (tv rInt day)), some (.val (tv (rD (ky2 keInt keInt) rBool) known)), none, none, none, none, none, none] [] (fun (w : Option Bool) => OS.rt (tv (rOpt rBool) w) []) (m_known_value condition day known)
  unfold m_known_value
  exact (eb_asgG (ev_var rfl) eg_tup4
(eb_ifj (g := fun (s21 : Int) => [some (.val (tv (rP4 rTxt rInt rInt rBool) condition)), some (.val (tv rInt day)), some (.val (tv (rD (ky2 keInt keInt) rBool) known)), some (.val (tv rTxt condition.1)), some (.val (tv rInt condition.2.1)), some (.val (tv rInt condition.2.2.1)), some (.val (tv rBool condition.2.2.2)), some (.val (tv rInt s21)), none]) (mu := fun (s21 : Int) => []) (et_test (ev_op (ev_var rfl) (ev_txt (l := [111, 110]) (by decide +kernel)) rv_eqX)) (fun _ => (eb_bind fun r1 h1 => eb_bind fun rank2 h2 => (eb_asg (oeV h2 (ev_ite (et_test (ev_op (ev_op (ev_var rfl) (ev_var rfl) (rv_modP h1)) (ev_var rfl) rv_eqI)) (fun _ => ev_int) (fun _ => ev_int)))
(eb_nil rfl (.keep (.keep (.keep (.keep (.keep (.keep (.keep (.keep (.keep .nil))))))))) rfl (Nat.le_of_ble_eq_true rfl) rfl))))
(fun _ => (eb_ifl (et_test (ev_op (ev_var rfl) (ev_txt (l := [97, 116]) (by decide +kernel)) rv_eqX)) (fun _ => (eb_bind fun r3 h3 => (eb_asg (ev_call (ts := [tv rInt condition.2.1, tv rInt (day - condition.2.2.1), tv (rD (ky2 keInt keInt) rBool) known]) (x := (condition.2.1, (day - condition.2.2.1), known)) (ea_cons (ev_var rfl) (ea_cons (ev_op (ev_var rfl) (ev_var rfl) rv_sub) (ea_cons (ev_var rfl) ea_nil))) (hm := h3))
(eb_nil rfl (.keep (.keep (.keep (.keep (.keep (.keep (.keep (.keep (.keep .nil))))))))) rfl (Nat.le_of_ble_eq_true rfl) rfl))))
(fun _ => (eb_ifl (et_test (ev_op (ev_var rfl) (ev_txt (l := [119, 105, 116, 104, 105, 110]) (by decide +kernel)) rv_eqX)) (fun _ => (eb_bind fun r4 h4 => eb_bind fun r5 h5 => eb_bind fun r8 h8 => eb_bind fun r11 h11 => (eb_asg (ev_cb1 (ev_lstR (ef_mapR (R' := rInt) (ei_rng1 (ea_cons (ev_var rfl) ea_nil) (rngP_ok h4).2) (fun _ => hz_size h5) trivial (fun _ => ego_name) (fun x6 y10 e9 => bo e9 fun r7 h7 e9 => oeV e9 (ev_call (ts := [tv rInt condition.2.1, tv rInt (day - x6), tv (rD (ky2 keInt keInt) rBool) known]) (x := (condition.2.1, (day - x6), known)) (ea_cons (ev_var rfl) (ea_cons (ev_op (ev_var rfl) (ev_var rfl) rv_sub) (ea_cons (ev_var rfl) ea_nil))) (hm := h7))) h8)) (rc_maxL is_seq h11))
(eb_nil rfl (.keep (.keep (.keep (.keep (.keep (.keep (.keep (.keep (.keep .nil))))))))) rfl (Nat.le_of_ble_eq_true rfl) rfl))))
(fun _ => (eb_ifl (et_test (ev_op (ev_var rfl) (ev_txt (l := [116, 104, 114, 111, 117, 103, 104]) (by decide +kernel)) rv_eqX)) (fun _ => (eb_bind fun r12 h12 => eb_bind fun r13 h13 => eb_bind fun r16 h16 => eb_bind fun r19 h19 => (eb_asg (ev_cb1 (ev_lstR (ef_mapR (R' := rInt) (ei_rng1 (ea_cons (ev_var rfl) ea_nil) (rngP_ok h12).2) (fun _ => hz_size h13) trivial (fun _ => ego_name) (fun x14 y18 e17 => bo e17 fun r15 h15 e17 => oeV e17 (ev_call (ts := [tv rInt condition.2.1, tv rInt (day - x14), tv (rD (ky2 keInt keInt) rBool) known]) (x := (condition.2.1, (day - x14), known)) (ea_cons (ev_var rfl) (ea_cons (ev_op (ev_var rfl) (ev_var rfl) rv_sub) (ea_cons (ev_var rfl) ea_nil))) (hm := h15))) h16)) (rc_minL is_seq h19))
(eb_nil rfl (.keep (.keep (.keep (.keep (.keep (.keep (.keep (.keep (.keep .nil))))))))) rfl (Nat.le_of_ble_eq_true rfl) rfl))))
(fun _ => (eb_bind fun r20 h20 => (eb_asg (ev_call (ts := [tv rTxt condition.1, tv rInt condition.2.1, tv rInt condition.2.2.1, tv rInt day, tv (rD (ky2 keInt keInt) rBool) known]) (x := (condition.1, condition.2.1, condition.2.2.1, day, known)) (ea_cons (ev_var rfl) (ea_cons (ev_var rfl) (ea_cons (ev_var rfl) (ea_cons (ev_var rfl) (ea_cons (ev_var rfl) ea_nil))))) (hm := h20))
(eb_nil rfl (.keep (.keep (.keep (.keep (.keep (.keep (.keep (.keep (.keep .nil))))))))) rfl (Nat.le_of_ble_eq_true rfl) rfl)))))))))) (fun _ => Nat.le_of_ble_eq_true rfl)
(fun s21 => eb_bind fun r22 h22 => (eb_ret (ev_op (ev_tupC (R := (rOpt rBool)) (xs := ([some false, none, some true] : List (Option Bool))) (T.tup 17 rfl).1 (fun _ => .cons rfl (.cons rfl (.cons rfl .nil)))) (ev_ite (et_B (ev_var rfl)) (fun _ => (ev_var rfl)) (fun _ => (ev_op ev_int (ev_var rfl) rv_sub))) (rv_ixT is_seq (at_map h22))) rfl rfl))))
theorem ok_known_value (T : Txt fa fn K mg) : OkF P w K mg base "known_value" ["condition", "day", "known"] 3 (spT K F_known_value) := by
  obtain ⟨fd, F⟩ := T.c.def_ 8 rfl
  exact ⟨fd, fn_known_value T F, FunD.bindsN F fun _ _ _ _ _ _ us hl => match us, hl with | [_, _, _], _ => rfl, F.kp, T.glob 18 rfl⟩
end
abbrev st__law_both : Stmt := top 18
abbrev NN__law_both : List Str := ["parts", "day", "known", "due"]
theorem sc__law_both : FnScope NN__law_both ["parts", "day", "known", "due"] (defScope st__law_both) := ⟨rfl, rfl, rfl, by decide +kernel, rfl, by decide +kernel, by decide +kernel⟩
abbrev F_law_both : FS (((List Nat) × Int × Int) × Int × (List ((Int × Int) × Bool)) × Int) (Bool) where
  ins := fun x => [.val (tv (rP3 rTxt rInt rInt) x.1), .val (tv rInt x.2.1), .val (tv (rD (ky2 keInt keInt) rBool) x.2.2.1), .val (tv rInt x.2.2.2)]
  cells := fun x => []
  m := fun x => m_law_both x.1 x.2.1 x.2.2.1 x.2.2.2
  out := fun x w => .rt (tv rBool w) []
section
variable {P : Program} {w : World} {K : PySem.W.Frag} {mg : Str → Option Value} {base : Heap}
set_option maxHeartbeats 4000000 in
theorem fn__law_both {fd : FuncData} (T : Txt fa fn K mg) (F : FunD K d9.name d9.qual d9.params d9.body d9.scope (d9.dvs K) (d9.kws K) (He.fAd K d9.at_) fd) : FnOk P w K mg base CX0 4 (He.ga K "_law_both") fd ["parts", "day", "known", "due"] (spT K F_law_both) := by
  have sc := sc__law_both
  obtain ⟨fd0, G0, b0, k0, g0⟩ := ok__law_same (P := P) (w := w) (base := base) T
  obtain ⟨fd1, G1, b1, k1, g1⟩ := ok_known_value (P := P) (w := w) (base := base) T
  refine F.ok sc (sp_len fun _ => rfl) (fun cdv A outer s H vs Q E hr h => ?_)
  refine ⟨_, PSs.nox (pss_cons (ps_if (pt_not (pt_val (pe_call G0 (hr.mono (by decide)) rfl g0 k0 b0 .nil pass0 (pa_cons (pe_call G1 (hr.mono (by decide)) rfl g1 k1 b1 .nil pass0 (pa_cons (pe_op (kCatA (K := K)) (pv 0) (pe_tup (pa_cons pe_bl pa_nil))) (pa_cons (pv 1) (pa_cons (pv 2) pa_nil)))) (pa_cons (pv 3) pa_nil))))) (pss_cons (ps_ret pe_bl) pss_nil) pss_nil) (pss_cons (ps_ret (pe_call G0 (hr.mono (by decide)) rfl g0 k0 b0 .nil pass0 (pa_cons (pe_call G1 (hr.mono (by decide)) rfl g1 k1 b1 .nil pass0 (pa_cons (pe_op (kCatA (K := K)) (pv 0) (pe_tup (pa_cons pe_bl pa_nil))) (pa_cons (pv 1) (pa_cons (pv 2) pa_nil)))) (pa_cons (pe_op op_sub pe_int (pv 3)) pa_nil)))) pss_nil)), ?_⟩
  refine sp_body h fun x => ?_
  obtain ⟨parts, day, known, due⟩ := x
  show EvB K 0 _ [some (.val (tv (rP3 rTxt rInt rInt) parts)), some (.val (tv rInt day)), some (.val (tv (rD (ky2 keInt keInt) rBool) known)), some (.val (tv rInt due))] [] (fun (w : Bool) => OS.rt (tv rBool w) []) (m_law_both parts day known due)
  unfold m_law_both
  exact (eb_bind fun r1 h1 => eb_bind fun r2 h2 => (eb_ifr (et_not (et_B (ev_call (ts := [tv (rOpt rBool) r1, tv rInt due]) (x := (r1, due)) (ea_cons (ev_call (ts := [tv (rP4 rTxt rInt rInt rBool) (parts.1, parts.2.1, parts.2.2, true), tv rInt day, tv (rD (ky2 keInt keInt) rBool) known]) (x := ((parts.1, parts.2.1, parts.2.2, true), day, known)) (ea_cons (ev_as (s' := .val (tv (rP4 rTxt rInt rInt rBool) (parts.1, parts.2.1, parts.2.2, true))) (ev_op (ev_var rfl) (ev_mk1 (ea_cons ev_bool ea_nil)) (rv_catT (k1 := 0) is_p3 is_p1 (fun z => nomatch z) (fun z => nomatch z) (hz_ble rfl))) rfl) (ea_cons (ev_var rfl) (ea_cons (ev_var rfl) ea_nil))) (hm := h1)) (ea_cons (ev_var rfl) ea_nil)) (hm := h2)))) (fun _ => (eb_ret ev_bool rfl rfl))
(fun _ => eb_bind fun r3 h3 => eb_bind fun r4 h4 => (eb_ret (ev_call (ts := [tv (rOpt rBool) r3, tv rInt ((2 : Int) - due)]) (x := (r3, ((2 : Int) - due))) (ea_cons (ev_call (ts := [tv (rP4 rTxt rInt rInt rBool) (parts.1, parts.2.1, parts.2.2, false), tv rInt day, tv (rD (ky2 keInt keInt) rBool) known]) (x := ((parts.1, parts.2.1, parts.2.2, false), day, known)) (ea_cons (ev_as (s' := .val (tv (rP4 rTxt rInt rInt rBool) (parts.1, parts.2.1, parts.2.2, false))) (ev_op (ev_var rfl) (ev_mk1 (ea_cons ev_bool ea_nil)) (rv_catT (k1 := 0) is_p3 is_p1 (fun z => nomatch z) (fun z => nomatch z) (hz_ble rfl))) rfl) (ea_cons (ev_var rfl) (ea_cons (ev_var rfl) ea_nil))) (hm := h3)) (ea_cons (ev_op ev_int (ev_var rfl) rv_sub) ea_nil)) (hm := h4)) rfl rfl))))
theorem ok__law_both (T : Txt fa fn K mg) : OkF P w K mg base "_law_both" ["parts", "day", "known", "due"] 4 (spT K F_law_both) := by
  obtain ⟨fd, F⟩ := T.c.def_ 9 rfl
  exact ⟨fd, fn__law_both T F, FunD.bindsN F fun _ _ _ _ _ _ us hl => match us, hl with | [_, _, _, _], _ => rfl, F.kp, T.glob 19 rfl⟩
end
abbrev st__law_on : Stmt := top 19
abbrev NN__law_on : List Str := ["bag", "day", "known", "every", "at"]
theorem sc__law_on : FnScope NN__law_on ["bag", "day", "known"] (defScope st__law_on) := ⟨rfl, rfl, rfl, by decide +kernel, rfl, by decide +kernel, by decide +kernel⟩
abbrev F_law_on : FS (Bag × Int × (List ((Int × Int) × Bool))) (Bool × Bag) where
  ins := fun x => [.cell 0, .val (tv rInt x.2.1), .val (tv (rD (ky2 keInt keInt) rBool) x.2.2)]
  cells := fun x => [some (mv_Bag x.1)]
  m := fun x => m_law_on x.1 x.2.1 x.2.2
  out := fun x w => .rt (tv rBool w.1) [some (mv_Bag w.2)]
section
variable {P : Program} {w : World} {K : PySem.W.Frag} {mg : Str → Option Value} {base : Heap}
set_option maxHeartbeats 4000000 in
theorem fn__law_on {fd : FuncData} (T : Txt fa fn K mg) (F : FunD K d10.name d10.qual d10.params d10.body d10.scope (d10.dvs K) (d10.kws K) (He.fAd K d10.at_) fd) : FnOk P w K mg base CX0 5 (He.ga K "_law_on") fd ["bag", "day", "known"] (spT K F_law_on) := by
  have sc := sc__law_on
  obtain ⟨fd0, G0, b0, k0, g0⟩ := ok__law_take (P := P) (w := w) (base := base) T
  obtain ⟨fd1, G1, b1, k1, g1⟩ := ok__law_both (P := P) (w := w) (base := base) T
  refine F.ok sc (sp_len fun _ => rfl) (fun cdv A outer s H vs Q E hr h => ?_)
  refine ⟨_, PSs.nox (pss_cons (ps_set (i := 3) sc.nd rfl (Or.inl rfl) (pe_op op_add pe_int (pe_call G0 (hr.mono (by decide)) rfl g0 k0 b0 .nil pass0 (pa_cons (pv 0) (pa_cons pe_int pa_nil))))) (pss_cons (ps_if (pt_cmpR op_eq (pe_call G0 (hr.mono (by decide)) rfl g0 k0 b0 .nil pass0 (pa_cons (pv 0) (pa_cons pe_int pa_nil))) pe_int (nomark _)) (pss_cons (ps_set (i := 3) sc.nd rfl (Or.inl rfl) (pe_op op_add pe_int (pe_call G0 (hr.mono (by decide)) rfl g0 k0 b0 .nil pass0 (pa_cons (pv 0) (pa_cons pe_int pa_nil))))) pss_nil) pss_nil) (pss_cons (ps_set (i := 4) sc.nd rfl (Or.inl rfl) (pe_op op_mod (pe_callTy call_int1 (by rfl) (T.free 0) (by decide +kernel) (pa_cons (pv 1) pa_nil)) (pv 3))) (pss_cons (ps_if (pt_cmpR op_eq (pe_call G0 (hr.mono (by decide)) rfl g0 k0 b0 .nil pass0 (pa_cons (pv 0) (pa_cons pe_int pa_nil))) pe_int (nomark _)) (pss_cons (ps_set (i := 4) sc.nd rfl (Or.inl rfl) (pe_call G0 (hr.mono (by decide)) rfl g0 k0 b0 .nil pass0 (pa_cons (pv 0) (pa_cons (pv 3) pa_nil)))) pss_nil) pss_nil) (pss_cons (ps_ret (pe_call G1 (hr.mono (by decide)) rfl g1 k1 b1 .nil pass0 (pa_cons (pe_tup (pa_cons pe_str (pa_cons (pv 3) (pa_cons (pv 4) pa_nil)))) (pa_cons (pv 1) (pa_cons (pv 2) (pa_cons (pe_op op_mul pe_int (pe_callTy call_int1 (by rfl) (T.free 0) (by decide +kernel) (pa_cons (pe_cmpR op_eq (pe_op op_mod (pe_callTy call_int1 (by rfl) (T.free 0) (by decide +kernel) (pa_cons (pv 1) pa_nil)) (pv 3)) (pv 4) (nomark _)) pa_nil))) pa_nil)))))) pss_nil))))), ?_⟩
  refine sp_body h fun x => ?_
  obtain ⟨bag, day, known⟩ := x
  show EvB K 1 _ [some (.cell 0), some (.val (tv rInt day)), some (.val (tv (rD (ky2 keInt keInt) rBool) known)), none, none] [some (mv_Bag bag)] (fun (w : Bool × Bag) => OS.rt (tv rBool w.1) [some (mv_Bag w.2)]) (m_law_on bag day known)
  unfold m_law_on
  exact (eb_bind fun r1 h1 => eb_bind fun every2 h2 => (eb_asg (oeV h2 (ev_op ev_int (ev_call1 (k := 0) (x := (bag, (6 : Int))) (ea_cons (ev_var rfl) (ea_cons ev_int ea_nil)) rfl (hm := h1)) rv_add))
(eb_bind fun r3 h3 => (eb_ifj (g := fun (s6 : Int × Bag) => [some (.cell 0), some (.val (tv rInt day)), some (.val (tv (rD (ky2 keInt keInt) rBool) known)), some (.val (tv rInt s6.1)), none]) (mu := fun (s6 : Int × Bag) => [some (mv_Bag s6.2)]) (et_test (ev_op (ev_call1 (k := 0) (x := (r1.2, (4 : Int))) (ea_cons (ev_var rfl) (ea_cons ev_int ea_nil)) rfl (hm := h3)) ev_int rv_eqI)) (fun _ => (eb_bind fun r4 h4 => eb_bind fun every5 h5 => (eb_asg (oeV h5 (ev_op ev_int (ev_call1 (k := 0) (x := (r3.2, (1000 : Int))) (ea_cons (ev_var rfl) (ea_cons ev_int ea_nil)) rfl (hm := h4)) rv_add))
(eb_nil rfl (.keep (.keep (.keep (.keep (.keep .nil))))) rfl (Nat.le_of_ble_eq_true rfl) rfl))))
(fun _ => (eb_nil rfl (.keep (.keep (.keep (.keep (.keep .nil))))) rfl (Nat.le_of_ble_eq_true rfl) rfl)) (fun _ => Nat.le_of_ble_eq_true rfl)
(fun s6 => (eb_bind fun r7 h7 => (eb_asg (ev_op (ev_cb1 (ev_var rfl) rc_int) (ev_var rfl) (rv_modP h7))
(eb_bind fun r8 h8 => (eb_ifj (g := fun (s10 : Int × Bag) => [some (.cell 0), some (.val (tv rInt day)), some (.val (tv (rD (ky2 keInt keInt) rBool) known)), some (.val (tv rInt s6.1)), some (.val (tv rInt s10.1))]) (mu := fun (s10 : Int × Bag) => [some (mv_Bag s10.2)]) (et_test (ev_op (ev_call1 (k := 0) (x := (s6.2, (2 : Int))) (ea_cons (ev_var rfl) (ea_cons ev_int ea_nil)) rfl (hm := h8)) ev_int rv_eqI)) (fun _ => (eb_bind fun r9 h9 => (eb_asg (ev_call1 (k := 0) (x := (r8.2, s6.1)) (ea_cons (ev_var rfl) (ea_cons (ev_var rfl) ea_nil)) rfl (hm := h9))
(eb_nil rfl (.keep (.keep (.keep (.keep (.keep .nil))))) rfl (Nat.le_of_ble_eq_true rfl) rfl))))
(fun _ => (eb_nil rfl (.keep (.keep (.keep (.keep (.keep .nil))))) rfl (Nat.le_of_ble_eq_true rfl) rfl)) (fun _ => Nat.le_of_ble_eq_true rfl)
(fun s10 => eb_bind fun r11 h11 => eb_bind fun r12 h12 => (eb_ret (ev_call (ts := [tv (rP3 rTxt rInt rInt) ([111, 110], s6.1, s10.1), tv rInt day, tv (rD (ky2 keInt keInt) rBool) known, tv rInt ((2 : Int) * (if (decide (r11 = s10.1)) = true then 1 else 0))]) (x := (([111, 110], s6.1, s10.1), day, known, ((2 : Int) * (if (decide (r11 = s10.1)) = true then 1 else 0)))) (ea_cons (ev_mk3 (ea_cons (ev_txt (l := [111, 110]) (by decide +kernel)) (ea_cons (ev_var rfl) (ea_cons (ev_var rfl) ea_nil)))) (ea_cons (ev_var rfl) (ea_cons (ev_var rfl) (ea_cons (ev_op ev_int (ev_cb1 (ev_op (ev_op (ev_cb1 (ev_var rfl) rc_int) (ev_var rfl) (rv_modP h11)) (ev_var rfl) rv_eqI) rc_intB) (rv_mulC (.inl ⟨by decide, by decide⟩))) ea_nil)))) (hm := h12)) rfl rfl)))))))))))
theorem ok__law_on (T : Txt fa fn K mg) : OkF P w K mg base "_law_on" ["bag", "day", "known"] 5 (spT K F_law_on) := by
  obtain ⟨fd, F⟩ := T.c.def_ 10 rfl
  exact ⟨fd, fn__law_on T F, FunD.bindsN F fun _ _ _ _ _ _ us hl => match us, hl with | [_, _, _], _ => rfl, F.kp, T.glob 20 rfl⟩
end
abbrev st__law_worth : Stmt := top 16
abbrev NN__law_worth : List Str := ["row", "when"]
theorem sc__law_worth : FnScope NN__law_worth ["row", "when"] (defScope st__law_worth) := ⟨rfl, rfl, rfl, by decide +kernel, rfl, by decide +kernel, by decide +kernel⟩
abbrev F_law_worth : FS ((List Int) × Int) (Int) where
  ins := fun x => [.val (tv (rSq .l rInt) x.1), .val (tv rInt x.2)]
  cells := fun x => []
  m := fun x => m_law_worth x.1 x.2
  out := fun x w => .rt (tv rInt w) []
section
variable {P : Program} {w : World} {K : PySem.W.Frag} {mg : Str → Option Value} {base : Heap}
set_option maxHeartbeats 4000000 in
theorem fn__law_worth {fd : FuncData} (T : Txt fa fn K mg) (F : FunD K d11.name d11.qual d11.params d11.body d11.scope (d11.dvs K) (d11.kws K) (He.fAd K d11.at_) fd) : FnOk P w K mg base CX0 1 (He.ga K "_law_worth") fd ["row", "when"] (spT K F_law_worth) := by
  have sc := sc__law_worth
  refine F.ok sc (sp_len fun _ => rfl) (fun cdv A outer s H vs Q E hr h => ?_)
  refine ⟨_, PSs.nox (pss_cons (ps_if (pt_cmpR op_lt (pv 1) pe_int (nomark _)) (pss_cons (ps_ret pe_int) pss_nil) pss_nil) (pss_cons (ps_ret (pe_ix (kIxL (K := K)) (pv 0) (pv 1) (fun _ _ => rfl))) pss_nil)), ?_⟩
  refine sp_body h fun x => ?_
  obtain ⟨row, when⟩ := x
  show EvB K 0 _ [some (.val (tv (rSq .l rInt) row)), some (.val (tv rInt when))] [] (fun (w : Int) => OS.rt (tv rInt w) []) (m_law_worth row when)
  unfold m_law_worth
  exact (eb_ifr (et_test (ev_op (ev_var rfl) ev_int rv_lt)) (fun _ => (eb_ret ev_int rfl rfl))
(fun _ => eb_bind fun r1 h1 => (eb_ret (ev_op (ev_var rfl) (ev_var rfl) (rv_ixL is_seq (at_map h1))) rfl rfl)))
theorem ok__law_worth (T : Txt fa fn K mg) : OkF P w K mg base "_law_worth" ["row", "when"] 1 (spT K F_law_worth) := by
  obtain ⟨fd, F⟩ := T.c.def_ 11 rfl
  exact ⟨fd, fn__law_worth T F, FunD.bindsN F fun _ _ _ _ _ _ us hl => match us, hl with | [_, _], _ => rfl, F.kp, T.glob 21 rfl⟩
end
abbrev st__law_due : Stmt := top 17
abbrev NN__law_due : List Str := ["form", "first", "second", "many", "day", "due", "bar", "k"]
theorem sc__law_due : FnScope NN__law_due ["form", "first", "second", "many", "day"] (defScope st__law_due) := ⟨rfl, rfl, rfl, by decide +kernel, rfl, by decide +kernel, by decide +kernel⟩
abbrev F_law_due : FS ((List Nat) × (List Int) × (List Int) × Int × Int) (Int) where
  ins := fun x => [.val (tv rTxt x.1), .val (tv (rSq .l rInt) x.2.1), .val (tv (rSq .l rInt) x.2.2.1), .val (tv rInt x.2.2.2.1), .val (tv rInt x.2.2.2.2)]
  cells := fun x => []
  m := fun x => m_law_due x.1 x.2.1 x.2.2.1 x.2.2.2.1 x.2.2.2.2
  out := fun x w => .rt (tv rInt w) []
section
variable {P : Program} {w : World} {K : PySem.W.Frag} {mg : Str → Option Value} {base : Heap}
set_option maxHeartbeats 4000000 in
theorem fn__law_due {fd : FuncData} (T : Txt fa fn K mg) (F : FunD K d12.name d12.qual d12.params d12.body d12.scope (d12.dvs K) (d12.kws K) (He.fAd K d12.at_) fd) : FnOk P w K mg base CX0 2 (He.ga K "_law_due") fd ["form", "first", "second", "many", "day"] (spT K F_law_due) := by
  have sc := sc__law_due
  obtain ⟨fd0, G0, b0, k0, g0⟩ := ok__law_worth (P := P) (w := w) (base := base) T
  refine F.ok sc (sp_len fun _ => rfl) (fun cdv A outer s H vs Q E hr h => ?_)
  refine ⟨_, PSs.nox (pss_cons (ps_if (pt_cmpR op_eq (pv 0) pe_str (nomark _)) (pss_cons (ps_ret (pe_call G0 (hr.mono (by decide)) rfl g0 k0 b0 .nil pass0 (pa_cons (pv 1) (pa_cons (pe_op op_sub (pv 4) (pv 3)) pa_nil)))) pss_nil) pss_nil) (pss_cons (ps_if (pt_cmpR op_eq (pv 0) pe_str (nomark _)) (pss_cons (ps_ret (pe_callB (kMaxL (K := K) rfl) (by rfl) (T.free 10) (by decide +kernel) (pa_cons (pe_lc (own := [("k", 7)]) (g := _) (tt := _) rfl sc.nd (pi_range1 rfl (T.free 3) (pa_cons (pv 3) pa_nil)) (blkOk_by (N := NN__law_due) (sc := defScope st__law_due) (by decide +kernel)) (fun _ _ _ _ _ => (pg_name (i := 7) sc.nd rfl (Or.inl rfl))) (fun _ _ _ _ _ => pts_nil) (fun _ _ _ _ _ => (pe_call G0 (hr.mono (by decide)) rfl g0 k0 b0 .nil pass0 (pa_cons (pv 1) (pa_cons (pe_op op_sub (pv 4) (pv 7)) pa_nil))))) pa_nil))) pss_nil) pss_nil) (pss_cons (ps_if (pt_cmpR op_eq (pv 0) pe_str (nomark _)) (pss_cons (ps_ret (pe_callB (kMinL (K := K) rfl) (by rfl) (T.free 8) (by decide +kernel) (pa_cons (pe_lc (own := [("k", 7)]) (g := _) (tt := _) rfl sc.nd (pi_range1 rfl (T.free 3) (pa_cons (pv 3) pa_nil)) (blkOk_by (N := NN__law_due) (sc := defScope st__law_due) (by decide +kernel)) (fun _ _ _ _ _ => (pg_name (i := 7) sc.nd rfl (Or.inl rfl))) (fun _ _ _ _ _ => pts_nil) (fun _ _ _ _ _ => (pe_call G0 (hr.mono (by decide)) rfl g0 k0 b0 .nil pass0 (pa_cons (pv 1) (pa_cons (pe_op op_sub (pv 4) (pv 7)) pa_nil))))) pa_nil))) pss_nil) pss_nil) (pss_cons (ps_set (i := 5) sc.nd rfl (Or.inl rfl) pe_int) (pss_cons (ps_set (i := 6) sc.nd rfl (Or.inl rfl) pe_int) (pss_cons (ps_for PassesOwn.never rfl (pi_range1 rfl (T.free 3) (pa_cons (pe_op op_add (pv 4) pe_int) pa_nil)) (pg_name (i := 7) sc.nd rfl (Or.inl rfl)) (pss_cons (ps_if (pt_cmpR op_eq (pv 0) pe_str (nomark _)) (pss_cons (ps_set (i := 5) sc.nd rfl (Or.inl rfl) (pe_callB (call_max2 rfl) (by rfl) (T.free 10) (by decide +kernel) (pa_cons (pv 5) (pa_cons (pe_callB (call_min2 rfl) (by rfl) (T.free 8) (by decide +kernel) (pa_cons (pe_ix (kIxL (K := K)) (pv 2) (pe_op op_sub (pv 4) (pv 7)) (fun _ _ => rfl)) (pa_cons (pv 6) pa_nil))) pa_nil)))) (pss_cons (ps_set (i := 6) sc.nd rfl (Or.inl rfl) (pe_callB (call_min2 rfl) (by rfl) (T.free 8) (by decide +kernel) (pa_cons (pv 6) (pa_cons (pe_ix (kIxL (K := K)) (pv 1) (pe_op op_sub (pv 4) (pv 7)) (fun _ _ => rfl)) pa_nil)))) pss_nil)) (pss_cons (ps_set (i := 5) sc.nd rfl (Or.inl rfl) (pe_callB (call_max2 rfl) (by rfl) (T.free 10) (by decide +kernel) (pa_cons (pv 5) (pa_cons (pe_callB (call_min2 rfl) (by rfl) (T.free 8) (by decide +kernel) (pa_cons (pe_ix (kIxL (K := K)) (pv 1) (pe_op op_sub (pv 4) (pv 7)) (fun _ _ => rfl)) (pa_cons (pv 6) pa_nil))) pa_nil)))) (pss_cons (ps_set (i := 6) sc.nd rfl (Or.inl rfl) (pe_callB (call_min2 rfl) (by rfl) (T.free 8) (by decide +kernel) (pa_cons (pv 6) (pa_cons (pe_op op_sub pe_int (pe_ix (kIxL (K := K)) (pv 2) (pe_op op_sub (pv 4) (pv 7)) (fun _ _ => rfl))) pa_nil)))) pss_nil))) pss_nil)) (pss_cons (ps_ret (pv 5)) pss_nil))))))), ?_⟩
  refine sp_body h fun x => ?_
  obtain ⟨form, first, second, many, day⟩ := x
  show EvB K 0 _ [some (.val (tv rTxt form)), some (.val (tv (rSq .l rInt) first)), some (.val (tv (rSq .l rInt) second)), some (.val (tv rInt many)), some (.val (tv rInt day)), none, none, none] [] (fun (w : Int) => OS.rt (tv rInt w) []) (m_law_due form first second many day)
  unfold m_law_due
  exact (eb_ifr (et_test (ev_op (ev_var rfl) (ev_txt (l := [97, 116]) (by decide +kernel)) rv_eqX)) (fun _ => eb_bind fun r1 h1 => (eb_ret (ev_call (ts := [tv (rSq .l rInt) first, tv rInt (day - many)]) (x := (first, (day - many))) (ea_cons (ev_var rfl) (ea_cons (ev_op (ev_var rfl) (ev_var rfl) rv_sub) ea_nil)) (hm := h1)) rfl rfl))
(fun _ => (eb_ifr (et_test (ev_op (ev_var rfl) (ev_txt (l := [119, 105, 116, 104, 105, 110]) (by decide +kernel)) rv_eqX)) (fun _ => eb_bind fun r2 h2 => eb_bind fun r3 h3 => eb_bind fun r6 h6 => eb_bind fun r9 h9 => (eb_ret (ev_cb1 (ev_lstR (ef_mapR (R' := rInt) (ei_rng1 (ea_cons (ev_var rfl) ea_nil) (rngP_ok h2).2) (fun _ => hz_size h3) trivial (fun _ => ego_name) (fun x4 y8 e7 => bo e7 fun r5 h5 e7 => oeV e7 (ev_call (ts := [tv (rSq .l rInt) first, tv rInt (day - x4)]) (x := (first, (day - x4))) (ea_cons (ev_var rfl) (ea_cons (ev_op (ev_var rfl) (ev_var rfl) rv_sub) ea_nil)) (hm := h5))) h6)) (rc_maxL is_seq h9)) rfl rfl))
(fun _ => (eb_ifr (et_test (ev_op (ev_var rfl) (ev_txt (l := [116, 104, 114, 111, 117, 103, 104]) (by decide +kernel)) rv_eqX)) (fun _ => eb_bind fun r10 h10 => eb_bind fun r11 h11 => eb_bind fun r14 h14 => eb_bind fun r17 h17 => (eb_ret (ev_cb1 (ev_lstR (ef_mapR (R' := rInt) (ei_rng1 (ea_cons (ev_var rfl) ea_nil) (rngP_ok h10).2) (fun _ => hz_size h11) trivial (fun _ => ego_name) (fun x12 y16 e15 => bo e15 fun r13 h13 e15 => oeV e15 (ev_call (ts := [tv (rSq .l rInt) first, tv rInt (day - x12)]) (x := (first, (day - x12))) (ea_cons (ev_var rfl) (ea_cons (ev_op (ev_var rfl) (ev_var rfl) rv_sub) ea_nil)) (hm := h13))) h14)) (rc_minL is_seq h17)) rfl rfl))
(fun _ => (eb_bind fun due18 h18 => (eb_asg (oeV h18 ev_int)
(eb_bind fun bar19 h19 => (eb_asg (oeV h19 ev_int)
(eb_bind fun r20 h20 => (eb_for (g := fun (s21 : Int × Int) => [some (.val (tv rTxt form)), some (.val (tv (rSq .l rInt) first)), some (.val (tv (rSq .l rInt) second)), some (.val (tv rInt many)), some (.val (tv rInt day)), some (.val (tv rInt s21.1)), some (.val (tv rInt s21.2)), none]) (mu := fun (s21 : Int × Int) => []) (ei_rng1 (ea_cons (ev_op (ev_var rfl) ev_int rv_add) ea_nil) (rngP_ok h20).2) (fun _ => trivial) (.keep (.keep (.keep (.keep (.keep (.keep (.keep (.keep .nil)))))))) (fun _ => rfl) (fun _ _ => eg_name)
(fun s21 x22 => (eb_ifl (et_test (ev_op (ev_var rfl) (ev_txt (l := [115, 105, 110, 99, 101]) (by decide +kernel)) rv_eqX)) (fun _ => (eb_bind fun r23 h23 => eb_bind fun due24 h24 => (eb_asg (oeV h24 (ev_cb2 (ev_var rfl) (ev_cb2 (ev_op (ev_var rfl) (ev_op (ev_var rfl) (ev_var rfl) rv_sub) (rv_ixL is_seq (at_map h23))) (ev_var rfl) rc_min2) rc_max2))
(eb_bind fun r25 h25 => eb_bind fun bar26 h26 => (eb_asg (oeV h26 (ev_cb2 (ev_var rfl) (ev_op (ev_var rfl) (ev_op (ev_var rfl) (ev_var rfl) rv_sub) (rv_ixL is_seq (at_map h25))) rc_min2))
(eb_nil rfl (.keep (.keep (.keep (.keep (.keep (.keep (.keep (.drop .nil)))))))) rfl (Nat.le_of_ble_eq_true rfl) rfl))))))
(fun _ => (eb_bind fun r27 h27 => eb_bind fun due28 h28 => (eb_asg (oeV h28 (ev_cb2 (ev_var rfl) (ev_cb2 (ev_op (ev_var rfl) (ev_op (ev_var rfl) (ev_var rfl) rv_sub) (rv_ixL is_seq (at_map h27))) (ev_var rfl) rc_min2) rc_max2))
(eb_bind fun r29 h29 => eb_bind fun bar30 h30 => (eb_asg (oeV h30 (ev_cb2 (ev_var rfl) (ev_op ev_int (ev_op (ev_var rfl) (ev_op (ev_var rfl) (ev_var rfl) rv_sub) (rv_ixL is_seq (at_map h29))) rv_sub) rc_min2))
(eb_nil rfl (.keep (.keep (.keep (.keep (.keep (.keep (.keep (.drop .nil)))))))) rfl (Nat.le_of_ble_eq_true rfl) rfl))))))))
(fun s21 => (eb_ret (ev_var rfl) rfl rfl))))))))))))))
theorem ok__law_due (T : Txt fa fn K mg) : OkF P w K mg base "_law_due" ["form", "first", "second", "many", "day"] 2 (spT K F_law_due) := by
  obtain ⟨fd, F⟩ := T.c.def_ 12 rfl
  exact ⟨fd, fn__law_due T F, FunD.bindsN F fun _ _ _ _ _ _ us hl => match us, hl with | [_, _, _, _, _], _ => rfl, F.kp, T.glob 22 rfl⟩
end
abbrev st__law_asked : Stmt := top 20
abbrev NN__law_asked : List Str := ["bag", "form", "atoms", "rows", "known", "day", "one", "many", "due", "two"]
theorem sc__law_asked : FnScope NN__law_asked ["bag", "form", "atoms", "rows", "known", "day"] (defScope st__law_asked) := ⟨rfl, rfl, rfl, by decide +kernel, rfl, by decide +kernel, by decide +kernel⟩
abbrev F_law_asked : FS (Bag × (List Nat) × (List Int) × (List (List Int)) × (List ((Int × Int) × Bool)) × Int) (Bool × Bag) where
  ins := fun x => [.cell 0, .val (tv rTxt x.2.1), .val (tv (rSq .l rInt) x.2.2.1), .val (tv (rSq .l (rSq .l rInt)) x.2.2.2.1), .val (tv (rD (ky2 keInt keInt) rBool) x.2.2.2.2.1), .val (tv rInt x.2.2.2.2.2)]
  cells := fun x => [some (mv_Bag x.1)]
  m := fun x => m_law_asked x.1 x.2.1 x.2.2.1 x.2.2.2.1 x.2.2.2.2.1 x.2.2.2.2.2
  out := fun x w => .rt (tv rBool w.1) [some (mv_Bag w.2)]
section
variable {P : Program} {w : World} {K : PySem.W.Frag} {mg : Str → Option Value} {base : Heap}
set_option maxHeartbeats 4000000 in
theorem fn__law_asked {fd : FuncData} (T : Txt fa fn K mg) (F : FunD K d13.name d13.qual d13.params d13.body d13.scope (d13.dvs K) (d13.kws K) (He.fAd K d13.at_) fd) : FnOk P w K mg base CX0 6 (He.ga K "_law_asked") fd ["bag", "form", "atoms", "rows", "known", "day"] (spT K F_law_asked) := by
  have sc := sc__law_asked
  obtain ⟨fd0, G0, b0, k0, g0⟩ := ok__law_on (P := P) (w := w) (base := base) T
  obtain ⟨fd1, G1, b1, k1, g1⟩ := ok__law_take (P := P) (w := w) (base := base) T
  obtain ⟨fd2, G2, b2, k2, g2⟩ := ok__law_due (P := P) (w := w) (base := base) T
  obtain ⟨fd3, G3, b3, k3, g3⟩ := ok__law_both (P := P) (w := w) (base := base) T
  refine F.ok sc (sp_len fun _ => rfl) (fun cdv A outer s H vs Q E hr h => ?_)
  refine ⟨_, PSs.nox (pss_cons (ps_if (pt_cmpR op_eq (pv 1) pe_str (nomark _)) (pss_cons (ps_ret (pe_call G0 (hr.mono (by decide)) rfl g0 k0 b0 .nil pass0 (pa_cons (pv 0) (pa_cons (pv 5) (pa_cons (pv 4) pa_nil))))) pss_nil) pss_nil) (pss_cons (ps_set (i := 6) sc.nd rfl (Or.inl rfl) (pe_call G1 (hr.mono (by decide)) rfl g1 k1 b1 .nil pass0 (pa_cons (pv 0) (pa_cons pe_int pa_nil)))) (pss_cons (ps_if (PW.pt (pw_or (pt_cmpR op_eq (pv 1) pe_str (nomark _)) (pw_or1 (pt_cmpR op_eq (pv 1) pe_str (nomark _))))) (pss_cons (ps_set (i := 9) sc.nd rfl (Or.inl rfl) (pe_call G1 (hr.mono (by decide)) rfl g1 k1 b1 .nil pass0 (pa_cons (pv 0) (pa_cons pe_int pa_nil)))) (pss_cons (ps_set (i := 8) sc.nd rfl (Or.inl rfl) (pe_call G2 (hr.mono (by decide)) rfl g2 k2 b2 .nil pass0 (pa_cons (pv 1) (pa_cons (pe_ix (kIxL (K := K)) (pv 3) (pv 6) (fun _ _ => rfl)) (pa_cons (pe_ix (kIxL (K := K)) (pv 3) (pv 9) (fun _ _ => rfl)) (pa_cons pe_int (pa_cons (pv 5) pa_nil))))))) (pss_cons (ps_ret (pe_call G3 (hr.mono (by decide)) rfl g3 k3 b3 .nil pass0 (pa_cons (pe_tup (pa_cons (pv 1) (pa_cons (pe_ix (kIxL (K := K)) (pv 2) (pv 6) (fun _ _ => rfl)) (pa_cons (pe_ix (kIxL (K := K)) (pv 2) (pv 9) (fun _ _ => rfl)) pa_nil)))) (pa_cons (pv 5) (pa_cons (pv 4) (pa_cons (pv 8) pa_nil)))))) pss_nil))) pss_nil) (pss_cons (ps_set (i := 7) sc.nd rfl (Or.inl rfl) (pe_op op_add pe_int (pe_call G1 (hr.mono (by decide)) rfl g1 k1 b1 .nil pass0 (pa_cons (pv 0) (pa_cons pe_int pa_nil))))) (pss_cons (ps_if (pt_cmpR op_eq (pv 1) pe_str (nomark _)) (pss_cons (ps_set (i := 7) sc.nd rfl (Or.inl rfl) (pe_call G1 (hr.mono (by decide)) rfl g1 k1 b1 .nil pass0 (pa_cons (pv 0) (pa_cons pe_int pa_nil)))) pss_nil) pss_nil) (pss_cons (ps_set (i := 8) sc.nd rfl (Or.inl rfl) (pe_call G2 (hr.mono (by decide)) rfl g2 k2 b2 .nil pass0 (pa_cons (pv 1) (pa_cons (pe_ix (kIxL (K := K)) (pv 3) (pv 6) (fun _ _ => rfl)) (pa_cons (pe_lst pa_nil) (pa_cons (pv 7) (pa_cons (pv 5) pa_nil))))))) (pss_cons (ps_ret (pe_call G3 (hr.mono (by decide)) rfl g3 k3 b3 .nil pass0 (pa_cons (pe_tup (pa_cons (pv 1) (pa_cons (pe_ix (kIxL (K := K)) (pv 2) (pv 6) (fun _ _ => rfl)) (pa_cons (pv 7) pa_nil)))) (pa_cons (pv 5) (pa_cons (pv 4) (pa_cons (pv 8) pa_nil)))))) pss_nil))))))), ?_⟩
  refine sp_body h fun x => ?_
  obtain ⟨bag, form, atoms, rows, known, day⟩ := x
  show EvB K 1 _ [some (.cell 0), some (.val (tv rTxt form)), some (.val (tv (rSq .l rInt) atoms)), some (.val (tv (rSq .l (rSq .l rInt)) rows)), some (.val (tv (rD (ky2 keInt keInt) rBool) known)), some (.val (tv rInt day)), none, none, none, none] [some (mv_Bag bag)] (fun (w : Bool × Bag) => OS.rt (tv rBool w.1) [some (mv_Bag w.2)]) (m_law_asked bag form atoms rows known day)
  unfold m_law_asked
  exact (eb_ifr (et_test (ev_op (ev_var rfl) (ev_txt (l := [111, 110]) (by decide +kernel)) rv_eqX)) (fun _ => eb_bind fun r1 h1 => (eb_ret (ev_call1 (k := 0) (x := (bag, day, known)) (ea_cons (ev_var rfl) (ea_cons (ev_var rfl) (ea_cons (ev_var rfl) ea_nil))) rfl (hm := h1)) rfl rfl))
(fun _ => (eb_bind fun r2 h2 => (eb_asg (ev_call1 (k := 0) (x := (bag, (3 : Int))) (ea_cons (ev_var rfl) (ea_cons ev_int ea_nil)) rfl (hm := h2))
(eb_ifr (et_or0 (et_test (ev_op (ev_var rfl) (ev_txt (l := [115, 105, 110, 99, 101]) (by decide +kernel)) rv_eqX)) (et_test (ev_op (ev_var rfl) (ev_txt (l := [104, 101, 108, 100]) (by decide +kernel)) rv_eqX))) (fun _ => (eb_bind fun r3 h3 => (eb_asg (ev_call1 (k := 0) (x := (r2.2, (3 : Int))) (ea_cons (ev_var rfl) (ea_cons ev_int ea_nil)) rfl (hm := h3))
(eb_bind fun r4 h4 => eb_bind fun r5 h5 => eb_bind fun r6 h6 => (eb_asg (ev_call (ts := [tv rTxt form, tv (rSq .l rInt) r4, tv (rSq .l rInt) r5, tv rInt (0 : Int), tv rInt day]) (x := (form, r4, r5, (0 : Int), day)) (ea_cons (ev_var rfl) (ea_cons (ev_op (ev_var rfl) (ev_var rfl) (rv_ixL is_seq (at_map h4))) (ea_cons (ev_op (ev_var rfl) (ev_var rfl) (rv_ixL is_seq (at_map h5))) (ea_cons ev_int (ea_cons (ev_var rfl) ea_nil))))) (hm := h6))
(eb_bind fun r7 h7 => eb_bind fun r8 h8 => eb_bind fun r9 h9 => (eb_ret (ev_call (ts := [tv (rP3 rTxt rInt rInt) (form, r7, r8), tv rInt day, tv (rD (ky2 keInt keInt) rBool) known, tv rInt r6]) (x := ((form, r7, r8), day, known, r6)) (ea_cons (ev_mk3 (ea_cons (ev_var rfl) (ea_cons (ev_op (ev_var rfl) (ev_var rfl) (rv_ixL is_seq (at_map h7))) (ea_cons (ev_op (ev_var rfl) (ev_var rfl) (rv_ixL is_seq (at_map h8))) ea_nil)))) (ea_cons (ev_var rfl) (ea_cons (ev_var rfl) (ea_cons (ev_var rfl) ea_nil)))) (hm := h9)) rfl rfl)))))))
(fun _ => (eb_bind fun r10 h10 => eb_bind fun many11 h11 => (eb_asg (oeV h11 (ev_op ev_int (ev_call1 (k := 0) (x := (r2.2, (6 : Int))) (ea_cons (ev_var rfl) (ea_cons ev_int ea_nil)) rfl (hm := h10)) rv_add))
(eb_ifj (g := fun (s13 : Int × Bag) => [some (.cell 0), some (.val (tv rTxt form)), some (.val (tv (rSq .l rInt) atoms)), some (.val (tv (rSq .l (rSq .l rInt)) rows)), some (.val (tv (rD (ky2 keInt keInt) rBool) known)), some (.val (tv rInt day)), some (.val (tv rInt r2.1)), some (.val (tv rInt s13.1)), none, none]) (mu := fun (s13 : Int × Bag) => [some (mv_Bag s13.2)]) (et_test (ev_op (ev_var rfl) (ev_txt (l := [97, 116]) (by decide +kernel)) rv_eqX)) (fun _ => (eb_bind fun r12 h12 => (eb_asg (ev_call1 (k := 0) (x := (r10.2, (7 : Int))) (ea_cons (ev_var rfl) (ea_cons ev_int ea_nil)) rfl (hm := h12))
(eb_nil rfl (.keep (.keep (.keep (.keep (.keep (.keep (.keep (.keep (.keep (.keep .nil)))))))))) rfl (Nat.le_of_ble_eq_true rfl) rfl))))
(fun _ => (eb_nil rfl (.keep (.keep (.keep (.keep (.keep (.keep (.keep (.keep (.keep (.keep .nil)))))))))) rfl (Nat.le_of_ble_eq_true rfl) rfl)) (fun _ => Nat.le_of_ble_eq_true rfl)
(fun s13 => (eb_bind fun r14 h14 => eb_bind fun r15 h15 => (eb_asg (ev_call (ts := [tv rTxt form, tv (rSq .l rInt) r14, tv (rSq .l rInt) ([] : List Int), tv rInt s13.1, tv rInt day]) (x := (form, r14, ([] : List Int), s13.1, day)) (ea_cons (ev_var rfl) (ea_cons (ev_op (ev_var rfl) (ev_var rfl) (rv_ixL is_seq (at_map h14))) (ea_cons (ev_lstR (ef_mkL (R := rInt) (xs := ([] : List Int)) ea_nil)) (ea_cons (ev_var rfl) (ea_cons (ev_var rfl) ea_nil))))) (hm := h15))
(eb_bind fun r16 h16 => eb_bind fun r17 h17 => (eb_ret (ev_call (ts := [tv (rP3 rTxt rInt rInt) (form, r16, s13.1), tv rInt day, tv (rD (ky2 keInt keInt) rBool) known, tv rInt r15]) (x := ((form, r16, s13.1), day, known, r15)) (ea_cons (ev_mk3 (ea_cons (ev_var rfl) (ea_cons (ev_op (ev_var rfl) (ev_var rfl) (rv_ixL is_seq (at_map h16))) (ea_cons (ev_var rfl) ea_nil)))) (ea_cons (ev_var rfl) (ea_cons (ev_var rfl) (ea_cons (ev_var rfl) ea_nil)))) (hm := h17)) rfl rfl))))))))))))))
theorem ok__law_asked (T : Txt fa fn K mg) : OkF P w K mg base "_law_asked" ["bag", "form", "atoms", "rows", "known", "day"] 6 (spT K F_law_asked) := by
  obtain ⟨fd, F⟩ := T.c.def_ 13 rfl
  exact ⟨fd, fn__law_asked T F, FunD.bindsN F fun _ _ _ _ _ _ us hl => match us, hl with | [_, _, _, _, _, _], _ => rfl, F.kp, T.glob 23 rfl⟩
end
abbrev st__law_still : Stmt := top 14
abbrev NN__law_still : List Str := ["known", "atoms", "rows", "count", "k", "when"]
theorem sc__law_still : FnScope NN__law_still ["known", "atoms", "rows"] (defScope st__law_still) := ⟨rfl, rfl, rfl, by decide +kernel, rfl, by decide +kernel, by decide +kernel⟩
abbrev F_law_still : FS ((List ((Int × Int) × Bool)) × (List Int) × (List (List Int))) (Bool) where
  ins := fun x => [.val (tv (rD (ky2 keInt keInt) rBool) x.1), .val (tv (rSq .l rInt) x.2.1), .val (tv (rSq .l (rSq .l rInt)) x.2.2)]
  cells := fun x => []
  m := fun x => m_law_still x.1 x.2.1 x.2.2
  out := fun x w => .rt (tv rBool w) []
section
variable {P : Program} {w : World} {K : PySem.W.Frag} {mg : Str → Option Value} {base : Heap}
set_option maxHeartbeats 4000000 in
theorem fn__law_still {fd : FuncData} (T : Txt fa fn K mg) (F : FunD K d14.name d14.qual d14.params d14.body d14.scope (d14.dvs K) (d14.kws K) (He.fAd K d14.at_) fd) : FnOk P w K mg base CX0 2 (He.ga K "_law_still") fd ["known", "atoms", "rows"] (spT K F_law_still) := by
  have sc := sc__law_still
  obtain ⟨fd0, G0, b0, k0, g0⟩ := ok__law_same (P := P) (w := w) (base := base) T
  refine F.ok sc (sp_len fun _ => rfl) (fun cdv A outer s H vs Q E hr h => ?_)
  refine ⟨_, PSs.nox (pss_cons (ps_set (i := 3) sc.nd rfl (Or.inl rfl) pe_int) (pss_cons (ps_for PassesOwn.never rfl (pi_range1 rfl (T.free 3) (pa_cons (pe_callB (kLen (K := K)) (by rfl) (T.free 4) (by decide +kernel) (pa_cons (pv 1) pa_nil)) pa_nil)) (pg_name (i := 4) sc.nd rfl (Or.inl rfl)) (pss_cons (ps_for PassesOwn.never rfl (pi_range1 rfl (T.free 3) (pa_cons (pe_callB (kLen (K := K)) (by rfl) (T.free 4) (by decide +kernel) (pa_cons (pe_ix (kIxL (K := K)) (pv 2) (pv 4) (fun _ _ => rfl)) pa_nil)) pa_nil)) (pg_name (i := 5) sc.nd rfl (Or.inl rfl)) (pss_cons (ps_if (pt_cmpR op_ne (pe_ix (kIxL (K := K)) (pe_ix (kIxL (K := K)) (pv 2) (pv 4) (fun _ _ => rfl)) (pv 5) (fun _ _ => rfl)) pe_int (nomark _)) (pss_cons (ps_set (i := 3) sc.nd rfl (Or.inl rfl) (pe_op op_add (pv 3) pe_int)) (pss_cons (ps_if (pt_not (pt_val (pe_call G0 (hr.mono (by decide)) rfl g0 k0 b0 .nil pass0 (pa_cons (pe_dget1 (Nat.lt_of_le_of_lt (Nat.add_le_add_left (by decide) _) hr.units) (pv 0) (pe_tup (pa_cons (pv 5) (pa_cons (pe_ix (kIxL (K := K)) (pv 1) (pv 4) (fun _ _ => rfl)) pa_nil))) ⟨rfl, rfl, rfl, rfl⟩) (pa_cons (pe_ix (kIxL (K := K)) (pe_ix (kIxL (K := K)) (pv 2) (pv 4) (fun _ _ => rfl)) (pv 5) (fun _ _ => rfl)) pa_nil))))) (pss_cons (ps_ret pe_bl) pss_nil) pss_nil) pss_nil)) pss_nil) pss_nil)) pss_nil)) (pss_cons (ps_ret (pe_cmpR op_eq (pe_callB call_len_dT (by rfl) (T.free 4) (by decide +kernel) (pa_cons (pv 0) pa_nil)) (pv 3) (nomark _))) pss_nil))), ?_⟩
  refine sp_body h fun x => ?_
  obtain ⟨known, atoms, rows⟩ := x
  show EvB K 0 _ [some (.val (tv (rD (ky2 keInt keInt) rBool) known)), some (.val (tv (rSq .l rInt) atoms)), some (.val (tv (rSq .l (rSq .l rInt)) rows)), none, none, none] [] (fun (w : Bool) => OS.rt (tv rBool w) []) (m_law_still known atoms rows)
  unfold m_law_still
  exact (eb_bind fun count1 h1 => (eb_asg (oeV h1 ev_int)
(eb_bind fun r2 h2 => (eb_for (g := fun (s3 : Int) => [some (.val (tv (rD (ky2 keInt keInt) rBool) known)), some (.val (tv (rSq .l rInt) atoms)), some (.val (tv (rSq .l (rSq .l rInt)) rows)), some (.val (tv rInt s3)), none, none]) (mu := fun (s3 : Int) => []) (ei_rng1 (ea_cons (ev_cb1 (ev_var rfl) (rc_lenL is_seq)) ea_nil) (rngP_ok h2).2) (fun _ => trivial) (.keep (.keep (.keep (.keep (.keep (.keep .nil)))))) (fun _ => rfl) (fun _ _ => eg_name)
(fun s3 x4 => (eb_bind fun r5 h5 => eb_bind fun r6 h6 => (eb_for (g := fun (s7 : Int) => [some (.val (tv (rD (ky2 keInt keInt) rBool) known)), some (.val (tv (rSq .l rInt) atoms)), some (.val (tv (rSq .l (rSq .l rInt)) rows)), some (.val (tv rInt s7)), some (.val (tv rInt x4)), none]) (mu := fun (s7 : Int) => []) (ei_rng1 (ea_cons (ev_cb1 (ev_op (ev_var rfl) (ev_var rfl) (rv_ixL is_seq (at_map h5))) (rc_lenL is_seq)) ea_nil) (rngP_ok h6).2) (fun _ => trivial) (.keep (.keep (.keep (.keep (.keep (.keep .nil)))))) (fun _ => rfl) (fun _ _ => eg_name)
(fun s7 x8 => (eb_bind fun r9 h9 => eb_bind fun r10 h10 => (eb_ifl (et_test (ev_op (ev_op (ev_op (ev_var rfl) (ev_var rfl) (rv_ixL is_seq (at_map h9))) (ev_var rfl) (rv_ixL is_seq (at_map h10))) ev_int rv_neI)) (fun _ => (eb_bind fun count11 h11 => (eb_asg (oeV h11 (ev_op (ev_var rfl) ev_int rv_add))
(eb_bind fun r12 h12 => eb_bind fun r13 h13 => eb_bind fun r14 h14 => eb_bind fun r15 h15 => (eb_ifl (et_not (et_B (ev_call (ts := [tv (rOpt rBool) (dget known (x8, r12)), tv rInt r14]) (x := ((dget known (x8, r12)), r14)) (ea_cons (ev_dget1 (ev_var rfl) (ev_mk2 (ea_cons (ev_var rfl) (ea_cons (ev_op (ev_var rfl) (ev_var rfl) (rv_ixL is_seq (at_map h12))) ea_nil))) ⟨_, is_dv⟩ is_dv) (ea_cons (ev_op (ev_op (ev_var rfl) (ev_var rfl) (rv_ixL is_seq (at_map h13))) (ev_var rfl) (rv_ixL is_seq (at_map h14))) ea_nil)) (hm := h15)))) (fun _ => (eb_ret ev_bool rfl rfl))
(fun _ => (eb_nil rfl (.keep (.keep (.keep (.keep (.keep (.drop .nil)))))) rfl (Nat.le_of_ble_eq_true rfl) rfl)))))))
(fun _ => (eb_nil rfl (.keep (.keep (.keep (.keep (.keep (.drop .nil)))))) rfl (Nat.le_of_ble_eq_true rfl) rfl)))))
(fun s7 => (eb_nil rfl (.keep (.keep (.keep (.keep (.drop (.keep .nil)))))) rfl (Nat.le_of_ble_eq_true rfl) rfl)))))
(fun s3 => (eb_ret (ev_op (ev_cb1 (ev_var rfl) (rc_dlenT is_dv)) (ev_var rfl) rv_eqI) rfl rfl))))))
theorem ok__law_still (T : Txt fa fn K mg) : OkF P w K mg base "_law_still" ["known", "atoms", "rows"] 2 (spT K F_law_still) := by
  obtain ⟨fd, F⟩ := T.c.def_ 14 rfl
  exact ⟨fd, fn__law_still T F, FunD.bindsN F fun _ _ _ _ _ _ us hl => match us, hl with | [_, _, _], _ => rfl, F.kp, T.glob 24 rfl⟩
end
abbrev st_law : Stmt := top 21
abbrev NN_law : List Str := ["script", "bag", "pool", "atoms", "k", "far", "day", "steady", "rows", "known", "forms", "form", "when"]
theorem sc_law : FnScope NN_law ["script"] (defScope st_law) := ⟨rfl, rfl, rfl, by decide +kernel, rfl, by decide +kernel, by decide +kernel⟩
abbrev F_law : FS (List Int) (Bool) where
  ins := fun x => [.val (tv (rSq .q rInt) x)]
  cells := fun x => []
  m := fun x => m_law x
  out := fun x w => .rt (tv rBool w) []
section
variable {P : Program} {w : World} {K : PySem.W.Frag} {mg : Str → Option Value} {base : Heap}
set_option maxHeartbeats 4000000 in
theorem fn_law {fd : FuncData} (T : Txt fa fn K mg) (F : FunD K d15.name d15.qual d15.params d15.body d15.scope (d15.dvs K) (d15.kws K) (He.fAd K d15.at_) fd) : FnOk P w K mg base CX0 7 (He.ga K "law") fd ["script"] (spT K F_law) := by
  have sc := sc_law
  obtain ⟨fd0, G0, b0, k0, g0⟩ := ok__law_bag (P := P) (w := w) (base := base) T
  obtain ⟨fd1, G1, b1, k1, g1⟩ := ok__law_take (P := P) (w := w) (base := base) T
  obtain ⟨fd2, G2, b2, k2, g2⟩ := ok__law_row (P := P) (w := w) (base := base) T
  obtain ⟨fd3, G3, b3, k3, g3⟩ := ok__law_known (P := P) (w := w) (base := base) T
  obtain ⟨fd4, G4, b4, k4, g4⟩ := ok__law_asked (P := P) (w := w) (base := base) T
  obtain ⟨fd5, G5, b5, k5, g5⟩ := ok__law_still (P := P) (w := w) (base := base) T
  refine F.ok sc (sp_len fun _ => rfl) (fun cdv A outer s H vs Q E hr h => ?_)
  refine ⟨_, PSs.nox (pss_cons (ps_set (i := 1) sc.nd rfl (Or.inl rfl) (pe_call G0 (hr.mono (by decide)) rfl g0 k0 b0 .nil pass0 (pa_cons (pv 0) pa_nil))) (pss_cons (ps_set (i := 2) sc.nd rfl (Or.inl rfl) (pe_listRg rfl rfl (T.free 2) (prg_1 rfl (T.free 3) pe_int))) (pss_cons (ps_set (i := 3) sc.nd rfl (Or.inl rfl) (pe_lst pa_nil)) (pss_cons (ps_for PassesOwn.never rfl (pi_range1 rfl (T.free 3) (pa_cons pe_int pa_nil)) (pg_name (i := 4) sc.nd rfl (Or.inl rfl)) (pss_cons (ps_expr (pe_bm PySem.F.plainAttrs_list PySem.F.slot_list_append PySem.F.type_list_append mt_append (pv 3) (pa_cons (pe_bm PySem.F.plainAttrs_list PySem.F.slot_list_pop PySem.F.type_list_pop mt_popAt (pv 2) (pa_cons (pe_call G1 (hr.mono (by decide)) rfl g1 k1 b1 .nil pass0 (pa_cons (pv 1) (pa_cons (pe_callB (kLen (K := K)) (by rfl) (T.free 4) (by decide +kernel) (pa_cons (pv 2) pa_nil)) pa_nil))) pa_nil)) pa_nil))) pss_nil)) (pss_cons (ps_set (i := 5) sc.nd rfl (Or.inl rfl) (pe_cmpR op_eq (pe_call G1 (hr.mono (by decide)) rfl g1 k1 b1 .nil pass0 (pa_cons (pv 1) (pa_cons pe_int pa_nil))) pe_int (nomark _))) (pss_cons (ps_set (i := 6) sc.nd rfl (Or.inl rfl) (pe_call G1 (hr.mono (by decide)) rfl g1 k1 b1 .nil pass0 (pa_cons (pv 1) (pa_cons pe_int pa_nil)))) (pss_cons (ps_set (i := 7) sc.nd rfl (Or.inl rfl) (pe_lst (pa_cons (pe_un un_neg pe_int) (pa_cons (pe_un un_neg pe_int) (pa_cons (pe_un un_neg pe_int) pa_nil))))) (pss_cons (ps_if (pt_val (pv 5)) (pss_cons (ps_set (i := 6) sc.nd rfl (Or.inl rfl) (pe_call G1 (hr.mono (by decide)) rfl g1 k1 b1 .nil pass0 (pa_cons (pv 1) (pa_cons pe_int pa_nil)))) (pss_cons (ps_if (pt_cmpR op_eq (pe_call G1 (hr.mono (by decide)) rfl g1 k1 b1 .nil pass0 (pa_cons (pv 1) (pa_cons pe_int pa_nil))) pe_int (nomark _)) (pss_cons (ps_set (i := 7) sc.nd rfl (Or.inl rfl) (pe_lst (pa_cons pe_int (pa_cons pe_int (pa_cons (pe_un un_neg pe_int) pa_nil))))) pss_nil) pss_nil) pss_nil)) pss_nil) (pss_cons (ps_set (i := 8) sc.nd rfl (Or.inl rfl) (pe_lst pa_nil)) (pss_cons (ps_for PassesOwn.never rfl (pi_range1 rfl (T.free 3) (pa_cons pe_int pa_nil)) (pg_name (i := 4) sc.nd rfl (Or.inl rfl)) (pss_cons (ps_expr (pe_bm PySem.F.plainAttrs_list PySem.F.slot_list_append PySem.F.type_list_append mt_append (pv 8) (pa_cons (pe_call G2 (hr.mono (by decide)) rfl g2 k2 b2 .nil pass0 (pa_cons (pv 1) (pa_cons (pe_callB (call_min2 rfl) (by rfl) (T.free 8) (by decide +kernel) (pa_cons (pe_op op_add (pv 6) pe_int) (pa_cons pe_int pa_nil))) (pa_cons (pv 5) (pa_cons (pe_ix (kIxL (K := K)) (pv 7) (pv 4) (fun _ _ => rfl)) pa_nil))))) pa_nil))) pss_nil)) (pss_cons (ps_set (i := 9) sc.nd rfl (Or.inl rfl) (pe_call G3 (hr.mono (by decide)) rfl g3 k3 b3 .nil pass0 (pa_cons (pv 3) (pa_cons (pv 8) pa_nil)))) (pss_cons (ps_set (i := 10) sc.nd rfl (Or.inl rfl) (pe_lst (pa_cons pe_str (pa_cons pe_str (pa_cons pe_str (pa_cons pe_str (pa_cons pe_str (pa_cons pe_str pa_nil)))))))) (pss_cons (ps_for PassesOwn.never rfl (pi_range1 rfl (T.free 3) (pa_cons (pe_call G1 (hr.mono (by decide)) rfl g1 k1 b1 .nil pass0 (pa_cons (pv 1) (pa_cons pe_int pa_nil))) pa_nil)) (pg_name (i := 4) sc.nd rfl (Or.inl rfl)) (pss_cons (ps_expr (pe_bm PySem.F.plainAttrs_list PySem.F.slot_list_append PySem.F.type_list_append mt_append (pv 10) (pa_cons (pe_ix (kIxL (K := K)) (pv 10) (pe_call G1 (hr.mono (by decide)) rfl g1 k1 b1 .nil pass0 (pa_cons (pv 1) (pa_cons pe_int pa_nil))) (fun _ _ => rfl)) pa_nil))) pss_nil)) (pss_cons (ps_for PassesOwn.never rfl (kPiL (K := K) (pv 10)) (pg_name (i := 11) sc.nd rfl (Or.inl rfl)) (pss_cons (ps_set (i := 12) sc.nd rfl (Or.inl rfl) (pe_callB (call_max2 rfl) (by rfl) (T.free 10) (by decide +kernel) (pa_cons pe_int (pa_cons (pe_op op_sub (pv 6) (pe_call G1 (hr.mono (by decide)) rfl g1 k1 b1 .nil pass0 (pa_cons (pv 1) (pa_cons pe_int pa_nil)))) pa_nil)))) (pss_cons (ps_if (pt_not (pt_val (pe_call G4 (hr.mono (by decide)) rfl g4 k4 b4 .nil pass0 (pa_cons (pv 1) (pa_cons (pv 11) (pa_cons (pv 3) (pa_cons (pv 8) (pa_cons (pv 9) (pa_cons (pv 12) pa_nil))))))))) (pss_cons (ps_ret pe_bl) pss_nil) pss_nil) pss_nil))) (pss_cons (ps_ret (pe_call G5 (hr.mono (by decide)) rfl g5 k5 b5 .nil pass0 (pa_cons (pv 9) (pa_cons (pv 3) (pa_cons (pv 8) pa_nil))))) pss_nil))))))))))))))), ?_⟩
  refine sp_body h fun script => ?_
  show EvB K 0 _ [some (.val (tv (rSq .q rInt) script)), none, none, none, none, none, none, none, none, none, none, none, none] [] (fun (w : Bool) => OS.rt (tv rBool w) []) (m_law script)
  unfold m_law
  exact (eb_bind fun r1 h1 => (eb_asg (ev_own (ef_call (ts := [tv (rSq .q rInt) script]) (x := script) (ea_cons (ev_var rfl) ea_nil) (hm := h1)))
(eb_bind fun pool2 h2 => (eb_asg (ev_own (oeF (R := rInt) h2 (ef_lstRg1 ev_int (RgOk.of_le (by decide) (by decide) (by decide) (by decide)))))
(eb_bind fun atoms3 h3 => (eb_asg (ev_own (oeF (R := rInt) h3 (ef_mkL (R := rInt) (xs := ([] : List Int)) ea_nil)))
(eb_for (g := fun (s4 : Bag × (List Int) × (List Int)) => [some (.val (tv (rSq .q rInt) script)), some (.cell 0), some (.cell 1), some (.cell 2), none, none, none, none, none, none, none, none, none]) (mu := fun (s4 : Bag × (List Int) × (List Int)) => [some (mv_Bag s4.1), some (mL (s4.2.1.map (tv rInt))), some (mL (s4.2.2.map (tv rInt)))]) (ei_rng1 (ea_cons ev_int ea_nil) ⟨by decide, by decide⟩) (fun _ => trivial) (.keep (.keep (.keep (.keep (.keep (.keep (.keep (.keep (.keep (.keep (.keep (.keep (.keep .nil))))))))))))) (fun _ => rfl) (fun _ _ => eg_name)
(fun s4 x5 => (eb_bind fun r6 h6 => eb_bind fun r7 h7 => eb_bind fun r8 h8 => (eb_appL (ev_var rfl) rfl (ev_popAt (ev_var rfl) rfl (ev_call1 (k := 0) (x := (s4.1, (s4.2.1.length : Int))) (ea_cons (ev_var rfl) (ea_cons (ev_cb1 (ev_var rfl) (rc_lenL (is_cell rfl))) ea_nil)) rfl (hm := h6)) rfl (pairR h7)) rfl h8
(eb_nil rfl (.keep (.keep (.keep (.keep (.drop (.keep (.keep (.keep (.keep (.keep (.keep (.keep (.keep .nil))))))))))))) rfl (Nat.le_of_ble_eq_true rfl) rfl))))
(fun s4 => (eb_bind fun r9 h9 => eb_bind fun far10 h10 => (eb_asg (oeV h10 (ev_op (ev_call1 (k := 0) (x := (s4.1, (8 : Int))) (ea_cons (ev_var rfl) (ea_cons ev_int ea_nil)) rfl (hm := h9)) ev_int rv_eqI))
(eb_bind fun r11 h11 => (eb_asg (ev_call1 (k := 0) (x := (r9.2, (10 : Int))) (ea_cons (ev_var rfl) (ea_cons ev_int ea_nil)) rfl (hm := h11))
(eb_bind fun steady12 h12 => (eb_asg (ev_lstR (oeF (R := rInt) h12 (ef_mkL (R := rInt) (xs := ([(-1 : Int), (-1 : Int), (-1 : Int)] : List Int)) (ea_cons ev_neg1 (ea_cons ev_neg1 (ea_cons ev_neg1 ea_nil))))))
(eb_ifj (g := fun (s16 : Int × (List Int) × Bag) => [some (.val (tv (rSq .q rInt) script)), some (.cell 0), some (.cell 1), some (.cell 2), none, some (.val (tv rBool far10)), some (.val (tv rInt s16.1)), some (.val (tv (rSq .l rInt) s16.2.1)), none, none, none, none, none]) (mu := fun (s16 : Int × (List Int) × Bag) => [some (mv_Bag s16.2.2), some (mL (s4.2.1.map (tv rInt))), some (mL (s4.2.2.map (tv rInt)))]) (et_B (ev_var rfl)) (fun _ => (eb_bind fun r13 h13 => (eb_asg (ev_call1 (k := 0) (x := (r11.2, (5001 : Int))) (ea_cons (ev_var rfl) (ea_cons ev_int ea_nil)) rfl (hm := h13))
(eb_bind fun r14 h14 => (eb_ifl (et_test (ev_op (ev_call1 (k := 0) (x := (r13.2, (2 : Int))) (ea_cons (ev_var rfl) (ea_cons ev_int ea_nil)) rfl (hm := h14)) ev_int rv_eqI)) (fun _ => (eb_bind fun steady15 h15 => (eb_asg (ev_lstR (oeF (R := rInt) h15 (ef_mkL (R := rInt) (xs := ([(2 : Int), (0 : Int), (-1 : Int)] : List Int)) (ea_cons ev_int (ea_cons ev_int (ea_cons ev_neg1 ea_nil))))))
(eb_nil rfl (.keep (.keep (.keep (.keep (.keep (.keep (.keep (.keep (.keep (.keep (.keep (.keep (.keep .nil))))))))))))) rfl (Nat.le_of_ble_eq_true rfl) rfl))))
(fun _ => (eb_nil rfl (.keep (.keep (.keep (.keep (.keep (.keep (.keep (.keep (.keep (.keep (.keep (.keep (.keep .nil))))))))))))) rfl (Nat.le_of_ble_eq_true rfl) rfl)))))))
(fun _ => (eb_nil rfl (.keep (.keep (.keep (.keep (.keep (.keep (.keep (.keep (.keep (.keep (.keep (.keep (.keep .nil))))))))))))) rfl (Nat.le_of_ble_eq_true rfl) rfl)) (fun _ => Nat.le_of_ble_eq_true rfl)
(fun s16 => (eb_bind fun rows17 h17 => (eb_asg (ev_own (oeF (R := (rSq .l rInt)) h17 (ef_mkL (R := (rSq .l rInt)) (xs := ([] : List (List Int))) ea_nil)))
(eb_for (g := fun (s18 : Bag × (List (List Int))) => [some (.val (tv (rSq .q rInt) script)), some (.cell 0), some (.cell 1), some (.cell 2), none, some (.val (tv rBool far10)), some (.val (tv rInt s16.1)), some (.val (tv (rSq .l rInt) s16.2.1)), some (.cell 3), none, none, none, none]) (mu := fun (s18 : Bag × (List (List Int))) => [some (mv_Bag s18.1), some (mL (s4.2.1.map (tv rInt))), some (mL (s4.2.2.map (tv rInt))), some (mL (s18.2.map (tv (rSq .l rInt))))]) (ei_rng1 (ea_cons ev_int ea_nil) ⟨by decide, by decide⟩) (fun _ => trivial) (.keep (.keep (.keep (.keep (.keep (.keep (.keep (.keep (.keep (.keep (.keep (.keep (.keep .nil))))))))))))) (fun _ => rfl) (fun _ _ => eg_name)
(fun s18 x19 => (eb_bind fun r20 h20 => eb_bind fun r21 h21 => eb_bind fun r22 h22 => (eb_appL (ev_var rfl) rfl (ev_lstR (ef_call1 (k := 0) (x := (s18.1, (if (5001 : Int) < (s16.1 + (3 : Int)) then (5001 : Int) else (s16.1 + (3 : Int))), far10, r20)) (ea_cons (ev_var rfl) (ea_cons (ev_cb2 (ev_op (ev_var rfl) ev_int rv_add) ev_int rc_min2) (ea_cons (ev_var rfl) (ea_cons (ev_op (ev_var rfl) (ev_var rfl) (rv_ixL is_seq (at_map h20))) ea_nil)))) rfl (hm := h21))) rfl h22
(eb_nil rfl (.keep (.keep (.keep (.keep (.drop (.keep (.keep (.keep (.keep (.keep (.keep (.keep (.keep .nil))))))))))))) rfl (Nat.le_of_ble_eq_true rfl) rfl))))
(fun s18 => (eb_frz (j := 3) rfl frz_L (eb_frz (j := 2) rfl frz_L (eb_bind fun r23 h23 => (eb_asg (ev_frz (ef_call (ts := [tv (rSq .l rInt) s4.2.2, tv (rSq .l (rSq .l rInt)) s18.2]) (x := (s4.2.2, s18.2)) (ea_cons (ev_var rfl) (ea_cons (ev_var rfl) ea_nil)) (hm := h23)) frz_D)
(eb_bind fun forms24 h24 => (eb_asg (ev_own (oeF (R := rTxt) h24 (ef_mkL (R := rTxt) (xs := ([[97, 116], [115, 105, 110, 99, 101], [104, 101, 108, 100], [119, 105, 116, 104, 105, 110], [116, 104, 114, 111, 117, 103, 104], [111, 110]] : List (List Nat))) (ea_cons (ev_txt (l := [97, 116]) (by decide +kernel)) (ea_cons (ev_txt (l := [115, 105, 110, 99, 101]) (by decide +kernel)) (ea_cons (ev_txt (l := [104, 101, 108, 100]) (by decide +kernel)) (ea_cons (ev_txt (l := [119, 105, 116, 104, 105, 110]) (by decide +kernel)) (ea_cons (ev_txt (l := [116, 104, 114, 111, 117, 103, 104]) (by decide +kernel)) (ea_cons (ev_txt (l := [111, 110]) (by decide +kernel)) ea_nil)))))))))
(eb_bind fun r25 h25 => eb_bind fun r26 h26 => (eb_for (g := fun (s27 : Bag × (List (List Nat))) => [some (.val (tv (rSq .q rInt) script)), some (.cell 0), some (.cell 1), some (.val (tv (rSq .l rInt) s4.2.2)), none, some (.val (tv rBool far10)), some (.val (tv rInt s16.1)), some (.val (tv (rSq .l rInt) s16.2.1)), some (.val (tv (rSq .l (rSq .l rInt)) s18.2)), some (.val (tv (rD (ky2 keInt keInt) rBool) r23)), some (.cell 4), none, none]) (mu := fun (s27 : Bag × (List (List Nat))) => [some (mv_Bag s27.1), some (mL (s4.2.1.map (tv rInt))), none, none, some (mL (s27.2.map (tv rTxt)))]) (ei_rng1 (ea_cons (ev_call1 (k := 0) (x := (s18.1, (4 : Int))) (ea_cons (ev_var rfl) (ea_cons ev_int ea_nil)) rfl (hm := h25)) ea_nil) (rngP_ok h26).2) (fun _ => trivial) (.keep (.keep (.keep (.keep (.keep (.keep (.keep (.keep (.keep (.keep (.keep (.keep (.keep .nil))))))))))))) (fun _ => rfl) (fun _ _ => eg_name)
(fun s27 x28 => (eb_bind fun r29 h29 => eb_bind fun r30 h30 => eb_bind fun r31 h31 => (eb_appL (ev_var rfl) rfl (ev_op (ev_var rfl) (ev_call1 (k := 0) (x := (s27.1, (6 : Int))) (ea_cons (ev_var rfl) (ea_cons ev_int ea_nil)) rfl (hm := h29)) (rv_ixL (is_cell rfl) (at_map h30))) rfl h31
(eb_nil rfl (.keep (.keep (.keep (.keep (.drop (.keep (.keep (.keep (.keep (.keep (.keep (.keep (.keep .nil))))))))))))) rfl (Nat.le_of_ble_eq_true rfl) rfl))))
(fun s27 => (eb_for (g := fun (s32 : Bag) => [some (.val (tv (rSq .q rInt) script)), some (.cell 0), some (.cell 1), some (.val (tv (rSq .l rInt) s4.2.2)), none, some (.val (tv rBool far10)), some (.val (tv rInt s16.1)), some (.val (tv (rSq .l rInt) s16.2.1)), some (.val (tv (rSq .l (rSq .l rInt)) s18.2)), some (.val (tv (rD (ky2 keInt keInt) rBool) r23)), some (.cell 4), none, none]) (mu := fun (s32 : Bag) => [some (mv_Bag s32), some (mL (s4.2.1.map (tv rInt))), none, none, some (mL (s27.2.map (tv rTxt)))]) (ei_C (ev_var rfl) rfl) (fun _ => rfl) (.keep (.keep (.keep (.keep (.keep (.keep (.keep (.keep (.keep (.keep (.keep (.keep (.keep .nil))))))))))))) (fun _ => rfl) (fun _ _ => eg_name)
(fun s32 x33 => (eb_bind fun r34 h34 => eb_bind fun when35 h35 => (eb_asg (oeV h35 (ev_cb2 ev_int (ev_op (ev_var rfl) (ev_call1 (k := 0) (x := (s32, (3 : Int))) (ea_cons (ev_var rfl) (ea_cons ev_int ea_nil)) rfl (hm := h34)) rv_sub) rc_max2))
(eb_bind fun r36 h36 => (eb_ifl (et_not (et_B (ev_call1 (k := 0) (x := (r34.2, x33, s4.2.2, s18.2, r23, when35)) (ea_cons (ev_var rfl) (ea_cons (ev_var rfl) (ea_cons (ev_var rfl) (ea_cons (ev_var rfl) (ea_cons (ev_var rfl) (ea_cons (ev_var rfl) ea_nil)))))) rfl (hm := h36)))) (fun _ => (eb_ret ev_bool rfl rfl))
(fun _ => (eb_nil rfl (.keep (.keep (.keep (.keep (.keep (.keep (.keep (.keep (.keep (.keep (.keep (.drop (.drop .nil))))))))))))) rfl (Nat.le_of_ble_eq_true rfl) rfl)))))))
(fun s32 => eb_bind fun r37 h37 => (eb_ret (ev_call (ts := [tv (rD (ky2 keInt keInt) rBool) r23, tv (rSq .l rInt) s4.2.2, tv (rSq .l (rSq .l rInt)) s18.2]) (x := (r23, s4.2.2, s18.2)) (ea_cons (ev_var rfl) (ea_cons (ev_var rfl) (ea_cons (ev_var rfl) ea_nil))) (hm := h37)) rfl rfl))))))))))))))))))))))))))))))))
theorem ok_law (T : Txt fa fn K mg) : OkF P w K mg base "law" ["script"] 7 (spT K F_law) := by
  obtain ⟨fd, F⟩ := T.c.def_ 15 rfl
  exact ⟨fd, fn_law T F, FunD.bindsN F fun _ _ _ _ _ _ us hl => match us, hl with | [_], _ => rfl, F.kp, T.glob 25 rfl⟩
end
section
variable {P : Program} {w : World} {K : PySem.W.Frag} {mg : Str → Option Value}
theorem ok_all (T : Txt fa fn K mg) : ∃ fd, ∀ base, FnOk P w K mg base CX0 7 (He.ga K "law") fd ["script"] (spT K F_law) ∧ ∀ s us, us.length = 1 → BindsTo s fd ⟨us, []⟩ ((["script"] : List Str).zip us) := by
  obtain ⟨fd, F⟩ := T.c.def_ 15 rfl
  exact ⟨fd, fun base => ⟨fn_law T F, FunD.bindsA (ps := ["script"]) F fun _ _ _ _ _ _ us hl => match us, hl with | [_], _ => rfl⟩⟩
end
end K18

namespace K18
open PySem PySem.Spec PyProof.Rows L2 TL
def lo0 : List PySem.Str := ["__name__", "VALUES", "FAILS", "UNDECIDED", "HOLDS", "known_value", "_rank", "_carried_rank", "_law_bag", "_law_mixed", "_law_take", "_law_row", "_law_known", "_law_still", "_law_same", "_law_worth"]
def lo1 : List PySem.Str := ["_law_due", "_law_both", "_law_on", "_law_asked"]
def loose : List PySem.Str := lo0 ++ lo1
abbrev Rw : PySem.W.OpenRow := PySem.W.OpenLaw.row PySem.Challenge.rw_rulewheel_k18_known_values
def xs : List PySem.Str := (["_law_bag", "_law_mixed", "_law_take", "_law_row", "_law_known", "_law_same", "_rank", "_carried_rank", "known_value", "_law_both", "_law_on", "_law_worth", "_law_due", "_law_asked", "_law_still", "law"] : List PySem.Str) ++ (["VALUES"] : List PySem.Str)
abbrev hk : PySem.W.Hook := TL.hookT xs fa fn
def ob (s : PySem.W.SharedT) : He.AlD := TL.obsTG xs fa fn (HandSHeadRun.getT s)
theorem ob_eq (s : PySem.W.SharedT) : ob s = hk.obs s.abs := TL.obsTG_eq (HandSHeadRun.getT_eq s)
theorem run (w : World) : HandSHeadRun.RunEq Rw (PySem.W.view Rw.prog [21]) hk ob 4000 loose w := by
  intro os
  kernel_rfl
theorem sp_law {K : PySem.W.Frag} {H : Hp} {a : Addr} {ns : List Int} (hl : ns.length ≤ 63) (hS : SqL K H a (ns.map V.int)) : spT K F_law [.ref a] H (fun v _ => v = .bl true) (fun _ _ _ => False) := by
  refine ⟨ns, true, H, [], law_true ns hl, ⟨Same.refl _, Same.refl _, fun _ _ e => .inl e, fun _ _ e _ => e, Pre.refl _, rfl, List.nodup_nil, fun k m e => by simp at e, fun a ha => by simp at ha, fun a ha => by simp at ha⟩, .cons ⟨a, ns.map V.int, rfl, hS, ?_, ints_allT ns⟩ .nil, ?_⟩
  · rw [List.length_map]
    exact Nat.le_trans hl (by decide)
  · exact fun v S' ls' H' Mj _ h => h
end K18
open PySem PySem.W PySem.Calls PyProof.Rows
theorem PySem.Challenge.cw_rulewheel_k18_known_values_holds : PySem.Challenge.rw_rulewheel_k18_known_values.Holds := by
  w_on; o_law
  refine HandSHeadRun.head_any (r := OpenLaw.row PySem.Challenge.rw_rulewheel_k18_known_values) (q := view (OpenLaw.row PySem.Challenge.rw_rulewheel_k18_known_values).prog [21]) (H := K18.hk) (ob := K18.ob) (M := 4000) (loose := K18.loose) (d := HandSHeadRun.topDef (OpenLaw.row PySem.Challenge.rw_rulewheel_k18_known_values).prog 21) (kwd := []) K18.ob_eq
    (by kernel_rfl) (fun s => by kernel_rfl) K18.run (by kernel_rfl) (by kernel_rfl) (by kernel_rfl) (by rfl) (by first | assumption | decide +kernel) (by decide +kernel) ⟨rfl, rfl, rfl, rfl, rfl, by decide +kernel⟩ ?hw ?hc
  case hw => w_witness2
  case hc =>
    refine L2.walk_ofE (l := PySem.Challenge.rw_rulewheel_k18_known_values) (n := 63) (k := 7) (x := "script") (CX := L2.CX0) rfl (by decide) (by kernel_rfl) ⟨rfl, by decide, by decide⟩ ?F (fun _ _ _ _ z => z)
    intro w mg fa h Y G hmg0
    obtain ⟨K, KX, c⟩ := Y
    have hmg : mg ("law" : PySem.Str) = some (.ref fa) := by
      have e : (HandSHeadRun.topDef (OpenLaw.row PySem.Challenge.rw_rulewheel_k18_known_values).prog 21).name = ("law" : PySem.Str) := by kernel_rfl
      rw [← e]
      exact hmg0
    have T := TL.Txt.mk' KX G c
    obtain ⟨fd, _, _, _, g⟩ := K18.ok_law (P := (PySem.Challenge.rw_rulewheel_k18_known_values).prog) (w := w) (base := h) T
    have efa : fa = He.ga K "law" := by
      rw [hmg] at g
      cases g
      rfl
    subst efa
    obtain ⟨fd, hF⟩ := K18.ok_all (P := (PySem.Challenge.rw_rulewheel_k18_known_values).prog) (w := w) T
    exact ⟨K, fd, TL.spT K K18.F_law, KX, fun s v => (hF h).2 s [v] rfl, fun H a ns hl _ hS => K18.sp_law hl hS, fun base _ _ => (hF base).1⟩
